import PyProof.Rows.All
import HandS.ExcInit
import HandS.ExcField
import KE.KExcInit
import Wide.All
import OpenK.AllK
import Wide.FinOn
import KE.KStateDown
import HandS.ForMost
import HandS.Exc
import HandS.ExcOwn
import HandS.TryOnly
import HandS.TryMany
import HandS.WordsExc
import HandS.Flow
import HandS.Walk
import HandS.Steps
import HandS.Evl
import HandS.Zip
import HandS.IsInst
import HandS.Wide
import HandS.TupAny
import HandS.RaiseMore
import HandS.Defaults
import HandS.More
import HandS.Head0
import HandS.Head1
import HandS.Head2
import HandS.HeadEnd
import HandS.HeadHook1
import HandS.HeadHook2
import HandS.HeadHook4
import HandS.Set
import HandS.Strs
import HandS.SetBool
import HandS.TupSets
import HandS.SetTxt0
import HandS.SetFor
import HandS.SetTxtIn
import PyProof.EnumMake
import KE.SortData
import HandS.MakeKwOnly
import HandS.Replace
import HandS.Dict
import HandS.Deep
import HandS.CallSlots
import HandS.Style
import KE.GoesEnum
import KE.GoesMore
import HandS.Conv
import HandS.Lambda
import HandS.EndTab
import HandS.HeadWalk
import HandS.NestedK
import HandS.DictComp
import HandS.DictTup
import HandS.Iter
import KE.KDictSum
import KE.DatumOrd
import KE.KUnpackStar
import HandS.OwnEq
import HandS.Codes
import HandS.HeadHook3
import KE.KDictDisplayH
import KE.KSortKey
import KE.SortKeyHeap
import HandS.SortKw
import HandS.Nested
import HandS.TupLen
import KE.DataMinMax
import KE.DatumMoreOrd
import HandS.Small
import PyProof.NeKinds
import HandS.TupMul
import KE.DatumIndex
import Wide.Once
import Lean
import HandS.Base
import HandS.Call
import HandS.Ends
import HandS.Words
import PySem.Challenge.RW_gulprow_k44_rounds_judged
set_option autoImplicit true
set_option Elab.async false
set_option linter.all false
set_option maxRecDepth 100000
set_option maxHeartbeats 4000000
/-! # Exception classes over any of the built-in bases, made by their own __init__ -/
namespace Gk
open PySem PySem.Spec PyProof.Rows L2
open Builtin Builtin.ObjectAttr
/-- own classes, then the base's line -/
def ownT (tl : List Value) : List Value → Bool
  | .ref _ :: r => ownT tl r
  | l => l == tl
/-! ### rules -/
/-! ### what the head tells of such a class -/
def oexGB (K : PySem.W.Frag) (newId : String) (tl : List Value) (C : Addr) : Bool := match K.lookup C with
  | some ⟨.type t, _, .cls cd, sl⟩ => (match cd.mro, sl.toList with
    | .ref C' :: bm, [_, _, _, _, some (.builtin n), _] => decide (t = "type") && (decide (C' = C) && (decide (n = newId) && (!cd.hasDel && (cd.hasDict && ownT tl bm))))
    | _, _ => false)
  | _ => false
abbrev leT : List Value := [.type "LookupError", .type "Exception", .type "BaseException", .type "object"]
end Gk
set_option autoImplicit true
set_option Elab.async false
set_option linter.all false
set_option maxRecDepth 100000
set_option maxHeartbeats 4000000
/-! # The common part: facts of the top, callees, steps of readings -/
namespace Gk
open PySem PySem.Spec PyProof.Rows L2

/-! ## 1. Facts of the top beyond those of the modules -/
/-- an own exception class under ValueError, as ExcInit wants it -/
def oexB (K : PySem.W.Frag) (C : Addr) : Bool := match K.lookup C with
  | some ⟨.type t, _, .cls cd, sl⟩ => (match cd.mro, sl.toList with
    | .ref C' :: bm, [_, _, _, _, some (.builtin n), _] => decide (t = "type") && (decide (C' = C) && (decide (n = "ValueError.__new__") && (!cd.hasDel && (cd.hasDict && PySem.HandSPX.refsVE bm))))
    | _, _ => false)
  | _ => false
inductive Fx where
  /-- an exception class with an __init__ of its own -/
  | oex (x : Str)
  /-- .. over LookupError -/
  | oexL (x : Str)
  /-- the class is an exception's (what a clause names) -/
  | exc (x : Str)
  | field (x f : Str)
  | exm (x y : Str) (b : Bool)
  | str (x z : Str)
  | tup (x : Str) (vs : List He.Dv)
  /-- what isinstance asks of an own class -/
  | isC (x : Str)
  /-- two defs' tables of code objects stand apart -/
  | ptn (x y : Str)
def Fx.ok (K : PySem.W.Frag) : Fx → Bool
  | .oex x => oexB K (He.ga K x) && (decide (PySem.W.findIn K (.ref (He.ga K x)) "__setattr__" = some (some (.builtin "object.__setattr__"))) && (decide (PySem.W.subIn K (.ref (He.ga K x)) (.type "BaseException") = some true) && (decide (PySem.W.typeIn K (.ref (He.ga K x)) = some (.type "type")) &&
      (PySem.W.keepIn K (.ref (He.ga K x)) && (decide (PySem.W.findIn K (.ref (He.ga K x)) "__init__" = some (some (.ref (He.ma K (He.ga K x) "__init__")))) && (decide (PySem.W.typeIn K (.ref (He.ma K (He.ga K x) "__init__")) = some (.type "function")) && xfB K (He.ga K x)))))))
  | .oexL x => oexGB K "LookupError.__new__" leT (He.ga K x) && (decide (PySem.W.findIn K (.ref (He.ga K x)) "__setattr__" = some (some (.builtin "object.__setattr__"))) && (decide (PySem.W.subIn K (.ref (He.ga K x)) (.type "BaseException") = some true) && (decide (PySem.W.typeIn K (.ref (He.ga K x)) = some (.type "type")) &&
      (PySem.W.keepIn K (.ref (He.ga K x)) && (decide (PySem.W.findIn K (.ref (He.ga K x)) "__init__" = some (some (.ref (He.ma K (He.ga K x) "__init__")))) && (decide (PySem.W.typeIn K (.ref (He.ma K (He.ga K x) "__init__")) = some (.type "function")) && xfB K (He.ga K x)))))))
  | .exc x => decide (PySem.W.subIn K (.ref (He.ga K x)) (.type "BaseException") = some true) && decide (PySem.W.typeIn K (.ref (He.ga K x)) = some (.type "type"))
  | .field x f => decide (PySem.W.findIn K (.ref (He.ga K x)) f = some none)
  | .exm x y b => decide (PySem.W.exmOne K (.ref (He.ga K x)) (.ref (He.ga K y)) = some b)
  | .str x z => (match PySem.W.nsIn K mainGlobals x with
    | some (some (.str y _)) => decide (y = z)
    | _ => false)
  | .tup x vs => He.tupB K x vs
  | .ptn x y => decide ((He.cT K (x, none)).2 ≠ (He.cT K (y, none)).2)
  | .isC x => decide (PySem.W.findIn K (.ref (He.ga K x)) "__class__" = some (some (.builtin "object.__class__"))) && (decide (PySem.W.specialIn K (.builtin "object.__class__") "__get__" = some (some (.builtin "getset_descriptor.__get__"))) && (decide (PySem.W.takesIn K (.builtin "object.__class__") = some true) && (decide (PySem.W.mroIn K (He.ga K x) (.type "object") = some true) && decide (PySem.W.kitOne K (.ref (He.ga K x)) (.ref (He.ga K x)) = some true))))
/-! ## 2. The head's Hook -/
abbrev AlX : Type := Bool × List He.FnW
def obsX (fa : List He.Fa) (fx : List Fx) (fn : List He.DefD) (K : PySem.W.Frag) : AlX := ((fa.all fun f => f.ok K) && ((fx.all fun f => f.ok K) && fn.all fun d => d.ok K), fn.map fun d => He.fnW K d.at_)
def valX (fn : List He.DefD) : AlX := (true, fn.map He.DefD.val)
def SaysX (fa : List He.Fa) (fx : List Fx) (fn : List He.DefD) (K : PySem.W.Frag) : Prop := obsX fa fx fn K = valX fn
/-- the addresses that the top leads to, each once: by a mask of bits (eraseDups costs 5 GB of the run) -/
def dedB : List Addr → Nat → List Addr
  | [], _ => []
  | a :: r, m => match Nat.beq (Nat.land (Nat.shiftRight m a) 1) 1 with
    | true => dedB r m
    | false => a :: HandSHeadRun.frNat (Nat.lor m (Nat.shiftLeft 1 a)) fun m2 => dedB r m2
def growB (g : Addr → Option Obj) (as : List Addr) : List Addr := dedB (as ++ as.flatMap fun a => match g a with
  | some o => He.refsD o
  | none => []) 0
def asB (g : Addr → Option Obj) : Nat → List Addr
  | 0 => [mainGlobals]
  | n + 1 => growB g (asB g n)
end Gk
set_option Elab.async false
set_option autoImplicit false
set_option linter.all false
set_option maxRecDepth 100000
set_option maxHeartbeats 4000000
/-! # Sets of tuples whose items are ints and texts: adding, gathering, sorting; the set comprehension over any kind of set -/
set_option Elab.async false
set_option autoImplicit false
set_option linter.all false
set_option maxRecDepth 100000
set_option maxHeartbeats 4000000
set_option Elab.async false
set_option autoImplicit false
set_option linter.all false
set_option maxRecDepth 100000
set_option maxHeartbeats 4000000
/-! # Sets as things of the layer: rules and steps -/
set_option Elab.async false
set_option autoImplicit false
set_option linter.all false
set_option maxRecDepth 100000
set_option maxHeartbeats 4000000
/-! # Own classes, dicts, lists that grow: rules by name, steps -/
set_option Elab.async false
set_option autoImplicit false
set_option linter.all false
set_option maxRecDepth 100000
set_option maxHeartbeats 4000000
/-! # LookupErrors with a field, deep membership in tuples, while, slices by codes -/
set_option Elab.async false
set_option autoImplicit false
set_option linter.all false
set_option maxRecDepth 100000
set_option maxHeartbeats 4000000
/-! # enumerate over tuples, rows that are lists or tuples -/
set_option Elab.async false
set_option autoImplicit false
set_option linter.all false
set_option maxRecDepth 100000
set_option maxHeartbeats 4000000
/-! # lambdas without parameters, handed to a def that calls them; a Hook that tells empty tables -/
namespace Gk
open PySem PySem.Spec PyProof.Rows L2 LamX
/-! ## the Hook -/
structure SaysL (fa : List He.Fa) (fx : List Fx) (fn : List He.DefD) (tf : List He.Defn) (h : Heap) (K : PySem.W.Frag) : Prop where
  x : SaysX fa fx fn K
  hd : ∀ p ∈ tf, PySem.W.codeHdIn K (He.cT K p).1 (He.cT K p).2 = true
  out : ∀ p ∈ tf, K.lookup (He.cT K p).2 = none
  empty : ∀ p ∈ tf, h.get? (He.cT K p).2 = some { cls := .none, data := .fields #[] }
abbrev AlL : Type := AlX × Bool
def obsLG (n : Nat) (fa : List He.Fa) (fx : List Fx) (fn : List He.DefD) (tf : List He.Defn) (g : Addr → Option Obj) : AlL := (obsX fa fx fn (He.frT g (asB g n)), He.tabsB g tf (He.frT g (asB g n)))
theorem saysL_of {n : Nat} {fa : List He.Fa} {fx : List Fx} {fn : List He.DefD} {tf : List He.Defn} {h : Heap} (e : obsLG n fa fx fn tf h.get? = (valX fn, true)) : SaysL fa fx fn tf h (He.frT h.get? (asB h.get? n)) := by
  have e1 : obsX fa fx fn (He.frT h.get? (asB h.get? n)) = valX fn := congrArg (fun z : AlL => z.1) e
  have e2 : He.tabsB h.get? tf (He.frT h.get? (asB h.get? n)) = true := congrArg (fun z : AlL => z.2) e
  have key : ∀ p ∈ tf, PySem.W.codeHdIn (He.frT h.get? (asB h.get? n)) (He.cT (He.frT h.get? (asB h.get? n)) p).1 (He.cT (He.frT h.get? (asB h.get? n)) p).2 = true ∧ ∃ o, h.get? (He.cT (He.frT h.get? (asB h.get? n)) p).2 = some o ∧ He.emptyTab o = true := fun p hp => by
    obtain ⟨h3, h4⟩ := He.ba (List.all_eq_true.mp e2 p hp)
    refine ⟨h3, ?_⟩
    cases q : h.get? (He.cT (He.frT h.get? (asB h.get? n)) p).2 with
    | none =>
      rw [q] at h4
      cases h4
    | some o =>
      rw [q] at h4
      exact ⟨o, rfl, h4⟩
  exact ⟨e1, fun p hp => (key p hp).1, fun p hp => by
    obtain ⟨_, o, q, z⟩ := key p hp
    exact He.frT_none q z, fun p hp => by
    obtain ⟨_, o, q, z⟩ := key p hp
    rw [q, He.emptyTab_eq z]⟩
def hookL (n : Nat) (fa : List He.Fa) (fx : List Fx) (fn : List He.DefD) (tf : List He.Defn) : PySem.W.Hook where
  α := AlL
  obs := fun s => obsLG n fa fx fn tf s.heap.get?
  val := fun _ => (valX fn, true)
  says := fun _ h => ∃ K : PySem.W.Frag, K.In h ∧ SaysL fa fx fn tf h K
  of := fun _ _ e => ⟨_, He.frT_in, saysL_of e⟩
  keeps := fun _ _ _ ⟨K, hK, c⟩ k => ⟨K, PySem.W.Frag.In.keeps hK k, ⟨c.x, c.hd, c.out, fun p hp => k _ _ (c.empty p hp)⟩⟩
theorem obsLG_eq {n : Nat} {fa : List He.Fa} {fx : List Fx} {fn : List He.DefD} {tf : List He.Defn} {g : Addr → Option Obj} {s : Shared} (h : ∀ a, g a = s.heap.get? a) : obsLG n fa fx fn tf g = (hookL n fa fx fn tf).obs s := by
  have e : g = s.heap.get? := funext h
  rw [e] <;> rfl
end Gk
set_option autoImplicit true
set_option pp.maxSteps 1200
set_option Elab.async false
set_option linter.all false
set_option maxRecDepth 100000
set_option maxHeartbeats 1000000

namespace Lw
open PySem PySem.Spec PyProof.Rows L2 Gk
def top (i : Nat) : Stmt := PySem.Challenge.pw_gulprow_k44_rounds_judged.main.body.getD i (.Pass ⟨0, 0, 0, 0⟩)
abbrev s_Lbag : Stmt := (top 50)
theorem sc_Lbag : FnScope ["_law_script", "_law_cells", "_law_knot", "_law_cell"] ["_law_script"] (defScope s_Lbag) := ⟨rfl, rfl, rfl, by decide +kernel, rfl, by decide +kernel, by decide +kernel⟩
abbrev s_Lpull : Stmt := (top 51)
theorem sc_Lpull : FnScope ["_law_bag_here", "_law_upto", "_law_drawn", "_law_seed", "_law_fold", "_law_twist"] ["_law_bag_here", "_law_upto"] (defScope s_Lpull) := ⟨rfl, rfl, rfl, by decide +kernel, rfl, by decide +kernel, by decide +kernel⟩
abbrev s_Lone : Stmt := (top 52)
theorem sc_Lone : FnScope ["_law_bag_here", "_law_row_here"] ["_law_bag_here", "_law_row_here"] (defScope s_Lone) := ⟨rfl, rfl, rfl, by decide +kernel, rfl, by decide +kernel, by decide +kernel⟩
abbrev s_Lsame : Stmt := (top 53)
theorem sc_Lsame : FnScope ["_law_found", "_law_due", "_law_same_here", "_law_one_here", "_law_other"] ["_law_found", "_law_due"] (defScope s_Lsame) := ⟨rfl, rfl, rfl, by decide +kernel, rfl, by decide +kernel, by decide +kernel⟩
abbrev s_Lletters : Stmt := (top 55)
theorem sc_Lletters : FnScope ["_law_bag_here", "_law_many", "_law_spot", "_law_step", "_law_k"] ["_law_bag_here", "_law_many"] (defScope s_Lletters) := ⟨rfl, rfl, rfl, by decide +kernel, rfl, by decide +kernel, by decide +kernel⟩
abbrev s_word_count : Stmt := (top 22)
theorem sc_word_count : FnScope ["letters", "most"] ["letters", "most"] (defScope s_word_count) := ⟨rfl, rfl, rfl, by decide +kernel, rfl, by decide +kernel, by decide +kernel⟩
abbrev s_need_letters : Stmt := (top 23)
theorem sc_need_letters : FnScope ["letters", "sign"] ["letters"] (defScope s_need_letters) := ⟨rfl, rfl, rfl, by decide +kernel, rfl, by decide +kernel, by decide +kernel⟩
abbrev s_need_table : Stmt := (top 24)
theorem sc_need_table : FnScope ["table", "many", "at", "row", "to"] ["table", "many"] (defScope s_need_table) := ⟨rfl, rfl, rfl, by decide +kernel, rfl, by decide +kernel, by decide +kernel⟩
abbrev s_need_eats : Stmt := (top 25)
theorem sc_need_eats : FnScope ["eats", "tastes", "at", "side", "one", "other"] ["eats", "tastes"] (defScope s_need_eats) := ⟨rfl, rfl, rfl, by decide +kernel, rfl, by decide +kernel, by decide +kernel⟩
abbrev s_House_init : Stmt := (inClass (top 26) 0)
theorem sc_House_init : FnScope ["self", "letters", "table", "eats", "chew", "put", "most", "cut", "row", "side", "one", "other", "sign"] ["self", "letters", "table", "eats", "chew", "put", "most", "cut"] (defScope s_House_init) := ⟨rfl, rfl, rfl, by decide +kernel, rfl, by decide +kernel, by decide +kernel⟩
abbrev s_House_letters : Stmt := (inClass (top 26) 6)
theorem sc_House_letters : FnScope ["self"] ["self"] (defScope s_House_letters) := ⟨rfl, rfl, rfl, by decide +kernel, rfl, by decide +kernel, by decide +kernel⟩
abbrev s_House_most : Stmt := (inClass (top 26) 11)
theorem sc_House_most : FnScope ["self"] ["self"] (defScope s_House_most) := ⟨rfl, rfl, rfl, by decide +kernel, rfl, by decide +kernel, by decide +kernel⟩
abbrev s_House_tasted : Stmt := (inClass (top 26) 13)
theorem sc_House_tasted : FnScope ["self", "word", "here", "sign"] ["self", "word"] (defScope s_House_tasted) := ⟨rfl, rfl, rfl, by decide +kernel, rfl, by decide +kernel, by decide +kernel⟩
abbrev s_House_chew : Stmt := (inClass (top 26) 9)
theorem sc_House_chew : FnScope ["self"] ["self"] (defScope s_House_chew) := ⟨rfl, rfl, rfl, by decide +kernel, rfl, by decide +kernel, by decide +kernel⟩
abbrev s_House_put : Stmt := (inClass (top 26) 10)
theorem sc_House_put : FnScope ["self"] ["self"] (defScope s_House_put) := ⟨rfl, rfl, rfl, by decide +kernel, rfl, by decide +kernel, by decide +kernel⟩
abbrev s_House_cut : Stmt := (inClass (top 26) 12)
theorem sc_House_cut : FnScope ["self"] ["self"] (defScope s_House_cut) := ⟨rfl, rfl, rfl, by decide +kernel, rfl, by decide +kernel, by decide +kernel⟩
abbrev s_is_word : Stmt := (top 31)
theorem sc_is_word : FnScope ["house", "text", "sign"] ["house", "text"] (defScope s_is_word) := ⟨rfl, rfl, rfl, by decide +kernel, rfl, by decide +kernel, by decide +kernel⟩
abbrev s_BadWord_init : Stmt := (inClass (top 11) 0)
theorem sc_BadWord_init : FnScope ["self", "at"] ["self", "at"] (defScope s_BadWord_init) := ⟨rfl, rfl, rfl, by decide +kernel, rfl, by decide +kernel, by decide +kernel⟩
abbrev s_need_row : Stmt := (top 32)
theorem sc_need_row : FnScope ["house", "row", "at", "word"] ["house", "row"] (defScope s_need_row) := ⟨rfl, rfl, rfl, by decide +kernel, rfl, by decide +kernel, by decide +kernel⟩
abbrev s_cut_long : Stmt := (top 34)
theorem sc_cut_long : FnScope ["house", "long", "found", "left"] ["house", "long"] (defScope s_cut_long) := ⟨rfl, rfl, rfl, by decide +kernel, rfl, by decide +kernel, by decide +kernel⟩
abbrev s_grown : Stmt := (top 35)
theorem sc_grown : FnScope ["house", "eater", "eaten", "side"] ["house", "eater", "eaten", "side"] (defScope s_grown) := ⟨rfl, rfl, rfl, by decide +kernel, rfl, by decide +kernel, by decide +kernel⟩
abbrev s_behind : Stmt := (top 36)
theorem sc_behind : FnScope ["house", "row", "place", "side", "other", "eater", "eaten", "low", "made"] ["house", "row", "place", "side"] (defScope s_behind) := ⟨rfl, rfl, rfl, by decide +kernel, rfl, by decide +kernel, by decide +kernel⟩
abbrev s_bites_of : Stmt := (top 37)
theorem sc_bites_of : FnScope ["house", "row", "found", "place", "side", "made"] ["house", "row"] (defScope s_bites_of) := ⟨rfl, rfl, rfl, by decide +kernel, rfl, by decide +kernel, by decide +kernel⟩
abbrev s_followed : Stmt := (top 38)
theorem sc_followed : FnScope ["house", "row", "steps", "here", "number", "place", "side", "made"] ["house", "row", "steps"] (defScope s_followed) := ⟨rfl, rfl, rfl, by decide +kernel, rfl, by decide +kernel, by decide +kernel⟩
abbrev s_place_within : Stmt := (top 44)
theorem sc_place_within : FnScope ["part", "row", "at"] ["part", "row"] (defScope s_place_within) := ⟨rfl, rfl, rfl, by decide +kernel, rfl, by decide +kernel, by decide +kernel⟩
abbrev s_Tree_init : Stmt := (inClass (top 43) 0)
theorem sc_Tree_init : FnScope ["self", "house", "row"] ["self", "house", "row"] (defScope s_Tree_init) := ⟨rfl, rfl, rfl, by decide +kernel, rfl, by decide +kernel, by decide +kernel⟩
abbrev s_Tree_way : Stmt := (inClass (top 43) 1)
theorem sc_Tree_way : FnScope ["self", "row", "top", "found", "here", "bite"] ["self", "row", "top"] (defScope s_Tree_way) := ⟨rfl, rfl, rfl, by decide +kernel, rfl, by decide +kernel, by decide +kernel⟩
abbrev s_Tree_round_at : Stmt := (inClass (top 43) 2)
theorem sc_Tree_round_at : FnScope ["self", "row", "here", "at", "ways"] ["self", "row"] (defScope s_Tree_round_at) := ⟨rfl, rfl, rfl, by decide +kernel, rfl, by decide +kernel, by decide +kernel⟩
abbrev s_Tree_next_rows : Stmt := (inClass (top 43) 3)
theorem sc_Tree_next_rows : FnScope ["self", "row", "bite", "made"] ["self", "row"] (defScope s_Tree_next_rows) := ⟨rfl, rfl, rfl, by decide +kernel, rfl, by decide +kernel, by decide +kernel⟩
abbrev s_Tree_grown : Stmt := (inClass (top 43) 4)
theorem sc_Tree_grown : FnScope ["self", "most", "at", "here", "bite", "there", "found"] ["self", "most"] (defScope s_Tree_grown) := ⟨rfl, rfl, rfl, by decide +kernel, rfl, by decide +kernel, by decide +kernel⟩
abbrev s_Tree_longest : Stmt := (inClass (top 43) 5)
theorem sc_Tree_longest : FnScope ["self", "found", "fresh", "row", "some", "bite", "there"] ["self"] (defScope s_Tree_longest) := ⟨rfl, rfl, rfl, by decide +kernel, rfl, by decide +kernel, by decide +kernel⟩
abbrev s_Tree_ring : Stmt := (inClass (top 43) 6)
theorem sc_Tree_ring : FnScope ["self", "known", "here", "met", "steps", "bite", "row", "there"] ["self", "known"] (defScope s_Tree_ring) := ⟨rfl, rfl, rfl, by decide +kernel, rfl, by decide +kernel, by decide +kernel⟩
abbrev s_BadNumber_init : Stmt := (inClass (top 12) 0)
theorem sc_BadNumber_init : FnScope ["self", "number"] ["self", "number"] (defScope s_BadNumber_init) := ⟨rfl, rfl, rfl, by decide +kernel, rfl, by decide +kernel, by decide +kernel⟩
abbrev s_fate : Stmt := (top 45)
theorem sc_fate : FnScope ["house", "row", "most", "tree", "found", "known"] ["house", "row", "most"] (defScope s_fate) := ⟨rfl, rfl, rfl, by decide +kernel, rfl, by decide +kernel, by decide +kernel⟩
abbrev s_Lmeasures : Stmt := (top 56)
theorem sc_Lmeasures : FnScope ["_law_bag_here", "_law_sort", "_law_some"] ["_law_bag_here", "_law_sort"] (defScope s_Lmeasures) := ⟨rfl, rfl, rfl, by decide +kernel, rfl, by decide +kernel, by decide +kernel⟩
abbrev s_Lhouse : Stmt := (top 57)
theorem sc_Lhouse : FnScope ["_law_bag_here", "_law_sort", "_law_most_words", "_law_many", "_law_sizes", "_law_letters_here", "_law_longest", "_law_rooms", "_law_table", "_law_triples", "_law_k", "_law_chewing", "_law_plus", "_law_m", "_law_size", "_law_row_here", "_law_sign"] ["_law_bag_here", "_law_sort", "_law_most_words"] (defScope s_Lhouse) := ⟨rfl, rfl, rfl, by decide +kernel, rfl, by decide +kernel, by decide +kernel⟩
abbrev s_Lmade : Stmt := (top 58)
theorem sc_Lmade : FnScope ["_law_m", "_law_table", "_law_triples", "_law_row_here"] ["_law_m"] (defScope s_Lmade) := ⟨rfl, rfl, rfl, by decide +kernel, rfl, by decide +kernel, by decide +kernel⟩
abbrev s_Lwords : Stmt := (top 59)
theorem sc_Lwords : FnScope ["_law_m", "_law_found", "_law_last", "_law_size", "_law_longer", "_law_word", "_law_sign"] ["_law_m"] (defScope s_Lwords) := ⟨rfl, rfl, rfl, by decide +kernel, rfl, by decide +kernel, by decide +kernel⟩
abbrev s_Ltaste : Stmt := (top 60)
theorem sc_Ltaste : FnScope ["_law_m", "_law_word", "_law_here", "_law_sign"] ["_law_m", "_law_word"] (defScope s_Ltaste) := ⟨rfl, rfl, rfl, by decide +kernel, rfl, by decide +kernel, by decide +kernel⟩
abbrev s_Lcut : Stmt := (top 61)
theorem sc_Lcut : FnScope ["_law_m", "_law_long", "_law_found", "_law_left"] ["_law_m", "_law_long"] (defScope s_Lcut) := ⟨rfl, rfl, rfl, by decide +kernel, rfl, by decide +kernel, by decide +kernel⟩
abbrev s_Lgrown : Stmt := (top 62)
theorem sc_Lgrown : FnScope ["_law_m", "_law_eater", "_law_eaten", "_law_edge", "_law_rest", "_law_k"] ["_law_m", "_law_eater", "_law_eaten", "_law_edge"] (defScope s_Lgrown) := ⟨rfl, rfl, rfl, by decide +kernel, rfl, by decide +kernel, by decide +kernel⟩
abbrev s_Lbehind : Stmt := (top 63)
theorem sc_Lbehind : FnScope ["_law_m", "_law_row_here", "_law_place", "_law_edge", "_law_other", "_law_low", "_law_made_here"] ["_law_m", "_law_row_here", "_law_place", "_law_edge"] (defScope s_Lbehind) := ⟨rfl, rfl, rfl, by decide +kernel, rfl, by decide +kernel, by decide +kernel⟩
abbrev s_Lrow : Stmt := (top 64)
theorem sc_Lrow : FnScope ["_law_bag_here", "_law_m", "_law_most_words", "_law_shelf", "_law_k"] ["_law_bag_here", "_law_m", "_law_most_words"] (defScope s_Lrow) := ⟨rfl, rfl, rfl, by decide +kernel, rfl, by decide +kernel, by decide +kernel⟩
abbrev s_Lwalk : Stmt := (top 65)
theorem sc_Lwalk : FnScope ["_law_m", "_law_row_here", "_law_steps", "_law_here", "_law_place", "_law_edge"] ["_law_m", "_law_row_here", "_law_steps"] (defScope s_Lwalk) := ⟨rfl, rfl, rfl, by decide +kernel, rfl, by decide +kernel, by decide +kernel⟩
abbrev s_Lround_of : Stmt := (top 66)
theorem sc_Lround_of : FnScope ["_law_m", "_law_row_here", "_law_told", "_law_here", "_law_there"] ["_law_m", "_law_row_here", "_law_told"] (defScope s_Lround_of) := ⟨rfl, rfl, rfl, by decide +kernel, rfl, by decide +kernel, by decide +kernel⟩
abbrev s_Lgoing_house : Stmt := (top 67)
theorem sc_Lgoing_house : FnScope ["_law_bag_here", "_law_m"] ["_law_bag_here"] (defScope s_Lgoing_house) := ⟨rfl, rfl, rfl, by decide +kernel, rfl, by decide +kernel, by decide +kernel⟩
abbrev s_turned : Stmt := (top 46)
theorem sc_turned : FnScope ["house", "row", "told", "word", "steps", "turn", "before", "rest", "here", "number", "there"] ["house", "row", "told"] (defScope s_turned) := ⟨rfl, rfl, rfl, by decide +kernel, rfl, by decide +kernel, by decide +kernel⟩
abbrev s_fate_holds : Stmt := (top 47)
theorem sc_fate_holds : FnScope ["house", "row", "told"] ["house", "row", "told"] (defScope s_fate_holds) := ⟨rfl, rfl, rfl, by decide +kernel, rfl, by decide +kernel, by decide +kernel⟩
abbrev s_BadWish_init : Stmt := (inClass (top 13) 0)
theorem sc_BadWish_init : FnScope ["self"] ["self"] (defScope s_BadWish_init) := ⟨rfl, rfl, rfl, by decide +kernel, rfl, by decide +kernel, by decide +kernel⟩
abbrev s_rounds : Stmt := (top 48)
theorem sc_rounds : FnScope ["house", "row", "told", "many", "here"] ["house", "row", "told", "many"] (defScope s_rounds) := ⟨rfl, rfl, rfl, by decide +kernel, rfl, by decide +kernel, by decide +kernel⟩
abbrev s_Lwhy : Stmt := (top 54)
theorem sc_Lwhy : FnScope ["_law_ask", "_law_answer", "_law_word", "e"] ["_law_ask"] (defScope s_Lwhy) := ⟨rfl, rfl, rfl, by decide +kernel, rfl, by decide +kernel, by decide +kernel⟩
abbrev s_Lbent_round : Stmt := (top 68)
theorem sc_Lbent_round : FnScope ["_law_bag_here", "_law_told", "_law_word_in", "_law_lists", "_law_fork", "_law_at", "_law_place", "_law_edge", "_law_one_here"] ["_law_bag_here", "_law_told", "_law_word_in"] (defScope s_Lbent_round) := ⟨rfl, rfl, rfl, by decide +kernel, rfl, by decide +kernel, by decide +kernel⟩
abbrev s_law : Stmt := (top 69)
theorem sc_law : FnScope ["_law_script", "_law_bag_here", "_law_k", "_law_m", "_law_house_here", "_law_row_here", "_law_told", "_law_bent", "_law_good", "_law_kept_lists", "_law_many", "_law_due", "_law_one_here"] ["_law_script"] (defScope s_law) := ⟨rfl, rfl, rfl, by decide +kernel, rfl, by decide +kernel, by decide +kernel⟩
def dd0 : He.DefD := ⟨("_law_bag", none), "_law_bag", "_law_bag", defArgs s_Lbag, defBody s_Lbag, defScope s_Lbag, [], []⟩
def dd1 : He.DefD := ⟨("_law_pull", none), "_law_pull", "_law_pull", defArgs s_Lpull, defBody s_Lpull, defScope s_Lpull, [], []⟩
def dd2 : He.DefD := ⟨("_law_one", none), "_law_one", "_law_one", defArgs s_Lone, defBody s_Lone, defScope s_Lone, [], []⟩
def dd3 : He.DefD := ⟨("_law_same", none), "_law_same", "_law_same", defArgs s_Lsame, defBody s_Lsame, defScope s_Lsame, [], []⟩
def dd4 : He.DefD := ⟨("_law_letters", none), "_law_letters", "_law_letters", defArgs s_Lletters, defBody s_Lletters, defScope s_Lletters, [], []⟩
def dd5 : He.DefD := ⟨("word_count", none), "word_count", "word_count", defArgs s_word_count, defBody s_word_count, defScope s_word_count, [], []⟩
def dd6 : He.DefD := ⟨("need_letters", none), "need_letters", "need_letters", defArgs s_need_letters, defBody s_need_letters, defScope s_need_letters, [], []⟩
def dd7 : He.DefD := ⟨("need_table", none), "need_table", "need_table", defArgs s_need_table, defBody s_need_table, defScope s_need_table, [], []⟩
def dd8 : He.DefD := ⟨("need_eats", none), "need_eats", "need_eats", defArgs s_need_eats, defBody s_need_eats, defScope s_need_eats, [], []⟩
def dd9 : He.DefD := ⟨("House", some "__init__"), "__init__", "House.__init__", defArgs s_House_init, defBody s_House_init, defScope s_House_init, [], [("chew", .int 0)]⟩
def dd10 : He.DefD := ⟨("House", some "letters"), "letters", "House.letters", defArgs s_House_letters, defBody s_House_letters, defScope s_House_letters, [], []⟩
def dd11 : He.DefD := ⟨("House", some "most"), "most", "House.most", defArgs s_House_most, defBody s_House_most, defScope s_House_most, [], []⟩
def dd12 : He.DefD := ⟨("House", some "tasted"), "tasted", "House.tasted", defArgs s_House_tasted, defBody s_House_tasted, defScope s_House_tasted, [], []⟩
def dd13 : He.DefD := ⟨("House", some "chew"), "chew", "House.chew", defArgs s_House_chew, defBody s_House_chew, defScope s_House_chew, [], []⟩
def dd14 : He.DefD := ⟨("House", some "put"), "put", "House.put", defArgs s_House_put, defBody s_House_put, defScope s_House_put, [], []⟩
def dd15 : He.DefD := ⟨("House", some "cut"), "cut", "House.cut", defArgs s_House_cut, defBody s_House_cut, defScope s_House_cut, [], []⟩
def dd16 : He.DefD := ⟨("is_word", none), "is_word", "is_word", defArgs s_is_word, defBody s_is_word, defScope s_is_word, [], []⟩
def dd17 : He.DefD := ⟨("BadWord", some "__init__"), "__init__", "BadWord.__init__", defArgs s_BadWord_init, defBody s_BadWord_init, defScope s_BadWord_init, [], []⟩
def dd18 : He.DefD := ⟨("need_row", none), "need_row", "need_row", defArgs s_need_row, defBody s_need_row, defScope s_need_row, [], []⟩
def dd19 : He.DefD := ⟨("cut_long", none), "cut_long", "cut_long", defArgs s_cut_long, defBody s_cut_long, defScope s_cut_long, [], []⟩
def dd20 : He.DefD := ⟨("grown", none), "grown", "grown", defArgs s_grown, defBody s_grown, defScope s_grown, [], []⟩
def dd21 : He.DefD := ⟨("behind", none), "behind", "behind", defArgs s_behind, defBody s_behind, defScope s_behind, [], []⟩
def dd22 : He.DefD := ⟨("bites_of", none), "bites_of", "bites_of", defArgs s_bites_of, defBody s_bites_of, defScope s_bites_of, [], []⟩
def dd23 : He.DefD := ⟨("followed", none), "followed", "followed", defArgs s_followed, defBody s_followed, defScope s_followed, [], []⟩
def dd24 : He.DefD := ⟨("place_within", none), "place_within", "place_within", defArgs s_place_within, defBody s_place_within, defScope s_place_within, [], []⟩
def dd25 : He.DefD := ⟨("Tree", some "__init__"), "__init__", "Tree.__init__", defArgs s_Tree_init, defBody s_Tree_init, defScope s_Tree_init, [], []⟩
def dd26 : He.DefD := ⟨("Tree", some "way"), "way", "Tree.way", defArgs s_Tree_way, defBody s_Tree_way, defScope s_Tree_way, [], []⟩
def dd27 : He.DefD := ⟨("Tree", some "round_at"), "round_at", "Tree.round_at", defArgs s_Tree_round_at, defBody s_Tree_round_at, defScope s_Tree_round_at, [], []⟩
def dd28 : He.DefD := ⟨("Tree", some "next_rows"), "next_rows", "Tree.next_rows", defArgs s_Tree_next_rows, defBody s_Tree_next_rows, defScope s_Tree_next_rows, [], []⟩
def dd29 : He.DefD := ⟨("Tree", some "grown"), "grown", "Tree.grown", defArgs s_Tree_grown, defBody s_Tree_grown, defScope s_Tree_grown, [], []⟩
def dd30 : He.DefD := ⟨("Tree", some "longest"), "longest", "Tree.longest", defArgs s_Tree_longest, defBody s_Tree_longest, defScope s_Tree_longest, [], []⟩
def dd31 : He.DefD := ⟨("Tree", some "ring"), "ring", "Tree.ring", defArgs s_Tree_ring, defBody s_Tree_ring, defScope s_Tree_ring, [], []⟩
def dd32 : He.DefD := ⟨("BadNumber", some "__init__"), "__init__", "BadNumber.__init__", defArgs s_BadNumber_init, defBody s_BadNumber_init, defScope s_BadNumber_init, [], []⟩
def dd33 : He.DefD := ⟨("fate", none), "fate", "fate", defArgs s_fate, defBody s_fate, defScope s_fate, [], [("most", .int 120)]⟩
def dd34 : He.DefD := ⟨("_law_measures", none), "_law_measures", "_law_measures", defArgs s_Lmeasures, defBody s_Lmeasures, defScope s_Lmeasures, [], []⟩
def dd35 : He.DefD := ⟨("_law_house", none), "_law_house", "_law_house", defArgs s_Lhouse, defBody s_Lhouse, defScope s_Lhouse, [], []⟩
def dd36 : He.DefD := ⟨("_law_made", none), "_law_made", "_law_made", defArgs s_Lmade, defBody s_Lmade, defScope s_Lmade, [], []⟩
def dd37 : He.DefD := ⟨("_law_words", none), "_law_words", "_law_words", defArgs s_Lwords, defBody s_Lwords, defScope s_Lwords, [], []⟩
def dd38 : He.DefD := ⟨("_law_taste", none), "_law_taste", "_law_taste", defArgs s_Ltaste, defBody s_Ltaste, defScope s_Ltaste, [], []⟩
def dd39 : He.DefD := ⟨("_law_cut", none), "_law_cut", "_law_cut", defArgs s_Lcut, defBody s_Lcut, defScope s_Lcut, [], []⟩
def dd40 : He.DefD := ⟨("_law_grown", none), "_law_grown", "_law_grown", defArgs s_Lgrown, defBody s_Lgrown, defScope s_Lgrown, [], []⟩
def dd41 : He.DefD := ⟨("_law_behind", none), "_law_behind", "_law_behind", defArgs s_Lbehind, defBody s_Lbehind, defScope s_Lbehind, [], []⟩
def dd42 : He.DefD := ⟨("_law_row", none), "_law_row", "_law_row", defArgs s_Lrow, defBody s_Lrow, defScope s_Lrow, [], []⟩
def dd43 : He.DefD := ⟨("_law_walk", none), "_law_walk", "_law_walk", defArgs s_Lwalk, defBody s_Lwalk, defScope s_Lwalk, [], []⟩
def dd44 : He.DefD := ⟨("_law_round_of", none), "_law_round_of", "_law_round_of", defArgs s_Lround_of, defBody s_Lround_of, defScope s_Lround_of, [], []⟩
def dd45 : He.DefD := ⟨("_law_going_house", none), "_law_going_house", "_law_going_house", defArgs s_Lgoing_house, defBody s_Lgoing_house, defScope s_Lgoing_house, [], []⟩
def dd46 : He.DefD := ⟨("turned", none), "turned", "turned", defArgs s_turned, defBody s_turned, defScope s_turned, [], []⟩
def dd47 : He.DefD := ⟨("fate_holds", none), "fate_holds", "fate_holds", defArgs s_fate_holds, defBody s_fate_holds, defScope s_fate_holds, [], []⟩
def dd48 : He.DefD := ⟨("BadWish", some "__init__"), "__init__", "BadWish.__init__", defArgs s_BadWish_init, defBody s_BadWish_init, defScope s_BadWish_init, [], []⟩
def dd49 : He.DefD := ⟨("rounds", none), "rounds", "rounds", defArgs s_rounds, defBody s_rounds, defScope s_rounds, [], []⟩
def dd50 : He.DefD := ⟨("_law_why", none), "_law_why", "_law_why", defArgs s_Lwhy, defBody s_Lwhy, defScope s_Lwhy, [], []⟩
def dd51 : He.DefD := ⟨("_law_bent_round", none), "_law_bent_round", "_law_bent_round", defArgs s_Lbent_round, defBody s_Lbent_round, defScope s_Lbent_round, [], []⟩
def dd52 : He.DefD := ⟨("law", none), "law", "law", defArgs s_law, defBody s_law, defScope s_law, [], []⟩
def fn : List He.DefD := [dd0, dd1, dd2, dd3, dd4, dd5, dd6, dd7, dd8, dd9, dd10, dd11, dd12, dd13, dd14, dd15, dd16, dd17, dd18, dd19, dd20, dd21, dd22, dd23, dd24, dd25, dd26, dd27, dd28, dd29, dd30, dd31, dd32, dd33, dd34, dd35, dd36, dd37, dd38, dd39, dd40, dd41, dd42, dd43, dd44, dd45, dd46, dd47, dd48, dd49, dd50, dd51, dd52]
def fa : List He.Fa := [.glo "BadNumber", .glo "BadWish", .glo "BadWord", .glo "GulpError", .glo "House", .glo "MissError", .glo "NothingLeft", .glo "SIDES", .glo "Tree", .glo "_law_bag", .glo "_law_behind", .glo "_law_bent_round", .glo "_law_cut", .glo "_law_going_house", .glo "_law_grown", .glo "_law_house", .glo "_law_letters", .glo "_law_made", .glo "_law_measures", .glo "_law_one", .glo "_law_pull", .glo "_law_round_of", .glo "_law_row", .glo "_law_same", .glo "_law_taste", .glo "_law_walk", .glo "_law_why", .glo "_law_words", .glo "behind", .glo "bites_of", .glo "cut_long", .glo "fate", .glo "fate_holds", .glo "followed", .glo "grown", .glo "is_word", .glo "law", .glo "need_eats", .glo "need_letters", .glo "need_row", .glo "need_table", .glo "place_within", .glo "rounds", .glo "turned", .glo "word_count", .free "all", .free "enumerate", .free "isinstance", .free "len", .free "list", .free "max", .free "min", .free "range", .free "repr", .free "set", .free "sorted", .free "sum", .free "tuple", .free "zip", .int "MOST_FAR" 400, .int "MOST_ROUNDS" 60, .int "MOST_ROW" 12, .int "MOST_TASTES" 4, .int "MOST_WORDS" 14, .str "SMALL" "abcdefghijklmnopqrstuvwxyz", .cls "House", .mkr "House", .noat "House" "signs", .noat "House" "rooms", .noat "House" "triples", .noat "House" "chewed", .noat "House" "putting", .noat "House" "span", .noat "House" "cutting", .cls "Tree", .mkr "Tree", .noat "Tree" "home", .noat "Tree" "line", .noat "Tree" "above", .noat "Tree" "below", .meth "House" "letters", .meth "House" "most", .meth "House" "tasted", .meth "House" "chew", .meth "House" "put", .meth "House" "cut", .meth "Tree" "way", .meth "Tree" "round_at", .meth "Tree" "next_rows", .meth "Tree" "grown", .meth "Tree" "longest", .meth "Tree" "ring"]
def fx : List Fx := [.tup "SIDES" [.str "left", .str "right"], .oex "BadWord", .field "BadWord" "word", .field "BadWord" "at", .oex "BadNumber", .field "BadNumber" "word", .field "BadNumber" "number", .oex "BadWish", .field "BadWish" "word", .exm "BadWord" "GulpError" true, .exm "BadWish" "GulpError" true, .exm "BadNumber" "GulpError" true]
abbrev R : PySem.W.OpenRow := PySem.W.OpenLaw.row PySem.Challenge.rw_gulprow_k44_rounds_judged
abbrev hk : PySem.W.Hook := hookL 6 fa fx fn [(("law" : Str), (none : Option Str))]
def ob (s : PySem.W.SharedT) : AlL := obsLG 6 fa fx fn [(("law" : Str), (none : Option Str))] (HandSHeadRun.getT s)
theorem ob_eq (s : PySem.W.SharedT) : ob s = hk.obs s.abs := obsLG_eq (HandSHeadRun.getT_eq s)
abbrev loose : List PySem.Str := ("GulpError" : PySem.Str) :: ("MissError" : PySem.Str) :: ("NothingLeft" : PySem.Str) :: ("BadLetters" : PySem.Str) :: ("BadTable" : PySem.Str) :: ("BadEat" : PySem.Str) :: ("BadChew" : PySem.Str) :: ("BadPut" : PySem.Str) :: ("BadMost" : PySem.Str) :: ("BadCut" : PySem.Str) :: ("BadWord" : PySem.Str) :: ("BadNumber" : PySem.Str) :: ("BadWish" : PySem.Str) :: ("MOST" : PySem.Str) :: ("CUT" : PySem.Str) :: ("MOST_WORDS" : PySem.Str) :: ("MOST_TASTES" : PySem.Str) :: ("SMALL" : PySem.Str) :: ("SIDES" : PySem.Str) :: ("MARKS" : PySem.Str) :: ("word_count" : PySem.Str) :: ("need_letters" : PySem.Str) :: ("need_table" : PySem.Str) :: ("need_eats" : PySem.Str) :: ("House" : PySem.Str) :: ("table_text" : PySem.Str) :: ("eats_text" : PySem.Str) :: ("MOST_ROW" : PySem.Str) :: ("is_word" : PySem.Str) :: ("need_row" : PySem.Str) :: ("cut_long" : PySem.Str) :: ("grown" : PySem.Str) :: ("behind" : PySem.Str) :: ("bites_of" : PySem.Str) :: ("followed" : PySem.Str) :: ("FAR" : PySem.Str) :: ("MOST_FAR" : PySem.Str) :: ("MOST_ROUNDS" : PySem.Str) :: ("Tree" : PySem.Str) :: ("place_within" : PySem.Str) :: ("fate" : PySem.Str) :: ("turned" : PySem.Str) :: ("fate_holds" : PySem.Str) :: ("rounds" : PySem.Str) :: ("_law_bag" : PySem.Str) :: ("_law_pull" : PySem.Str) :: ("_law_one" : PySem.Str) :: ("_law_same" : PySem.Str) :: ("_law_why" : PySem.Str) :: ("_law_letters" : PySem.Str) :: ("_law_measures" : PySem.Str) :: ("_law_house" : PySem.Str) :: ("_law_made" : PySem.Str) :: ("_law_words" : PySem.Str) :: ("_law_taste" : PySem.Str) :: ("_law_cut" : PySem.Str) :: ("_law_grown" : PySem.Str) :: ("_law_behind" : PySem.Str) :: ("_law_row" : PySem.Str) :: ("_law_walk" : PySem.Str) :: ("_law_round_of" : PySem.Str) :: ("_law_going_house" : PySem.Str) :: ("_law_bent_round" : PySem.Str) :: []
theorem run0 (w : World) : HandSHeadRun.RunEq R (PySem.W.view R.prog [69]) hk ob 30000 Lw.loose (w.withFollow "special-get-raises" false) := by
  intro os
  kernel_rfl
theorem run1 (w : World) : HandSHeadRun.RunEq R (PySem.W.view R.prog [69]) hk ob 30000 Lw.loose (w.withFollow "special-get-raises" true) := by
  intro os
  kernel_rfl
theorem run (w : World) : HandSHeadRun.RunEq R (PySem.W.view R.prog [69]) hk ob 30000 Lw.loose w := PySem.W.byRow2 "special-get-raises" (P := fun w => HandSHeadRun.RunEq R (PySem.W.view R.prog [69]) hk ob 30000 Lw.loose w) run0 run1 w
end Lw
section
open PySem PySem.W PySem.Calls PyProof.Rows HandSHeadRun
theorem Lw.pre (call : PySem.W.WalkO (view (OpenLaw.row PySem.Challenge.rw_gulprow_k44_rounds_judged).prog [69]) Lw.loose (XL (view (OpenLaw.row PySem.Challenge.rw_gulprow_k44_rounds_judged).prog [69]) []) Lw.hk.says (OpenLaw.row PySem.Challenge.rw_gulprow_k44_rounds_judged).toRowW (HandSHeadRun.topDef (OpenLaw.row PySem.Challenge.rw_gulprow_k44_rounds_judged).prog 69) [] fun f vs => PySem.call f vs) : PySem.Challenge.rw_gulprow_k44_rounds_judged.Holds := by
  w_on; o_law
  refine HandSHeadRun.head_any (r := OpenLaw.row PySem.Challenge.rw_gulprow_k44_rounds_judged) (q := view (OpenLaw.row PySem.Challenge.rw_gulprow_k44_rounds_judged).prog [69]) (H := Lw.hk) (ob := Lw.ob) (M := 30000) (loose := Lw.loose) (d := HandSHeadRun.topDef (OpenLaw.row PySem.Challenge.rw_gulprow_k44_rounds_judged).prog 69) (kwd := []) Lw.ob_eq
    (by kernel_rfl) (fun s => by kernel_rfl) Lw.run (by kernel_rfl) (by kernel_rfl) (by kernel_rfl) (by rfl) (by first | assumption | decide +kernel) (by decide +kernel) ⟨rfl, rfl, rfl, rfl, rfl, by decide +kernel⟩ ?hw ?hc
  case hw => w_witness2
  case hc => exact call
end
set_option autoImplicit true
set_option Elab.async false
set_option linter.all false
set_option maxRecDepth 100000
set_option maxHeartbeats 4000000
/-! # Exception classes over any of the built-in bases, made by their own __init__ -/
namespace Gk
open PySem PySem.Spec PyProof.Rows L2
open Builtin Builtin.ObjectAttr
/-- what the base's line gives -/
structure Bsf (B newId initId : String) (tl : List Value) : Prop where
  F : ExcBaseFacts B newId initId tl
  st : ∀ self, refuseLoop self "__setattr__" tl = pure ()
  ob : tl.contains (.type "object") = true
  ne : tl.isEmpty = false
section
variable {tl : List Value} {B newId initId : String}
theorem line_has (Y : String) : ∀ cs : List Addr, (cs.map Value.ref ++ tl).contains (.type Y) = tl.contains (.type Y)
  | [] => rfl
  | c :: cs => by
    rw [List.map_cons, List.cons_append, List.contains_cons, line_has Y cs]
    rfl
end
/-- what the written part says of the class -/
structure OexG (K : PySem.W.Frag) (C : Addr) (newId : String) (tl : List Value) : Prop where
  cls : ∃ nm q N bs, ∃ cs : List Addr, ∃ sn sub ab col dd k0 k1 k2 k3 k5, K.lookup C = some (excClassObj nm q C N bs (cs.map Value.ref ++ tl) true sn sub ab col dd k0 k1 k2 k3 k5 newId)
  sa : PySem.W.findIn K (.ref C) "__setattr__" = some (some (.builtin "object.__setattr__"))
  exC : PySem.W.subIn K (.ref C) (.type "BaseException") = some true
  tyC : PySem.W.typeIn K (.ref C) = some (.type "type")
  kC : PySem.W.keepIn K (.ref C) = true
section
open PySem.W PySem.Calls PySem.HandSPX
variable {tl : List Value} {B newId initId : String} {prog : Program} {w : World} {A : Around} {R : Result → Shared → Prop} {hp : Heap} {g : Array GenState} {d : Drawn} {t : Nat} {os : OsState} {K : W.Frag} {fn : Str} {tk : Tok} {v : Value} {x C : Addr} {fv : Array Value} {nm q : Str} {bs sub : List Value} {N : Addr} {sn : List Str} {ab : Bool} {col : Option Bool} {cs : List Addr}
end
section
variable {X : Cx} {pins : List (Addr × Obj)} {σ : L2.St} {H : Hp} {s : Shared} {a C dx : Addr} {f : Str} {y : V} {u : Value} {fs : List (Str × V)} {A : Around} {tl : List Value} {B newId initId : String}
end
/-! ### rules -/
section
variable {X : Cx} {o e : Expr} {es : List Expr} {to te : TE} {ta : TA} {f : Str} {p p' pos : Pos} {tl : List Value} {B newId initId : String}
end
/-! ### what the head tells of such a class -/
end Gk
set_option autoImplicit true
set_option Elab.async false
set_option linter.all false
set_option maxRecDepth 100000
set_option maxHeartbeats 4000000
/-! # The common part: facts of the top, callees, steps of readings -/
namespace Gk
open PySem PySem.Spec PyProof.Rows L2

/-! ## 1. Facts of the top beyond those of the modules -/
theorem oexB_ok {K : PySem.W.Frag} {C : Addr} (q : oexB K C = true) :
    ∃ nm q N bs bm sn sub ab col dd k0 k1 k2 k3 k5, K.lookup C = some (excClassObj nm q C N bs bm true sn sub ab col dd k0 k1 k2 k3 k5 "ValueError.__new__") ∧ PySem.HandSPX.refsVE bm = true := by
  unfold oexB at q
  split at q
  · rename_i t dd cd sl ho
    split at q
    · rename_i C' bm k0 k1 k2 k3 n k5 hm hs
      simp only [Bool.and_eq_true, decide_eq_true_eq, Bool.not_eq_true'] at q
      obtain ⟨rfl, rfl, rfl, hdel, hdct, ht⟩ := q
      obtain ⟨nm, bs, mro, ns, qn, hd, sn, sub, ab, col, del⟩ := cd
      dsimp only at hm hdel hdct
      subst hm hdel hdct
      have hsl : sl = #[k0, k1, k2, k3, some (.builtin "ValueError.__new__"), k5] := by
        obtain ⟨l⟩ := sl
        simp only at hs
        rw [hs]
      subst hsl
      exact ⟨nm, qn, ns, bs, bm, sn, sub, ab, col, dd, k0, k1, k2, k3, k5, ho, ht⟩
    · cases q
  · cases q
/-- an exception class of the text, made by its own __init__ -/
structure Oex (K : PySem.W.Frag) (C fI : Addr) : Prop where
  T : OexC K C
  iC : PySem.W.findIn K (.ref C) "__init__" = some (some (.ref fI))
  tI : PySem.W.typeIn K (.ref fI) = some (.type "function")
  F : XfC K C
theorem ba {a b : Bool} (h : (a && b) = true) : a = true ∧ b = true := Bool.and_eq_true_iff.mp h
theorem oex_ok {K : PySem.W.Frag} {x : Str} (h : (Fx.oex x).ok K = true) : Oex K (He.ga K x) (He.ma K (He.ga K x) "__init__") := by
  obtain ⟨h1, h⟩ := ba h
  obtain ⟨h2, h⟩ := ba h
  obtain ⟨h3, h⟩ := ba h
  obtain ⟨h4, h⟩ := ba h
  obtain ⟨h5, h⟩ := ba h
  obtain ⟨h6, h⟩ := ba h
  obtain ⟨h7, h8⟩ := ba h
  exact ⟨⟨oexB_ok h1, of_decide_eq_true h2, of_decide_eq_true h3, of_decide_eq_true h4, h5⟩, of_decide_eq_true h6, of_decide_eq_true h7, xfB_ok h8⟩
/-! ## 2. The head's Hook -/
section
variable {fa : List He.Fa} {fx : List Fx} {fn : List He.DefD} {K : PySem.W.Frag}
theorem SaysX.fact (c : SaysX fa fx fn K) (i : Nat) {f : He.Fa} (h : fa[i]? = some f := by rfl) : f.ok K = true := by
  have c1 := (ba (show ((fa.all fun f => f.ok K) && ((fx.all fun f => f.ok K) && fn.all fun d => d.ok K)) = true from congrArg (fun z : AlX => z.1) c)).1
  exact List.all_eq_true.mp c1 f (List.mem_of_getElem? h)
theorem SaysX.more (c : SaysX fa fx fn K) (i : Nat) {f : Fx} (h : fx[i]? = some f := by rfl) : f.ok K = true := by
  have c1 := (ba (ba (show ((fa.all fun f => f.ok K) && ((fx.all fun f => f.ok K) && fn.all fun d => d.ok K)) = true from congrArg (fun z : AlX => z.1) c)).2).1
  exact List.all_eq_true.mp c1 f (List.mem_of_getElem? h)
theorem SaysX.def_ (c : SaysX fa fx fn K) (i : Nat) {d : He.DefD} (h : fn[i]? = some d := by rfl) : ∃ fd, FunD K d.name d.qual d.params d.body d.scope (d.dvs K) (d.kws K) (He.fAd K d.at_) fd := by
  have c2 := (ba (ba (show ((fa.all fun f => f.ok K) && ((fx.all fun f => f.ok K) && fn.all fun d => d.ok K)) = true from congrArg (fun z : AlX => z.1) c)).2).2
  have e : fn.map (fun d => He.fnW K d.at_) = fn.map He.DefD.val := congrArg (fun z : AlX => z.2) c
  have e2 : (fn.map fun d => He.fnW K d.at_)[i]? = (fn.map He.DefD.val)[i]? := by rw [e]
  rw [List.getElem?_map, List.getElem?_map, h] at e2
  exact He.DefD.funD (Option.some.inj e2) (List.all_eq_true.mp c2 d (List.mem_of_getElem? h))
end

/-! ## 3. Callees -/
/-- the module's name x stands for a def that keeps sp, called with its last arguments dvs left out -/
structure Callee (P : Program) (w : World) (K : PySem.W.Frag) (mg : Str → Option Value) (base : Heap) (CX : CXT) (x : Str) (k : Nat) (dvs : List V) (sp : Sp) : Prop where
  ex : ∃ f fd ps ds, FnOk P w K mg base CX k f fd ps sp ∧ mg x = some (.ref f) ∧ PySem.W.keepIn K (.ref f) = true ∧ Binds K fd ps ds ∧ Vals dvs ds
section
variable {X : Cx} {CX : CXT} {k j : Nat} {sp : Sp} {dvs : List V} {E : XK} {x : Str} {p pos : Pos} {e : Expr} {es : List Expr} {t : TA}
theorem pe_cl (C : Callee X.prog X.w X.K X.mg X.base CX x k dvs sp) (hr : Room j X.A) (ha : PA X (e :: es) t) (hx : Passes CX X E) (hj : k ≤ j := by first | decide | omega) (hg : Gl X x := by rfl) (hdb : (x == ("__debug__" : Str)) = false := by decide)
    (he : starEach (e :: es) X.env = (false, eval e X.env) :: starEach es X.env := by rfl) (hpl : (backTo pos (starEach es X.env)).any (·.1) = false := by rfl) : PE X (.Call (.Name x p) (e :: es) [] pos) (tCall sp dvs E t) := by
  obtain ⟨f, fd, ps, ds, F, hm, hk, hb, hd⟩ := C.ex
  exact pe_call F (hr.mono hj) hg hm hk hb hd hx ha hdb he hpl
end

/-! ## 4. Heaps -/
theorem sm_new {H : Hp} {p : Addr} {o : HO} (h : H p = none) : Same H (upd H p o) := fun a u e => by
  rw [upd_ne (ne_of_none e h)]
  exact e
theorem sm_mut {H H' : Hp} {p : Addr} {o : HO} (e : Same H H') (h : H p = none) : Same H (upd H' p o) := fun a u ha => by
  rw [upd_ne (ne_of_none ha h)]
  exact e a u ha
theorem sm_get {H H' : Hp} {p : Addr} {o : HO} (e : Same H H') (h : H p = some o) : H' p = some o := e p o h
theorem sm_rd {H H' : Hp} {a : Addr} {u : HO} (e : Same H H') (h : Rd H a u) : Rd H' a u := by
  rcases h with h | ⟨o, h⟩
  · exact Or.inl (e a _ h)
  · exact Or.inr ⟨o, e a _ h⟩
theorem sm_l {K : PySem.W.Frag} {H H' : Hp} {a : Addr} {xs : List V} (e : Same H H') (h : SqL K H a xs) : SqL K H' a xs := by
  rcases h with h | h
  · exact Or.inl (sm_rd e h)
  · exact Or.inr h
theorem sm_t {K : PySem.W.Frag} {H H' : Hp} {a : Addr} {xs : List V} (e : Same H H') (h : SqT K H a xs) : SqT K H' a xs := by
  rcases h with h | h
  · exact Or.inl (sm_rd e h)
  · exact Or.inr h
theorem sq_l {K : PySem.W.Frag} {H : Hp} {a : Addr} {xs : List V} (h : H a = some (.lst xs)) : SqL K H a xs := Or.inl (Or.inl h)
theorem sq_t {K : PySem.W.Frag} {H : Hp} {a : Addr} {xs : List V} (h : H a = some (.tup xs)) : SqT K H a xs := Or.inl (Or.inl h)
mutual
theorem dp_sm {K : PySem.W.Frag} {H H' : Hp} (e : Same H H') : ∀ {v : V} {d : PyData}, Dp K H v d → Dp K H' v d
  | _, _, .non => .non
  | _, _, .bl b => .bl b
  | _, _, .int i => .int i
  | _, _, .str x => .str x
  | _, _, .lst h r => .lst (sm_l e h) (dpall_sm e r)
  | _, _, .tup h r => .tup (sm_t e h) (dpall_sm e r)
theorem dpall_sm {K : PySem.W.Frag} {H H' : Hp} (e : Same H H') : ∀ {vs : List V} {ds : List PyData}, DpAll K H vs ds → DpAll K H' vs ds
  | _, _, .nil => .nil
  | _, _, .cons h r => .cons (dp_sm e h) (dpall_sm e r)
end
theorem sz_of {n : Nat} (h : n ≤ 100000) : n ≤ sizeLine := Nat.le_trans h (by decide)
theorem sz_lt {n : Nat} (h : n < 100000) : n < sizeLine := Nat.lt_of_lt_of_le h (by decide)
theorem upd_id {H : Hp} {a : Addr} {o : HO} (h : H a = some o) : upd H a o = H := by
  funext b
  by_cases e : b = a
  · rw [e, upd_same, h]
  · rw [upd_ne e]

/-! ## 5. Operators for values of several kinds -/
def rAddS : R2 := fun x y H Q => ∃ i j, x = .str i ∧ y = .str j ∧ i.length + j.length ≤ sizeLine ∧ Q (.str (i ++ j)) H
def rAddU (K : PySem.W.Frag) : R2 := fun x y H Q => (rI0 (fun i j => .int (i + j)) x y H Q ∨ rAddS x y H Q) ∨ (rCat x y H Q ∨ rCatT K x y H Q)
def rEqU (K : PySem.W.Frag) : R2 := fun x y H Q => rEq x y H Q ∨ rEqD K x y H Q
def rNeU (K : PySem.W.Frag) : R2 := fun x y H Q => rNe x y H Q ∨ rNeD K x y H Q
def rSlU (K : PySem.W.Frag) : V → Option Int → Option Int → Hp → VK → Prop := fun x lo hi H Q => rSlL K x lo hi H Q ∨ (rSlS x lo hi H Q ∨ rSlA K x lo hi H Q)
def rLeU : R2 := fun x y H Q => rI0 (fun i j => .bl (decide (i ≤ j))) x y H Q ∨ ∃ i j, x = .str i ∧ y = .str j ∧ Q (.bl (!decide (j.cps.toList < i.cps.toList))) H
def rLenU (K : PySem.W.Frag) : List V → Hp → VK → Prop := fun xs H Q => ∃ x n, xs = [x] ∧ LenV K x H n ∧ Q (.int n) H
def rListU (K : PySem.W.Frag) : List V → Hp → VK → Prop := fun xs H Q => ∃ p ys, xs = [.ref p] ∧ (SqL K H p ys ∨ SqT K H p ys) ∧ ∀ l, H l = none → Q (.ref l) (upd H l (.lst ys))
def rTupU (K : PySem.W.Frag) : List V → Hp → VK → Prop := fun xs H Q => ∃ p ys, xs = [.ref p] ∧ ((SqL K H p ys ∧ ∀ l, H l = none → Q (.ref l) (upd H l (.tup ys))) ∨ (SqT K H p ys ∧ Q (.ref p) H))
/-- the text that repr tells -/
inductive ReprV : V → Str → Prop where
  | non : ReprV .non "None"
  | bl (b : Bool) : ReprV (.bl b) (if b then "True" else "False")
  | int (i : Int) (h : i.natAbs.log2 < 1920) : ReprV (.int i) (toString i)
  | str (x : Str) (h : (reprText x).length ≤ sizeLine) : ReprV (.str x) (reprText x)
def rReprU : List V → Hp → VK → Prop := fun xs H Q => ∃ x z, xs = [x] ∧ ReprV x z ∧ Q (.str z) H
section
variable {X : Cx}
theorem op_addU : OpR X (binaryOp .Add) (rAddU X.K) := OpR.or (OpR.or op_add op_add_str) (OpR.or op_cat op_catT)
theorem op_eqU (hu : X.A.units + 64 < cLine) : OpR X (compareOp .Eq) (rEqU X.K) := OpR.or op_eq (op_eqD hu)
theorem op_neU (hu : X.A.units + 64 < cLine) : OpR X (compareOp .NotEq) (rNeU X.K) := OpR.or op_ne (op_neD hu)
theorem op_leU : OpR X (compareOp .LtE) rLeU := OpR.or op_le op_le_str
theorem sl_u : SlR X (rSlU X.K) := SlR.or sl_list (SlR.or sl_str sl_tupA)
theorem call_lenU : CallR X (.builtin "len") (rLenU X.K) := call_len
theorem call_listU : CallR X (.type "list") (rListU X.K) := call_list_of
theorem call_tupU : CallR X (.type "tuple") (rTupU X.K) := call_tuple_of
theorem call_reprU : CallR X (.builtin "repr") rReprU := by
  intro pins s σ H xs us Q I r h
  obtain ⟨x, z, rfl, hz, q⟩ := h
  obtain ⟨u, rfl, ru⟩ := vals1 r
  cases hz with
  | non =>
    cases ru
    exact PySem.P.repr_of_none ⟨.str _, H, I.tok _, ⟨_, rfl⟩, q⟩
  | bl b =>
    cases ru
    exact PySem.P.repr_of_bool ⟨.str _, H, I.tok _, ⟨_, rfl⟩, q⟩
  | int i hi =>
    obtain ⟨t, rfl⟩ := ru
    exact PySem.P.repr_of_int hi ⟨.str _, H, I.tok _, ⟨_, rfl⟩, q⟩
  | str y hy =>
    obtain ⟨t, rfl⟩ := ru
    exact PySem.P.repr_of_str ⟨.str _, H, I.tok _, ⟨_, rfl⟩, q⟩ hy
end

/-! ## 6. Steps of readings. Leaves bear names, so that a step is found by the goal's head -/
def nBl (x : V) (R : Bool → Hp → Prop) (H : Hp) : Prop := ∃ k, x = .bl k ∧ R k H
def nInt (x : V) (R : Option Int → Hp → Prop) (H : Hp) : Prop := ∃ i, x = .int i ∧ R (some i) H
def nLst (xs : List V) (H : Hp) (Q : VK) : Prop := xs.length ≤ sizeLine ∧ ∀ p, H p = none → Q (.ref p) (upd H p (.lst xs))
def nTup (xs : List V) (H : Hp) (Q : VK) : Prop := xs.length ≤ sizeLine ∧ ∀ p, H p = none → Q (.ref p) (upd H p (.tup xs))
def nTy (K : PySem.W.Frag) (T : String) (x : V) (H : Hp) (A : Prop) : Prop := tyV K T x H ∧ A
def nStr (x : V) (A : Prop) : Prop := (∃ a, x = .str a) ∧ A
def nIte (b : Bool) (A B : Prop) : Prop := if b = true then A else B
section
variable {K : PySem.W.Frag} {σ : L2.St} {H : Hp} {Q : VK} {D : Ends} {te ta tb tc tx : TE} {t u : TS} {c c2 : TT} {tA tB2 : TA} {x y v : V} {i j n m : Int} {a b l p q : Addr} {xs ys zs : List V} {z z2 : Str} {k : Nat} {A B : Prop} {r r2 : R2}
-- statements
theorem k_seq (h : t { D with nx := u D } σ H) : tSeq t u D σ H := h
theorem k_next (h : D.nx σ H) : tNext D σ H := h
theorem k_asg {g : TG} (h : te σ H fun x H1 => g x σ H1 D.nx) : tAsg te g D σ H := h
theorem k_name {R : L2.St → Hp → Prop} (h : R (σ.set k (some v)) H) : gName k v σ H R := h
theorem k_ret (h : te σ H D.rt) : tRet te D σ H := h
theorem k_drop (h : te σ H fun _ H1 => D.nx σ H1) : tDrop te D σ H := h
theorem k_ifs (h : c σ H fun b H1 => nIte b (t D σ H1) (u D σ H1)) : tIfS c t u D σ H := h
theorem k_aug {ti : TIp} (hs : σ[k]? = some (some x)) (h : te σ H fun y H1 => ti x y H1 fun z H2 => D.nx (σ.set k (some z)) H2) : tAug k te ti D σ H := ⟨x, hs, h⟩
theorem k_ipI {f : Int → Int → Int} {R : V → Hp → Prop} (h : R (.int (f i j)) H) : ipI f (.int i) (.int j) H R := ⟨i, j, rfl, rfl, h⟩
-- targets
theorem k_gtup {R : L2.St → Hp → Prop} {w : TGs} (hx : SqT K H a xs) (hl : xs.length = k) (h : w xs σ H R) : gTup K k w (.ref a) σ H R := ⟨a, xs, rfl, hx, hl, h⟩
theorem k_gcons {R : L2.St → Hp → Prop} {g : TG} {w : TGs} (h : g x σ H fun σ' H' => w xs σ' H' R) : gCons g w (x :: xs) σ H R := ⟨x, xs, rfl, h⟩
theorem k_gnil {R : L2.St → Hp → Prop} (h : R σ H) : gNil [] σ H R := ⟨rfl, h⟩
theorem k_gsub {R : L2.St → Hp → Prop} {w : TSet} (h : ta σ H fun o H1 => tb σ H1 fun i H2 => w o i v H2 fun H3 => R σ H3) : gSub ta tb w v σ H R := h
-- tests
theorem k_test {R : Bool → Hp → Prop} (h : te σ H fun x H' => nBl x R H') : tTest te σ H R := h
theorem k_tB {R : Bool → Hp → Prop} (h : te σ H fun x H' => nBl x R H') : tB te σ H R := h
theorem k_bl {R : Bool → Hp → Prop} {b : Bool} (h : R b H) : nBl (.bl b) R H := ⟨b, rfl, h⟩
theorem k_not {R : Bool → Hp → Prop} (h : c σ H fun b H1 => R (!b) H1) : tNot c σ H R := h
theorem k_and {R : Bool → Hp → Prop} (h : c σ H fun b H1 => nIte b (c2 σ H1 R) (R false H1)) : tAnd c c2 σ H R := h
theorem k_or {R : Bool → Hp → Prop} (h : c σ H fun b H1 => nIte b (R true H1) (c2 σ H1 R)) : tOr c c2 σ H R := h
theorem k_yes {R : Bool → Hp → Prop} (h : R true H) : tYes σ H R := h
theorem k_dec {P : Prop} [Decidable P] (h1 : P → A) (h2 : ¬ P → B) : nIte (decide P) A B := ite2 (c := decide P = true) (fun e => h1 (of_decide_eq_true e)) fun e => h2 fun z => e (decide_eq_true z)
theorem k_true (h : A) : nIte true A B := iteT h
theorem k_false (h : B) : nIte false A B := iteF h
theorem k_bool {b : Bool} (h1 : b = true → A) (h2 : b = false → B) : nIte b A B := by
  cases b with
  | true => exact iteT (h1 rfl)
  | false => exact iteF (h2 rfl)
theorem k_nt {b : Bool} (h : nIte b B A) : nIte (!b) A B := by
  cases b with
  | true => exact h
  | false => exact h
-- expressions
theorem k_var (hs : σ[k]? = some (some v)) (h : Q v H) : tVar k σ H Q := ⟨v, hs, h⟩
theorem k_c (h : Q v H) : tC v σ H Q := h
theorem k_op (h : ta σ H fun x H1 => tb σ H1 fun y H2 => r x y H2 Q) : tOp r ta tb σ H Q := h
theorem k_if (h : c σ H fun b H1 => nIte b (ta σ H1 Q) (tb σ H1 Q)) : tIf c ta tb σ H Q := h
theorem k_chain (h : ta σ H fun x H1 => tb σ H1 fun y H2 => r x y H2 fun z H3 => nBl z (fun k H3 => nIte k (tc σ H3 fun w H4 => r2 y w H4 Q) (Q (.bl false) H3)) H3) : tChain r r2 ta tb tc σ H Q := h
theorem k_nil {R : List V → Hp → Prop} (h : R [] H) : tNil σ H R := h
theorem k_cons {R : List V → Hp → Prop} (h : ta σ H fun x H1 => tA σ H1 fun xs H2 => R (x :: xs) H2) : tCons ta tA σ H R := h
theorem k_cb {r : List V → Hp → VK → Prop} (h : tA σ H fun vs H1 => r vs H1 Q) : tCB r tA σ H Q := h
theorem k_call {sp : Sp} {dvs : List V} {E : XK} (h : tA σ H fun vs H1 => sp (vs ++ dvs) H1 Q E) : tCall sp dvs E tA σ H Q := h
theorem k_andV (h : ta σ H fun x H1 => nBl x (fun c H1 => nIte c (tb σ H1 Q) (Q (.bl false) H1)) H1) : tAndV ta tb σ H Q := h
theorem k_lst (h : tA σ H fun xs H1 => nLst xs H1 Q) : tLst tA σ H Q := h
theorem k_tup (h : tA σ H fun xs H1 => nTup xs H1 Q) : tTup tA σ H Q := h
theorem k_nLst (hz : xs.length ≤ 100000) (h : ∀ p H2, H p = none → Same H H2 → H2 p = some (.lst xs) → Q (.ref p) H2) : nLst xs H Q := ⟨sz_of hz, fun p hp => h p _ hp (sm_new hp) upd_same⟩
theorem k_nTup (hz : xs.length ≤ 100000) (h : ∀ p H2, H p = none → Same H H2 → H2 p = some (.tup xs) → Q (.ref p) H2) : nTup xs H Q := ⟨sz_of hz, fun p hp => h p _ hp (sm_new hp) upd_same⟩
theorem k_nopart {R : Option Int → Hp → Prop} (h : R none H) : tNoPart σ H R := h
theorem k_part {R : Option Int → Hp → Prop} (h : te σ H fun x H1 => nInt x R H1) : tPart te σ H R := h
theorem k_nInt {R : Option Int → Hp → Prop} (h : R (some i) H) : nInt (.int i) R H := ⟨i, rfl, h⟩
theorem k_sl {r : V → Option Int → Option Int → Hp → VK → Prop} {tl th : TO} (h : te σ H fun x H1 => tl σ H1 fun l H2 => th σ H2 fun u H3 => r x l u H3 Q) : tSl r te tl th σ H Q := h
theorem k_bm {T : String} {r : V → List V → Hp → VK → Prop} (h : te σ H fun x H1 => nTy K T x H1 (tA σ H1 fun xs H2 => r x xs H2 Q)) : tBM K T r te tA σ H Q := h
theorem k_bm0 {T : String} {r : V → List V → Hp → VK → Prop} (h : te σ H fun x H1 => nTy K T x H1 (r x [] H1 Q)) : tBM0 K T r te σ H Q := h
theorem k_nTyL (hx : SqL K H a xs) (h : A) : nTy K "list" (.ref a) H A := ⟨Or.inl ⟨rfl, xs, hx⟩, h⟩
theorem k_nTyS (h : A) : nTy K "str" (.str z) H A := ⟨rfl, h⟩
theorem k_m1 {r : V → List V → Hp → VK → Prop} (h : te σ H fun x H1 => nStr x (tx σ H1 fun y H2 => r x [y] H2 Q)) : tM1 r te tx σ H Q := h
theorem k_nStr (h : A) : nStr (.str z) A := ⟨⟨z, rfl⟩, h⟩
-- operators
theorem k_I0 {g : Int → Int → V} (h : Q (g i j) H) : rI0 g (.int i) (.int j) H Q := ⟨i, j, rfl, rfl, h⟩
theorem k_I {C : Int → Int → Prop} {g : Int → Int → V} (hc : C i j) (h : Q (g i j) H) : rI C g (.int i) (.int j) H Q := ⟨i, j, rfl, rfl, hc, h⟩
theorem k_add_i (h : Q (.int (i + j)) H) : rAddU K (.int i) (.int j) H Q := .inl (.inl ⟨i, j, rfl, rfl, h⟩)
theorem k_add_s (hz : z.length + z2.length ≤ 100000) (h : Q (.str (z ++ z2)) H) : rAddU K (.str z) (.str z2) H Q := .inl (.inr ⟨z, z2, rfl, rfl, sz_of hz, h⟩)
theorem k_add_l (h1 : H a = some (.lst xs)) (h2 : H b = some (.lst ys)) (hz : xs.length + ys.length ≤ 100000) (h : ∀ p H2, H p = none → Same H H2 → H2 p = some (.lst (xs ++ ys)) → Q (.ref p) H2) : rAddU K (.ref a) (.ref b) H Q :=
  .inr (.inl ⟨a, b, xs, ys, rfl, rfl, h1, h2, sz_of hz, fun p hp => h p _ hp (sm_new hp) upd_same⟩)
theorem k_mul (hc : (-(2 ^ 64) < i ∧ i < 2 ^ 64) ∨ (-(2 ^ 64) < j ∧ j < 2 ^ 64)) (h : Q (.int (i * j)) H) : rI CMul (fun i j => .int (i * j)) (.int i) (.int j) H Q := ⟨i, j, rfl, rfl, hc, h⟩
theorem k_eq_i (h : Q (.bl (decide (i = j))) H) : rEqU K (.int i) (.int j) H Q := .inl ⟨rfl, by
  rw [show decide (V.int i = V.int j) = decide (i = j) by
    by_cases e : i = j
    · rw [e, decide_eq_true rfl, decide_eq_true rfl]
    · rw [decide_eq_false e, decide_eq_false fun z => e (V.int.inj z)]]
  exact h⟩
theorem k_eq_s (h : Q (.bl (decide (z = z2))) H) : rEqU K (.str z) (.str z2) H Q := .inl ⟨rfl, by
  rw [show decide (V.str z = V.str z2) = decide (z = z2) by
    by_cases e : z = z2
    · rw [e, decide_eq_true rfl, decide_eq_true rfl]
    · rw [decide_eq_false e, decide_eq_false fun w => e (V.str.inj w)]]
  exact h⟩
theorem k_ne_i (h : Q (.bl (!decide (i = j))) H) : rNeU K (.int i) (.int j) H Q := .inl ⟨rfl, by
  rw [show decide (V.int i = V.int j) = decide (i = j) by
    by_cases e : i = j
    · rw [e, decide_eq_true rfl, decide_eq_true rfl]
    · rw [decide_eq_false e, decide_eq_false fun z => e (V.int.inj z)]]
  exact h⟩
theorem k_ne_s (h : Q (.bl (!decide (z = z2))) H) : rNeU K (.str z) (.str z2) H Q := .inl ⟨rfl, by
  rw [show decide (V.str z = V.str z2) = decide (z = z2) by
    by_cases e : z = z2
    · rw [e, decide_eq_true rfl, decide_eq_true rfl]
    · rw [decide_eq_false e, decide_eq_false fun w => e (V.str.inj w)]]
  exact h⟩
theorem k_ne_b {b c : Bool} (h : Q (.bl (!decide (b = c))) H) : rNeU K (.bl b) (.bl c) H Q := .inl ⟨rfl, by
  rw [show decide (V.bl b = V.bl c) = decide (b = c) by
    by_cases e : b = c
    · rw [e, decide_eq_true rfl, decide_eq_true rfl]
    · rw [decide_eq_false e, decide_eq_false fun w => e (V.bl.inj w)]]
  exact h⟩
theorem k_eq_d {d e : PyData} (h1 : Dp K H x d) (h2 : Dp K H y e) (s1 : SeqAt.shaped d = true) (s2 : SeqAt.shaped e = true) (h : Q (.bl (PyData.eqv d e)) H) : rEqU K x y H Q := .inr ⟨d, e, h1, h2, s1, s2, h⟩
theorem k_ne_d {d e : PyData} (h1 : Dp K H x d) (h2 : Dp K H y e) (s1 : SeqAt.shaped d = true) (s2 : SeqAt.shaped e = true) (h : Q (.bl (!PyData.eqv d e)) H) : rNeU K x y H Q := .inr ⟨d, e, h1, h2, s1, s2, h⟩
theorem k_le_i (h : Q (.bl (decide (i ≤ j))) H) : rLeU (.int i) (.int j) H Q := .inl ⟨i, j, rfl, rfl, h⟩
theorem k_ix_l (hx : SqL K H a xs) (hi : atI xs i = some v) (h : Q v H) : rIx K (.ref a) (.int i) H Q := .inl ⟨a, xs, i, v, rfl, rfl, hx, hi, h⟩
theorem k_ix_t (hx : SqT K H a xs) (hi : atI xs i = some v) (h : Q v H) : rIx K (.ref a) (.int i) H Q := .inr (.inl ⟨a, xs, i, v, rfl, rfl, hx, hi, h⟩)
theorem k_ix_s {c : Nat} (hz : z.length ≤ 100000) (hi : atI z.cps.toList i = some c) (h : Q (.str ⟨#[c]⟩) H) : rIx K (.str z) (.int i) H Q := .inr (.inr ⟨z, i, c, rfl, rfl, sz_of hz, hi, h⟩)
theorem k_sl_l {lo hi : Option Int} (hx : SqL K H a xs) (h : ∀ p H2, H p = none → Same H H2 → H2 p = some (.lst (cutV xs lo hi)) → Q (.ref p) H2) : rSlU K (.ref a) lo hi H Q := .inl ⟨a, xs, rfl, hx, fun p hp => h p _ hp (sm_new hp) upd_same⟩
theorem k_sl_s {lo hi : Option Int} (hz : z.length ≤ 100000) (h : Q (.str (cutS z lo hi)) H) : rSlU K (.str z) lo hi H Q := .inr (.inl ⟨z, rfl, sz_of hz, h⟩)
theorem k_len_s (hz : z.length ≤ 100000) (h : Q (.int z.length) H) : rLenU K [.str z] H Q := ⟨.str z, z.length, rfl, ⟨sz_of hz, rfl⟩, h⟩
theorem k_len_l (hx : SqL K H a xs) (h : Q (.int xs.length) H) : rLenU K [.ref a] H Q := ⟨.ref a, xs.length, rfl, .inl ⟨xs, hx, rfl⟩, h⟩
theorem k_len_t (hx : SqT K H a xs) (h : Q (.int xs.length) H) : rLenU K [.ref a] H Q := ⟨.ref a, xs.length, rfl, .inr ⟨xs, hx, rfl⟩, h⟩
theorem k_list_l (hx : SqL K H a xs) (h : ∀ p H2, H p = none → Same H H2 → H2 p = some (.lst xs) → Q (.ref p) H2) : rListU K [.ref a] H Q := ⟨a, xs, rfl, .inl hx, fun p hp => h p _ hp (sm_new hp) upd_same⟩
theorem k_list_t (hx : SqT K H a xs) (h : ∀ p H2, H p = none → Same H H2 → H2 p = some (.lst xs) → Q (.ref p) H2) : rListU K [.ref a] H Q := ⟨a, xs, rfl, .inr hx, fun p hp => h p _ hp (sm_new hp) upd_same⟩
theorem k_tup_l (hx : SqL K H a xs) (h : ∀ p H2, H p = none → Same H H2 → H2 p = some (.tup xs) → Q (.ref p) H2) : rTupU K [.ref a] H Q := ⟨a, xs, rfl, .inl ⟨hx, fun p hp => h p _ hp (sm_new hp) upd_same⟩⟩
theorem k_tup_t (hx : SqT K H a xs) (h : Q (.ref a) H) : rTupU K [.ref a] H Q := ⟨a, xs, rfl, .inr ⟨hx, h⟩⟩
theorem k_repr (hr : ReprV x z) (h : Q (.str z) H) : rReprU [x] H Q := ⟨x, z, rfl, hr, h⟩
theorem k_setL {R : Hp → Prop} (h0 : H a = some (.lst xs)) (hi : ixN xs.length i = some k) (h : R (upd H a (.lst (xs.set k v)))) : rSetL (.ref a) (.int i) v H R := ⟨a, xs, i, k, rfl, rfl, h0, hi, h⟩
theorem k_sum {ns : List Int} (hx : SqL K H a (ns.map V.int)) (h : Q (.int ns.sum) H) : rSum K [.ref a] H Q := ⟨a, ns, rfl, hx, h⟩
theorem k_all {bs : List Bool} (hx : SqL K H a (bs.map V.bl)) (h : Q (.bl (bs.all id)) H) : rAll K [.ref a] H Q := ⟨a, bs, rfl, hx, h⟩
end

theorem k_start {t : TS} {D : Ends} {σ σ' : L2.St} {H : Hp} (e : σ = σ') (h : t D σ' H) : t D σ H := by
  rw [e]
  exact h
/-! ## 7. Loops and comprehensions -/
def nRng1 (vs : List V) (R : It → Hp → Prop) (H : Hp) : Prop := ∃ j : Int, vs = [.int j] ∧ -(2 ^ 62) ≤ j ∧ j < 2 ^ 62 ∧ R (Itr 0 j.toNat) H
def nItl (K : PySem.W.Frag) (x : V) (R : It → Hp → Prop) (H : Hp) : Prop := ∃ a, x = .ref a ∧ (∃ xs, SqL K H a xs) ∧ R (Itl K a) H
def nItt (K : PySem.W.Frag) (x : V) (R : It → Hp → Prop) (H : Hp) : Prop := ∃ a, x = .ref a ∧ (∃ xs, SqT K H a xs) ∧ R (Itt K a) H
def nIts (x : V) (R : It → Hp → Prop) (H : Hp) : Prop := ∃ z, x = .str z ∧ R (Its z) H
def nIte2 (K : PySem.W.Frag) (vs : List V) (R : It → Hp → Prop) (H : Hp) : Prop := ∃ a xs, vs = [.ref a] ∧ SqL K H a xs ∧ R (Ite K a) H
def nItz (K : PySem.W.Frag) (vs : List V) (R : It → Hp → Prop) (H : Hp) : Prop := ∃ a b xs ys, vs = [.ref a, .ref b] ∧ ((SqL K H a xs ∧ SqL K H b ys ∧ R (Itz K a b) H) ∨ (SqT K H a xs ∧ SqT K H b ys ∧ R (RZ.ItzT K a b) H))
def nFor (J : It) (g : TG) (tb : TS) (D : Ends) (σ : L2.St) (H : Hp) : Prop := ∃ W : Nat → Nat → L2.St → Hp → Prop, (∃ m, W 0 m σ H) ∧ ∀ i m σ H, W i m σ H →
  (J.stop i H ∧ D.nx σ H) ∨ (J.go i H ∧ ∃ N : L2.St → Hp → Prop, (∀ σ' H', N σ' H' → ∃ m', m' < m ∧ W (i + 1) m' σ' H') ∧ ∀ x H', J.yld i H x H' → g x σ H' fun σ2 H2 => tb { D with nx := N, ct := N, bk := D.nx } σ2 H2)
def nLc (J : It) (g : TG) (tt : TT) (te : TE) (vs : List Nat) (σ : L2.St) (H1 : Hp) (Q : VK) : Prop := ∀ D, H1 D = none → ∃ W : Nat → Nat → Hp → Prop, (∃ m, W 0 m (upd H1 D (.lst []))) ∧ ∀ i m H, W i m H →
  (J.stop i H ∧ Q (.ref D) H) ∨ (J.go i H ∧ ∃ Nx : Hp → Prop, (∀ H', Nx H' → ∃ m', m' < m ∧ W (i + 1) m' H') ∧ ∀ x H', J.yld i H x H' → g x (wipe σ vs) H' fun σ2 H2 => wipe σ2 vs = wipe σ vs ∧ tt σ2 H2 fun b H3 =>
    if b = true then te σ2 H3 fun y H4 => ∃ acc, H4 D = some (.lst acc) ∧ acc.length < sizeLine ∧ Nx (upd H4 D (.lst (acc ++ [y]))) else Nx H3)
section
variable {K : PySem.W.Frag} {σ : L2.St} {H : Hp} {Q : VK} {D : Ends} {te : TE} {tt : TT} {tb : TS} {tA : TA} {wi : TI} {g : TG} {R : It → Hp → Prop} {i j : Int} {n : Nat} {a b : Addr} {xs ys : List V} {z : Str} {vs : List Nat} {J : It} {G : Hp → Prop} {Y : Nat → Hp → V → Hp → Prop}
theorem k_for (h : wi σ H fun J H1 => nFor J g tb D σ H1) : tFor wi g tb D σ H := h
theorem k_lc (h : wi σ H fun J H1 => nLc J g tt te vs σ H1 Q) : tLc wi g tt te vs σ H Q := h
theorem k_rng1 (h : tA σ H fun vs H1 => nRng1 vs R H1) : iRng1 tA σ H R := h
theorem k_itl (h : te σ H fun x H1 => nItl K x R H1) : iList K te σ H R := h
theorem k_itt (h : te σ H fun x H1 => nItt K x R H1) : iTup K te σ H R := h
theorem k_its (h : te σ H fun x H1 => nIts x R H1) : iStr te σ H R := h
theorem k_ite (h : tA σ H fun vs H1 => nIte2 K vs R H1) : iEnum K tA σ H R := h
theorem k_itz (h : tA σ H fun vs H1 => nItz K vs R H1) : RZ.iZipA K tA σ H R := h
theorem k_nRng1 (h1 : -(2 ^ 62) ≤ j) (h2 : j < 2 ^ 62) (h : R (Itr 0 j.toNat) H) : nRng1 [.int j] R H := ⟨j, rfl, h1, h2, h⟩
theorem k_nItl (hx : SqL K H a xs) (h : R (Itl K a) H) : nItl K (.ref a) R H := ⟨a, rfl, ⟨xs, hx⟩, h⟩
theorem k_nItt (hx : SqT K H a xs) (h : R (Itt K a) H) : nItt K (.ref a) R H := ⟨a, rfl, ⟨xs, hx⟩, h⟩
theorem k_nIts (h : R (Its z) H) : nIts (.str z) R H := ⟨z, rfl, h⟩
theorem k_nIte (hx : SqL K H a xs) (h : R (Ite K a) H) : nIte2 K [.ref a] R H := ⟨a, xs, rfl, hx, h⟩
theorem k_nItzL (hx : SqL K H a xs) (hy : SqL K H b ys) (h : R (Itz K a b) H) : nItz K [.ref a, .ref b] R H := ⟨a, b, xs, ys, rfl, .inl ⟨hx, hy, h⟩⟩
theorem k_nItzT (hx : SqT K H a xs) (hy : SqT K H b ys) (h : R (RZ.ItzT K a b) H) : nItz K [.ref a, .ref b] R H := ⟨a, b, xs, ys, rfl, .inr ⟨hx, hy, h⟩⟩
theorem k_nFor (w : Walk J n G Y) (Pv : Nat → L2.St → Hp → Prop) (h0 : Pv 0 σ H) (hG : ∀ i σ H, i ≤ n → Pv i σ H → G H)
    (hs : ∀ i x σ H H', i < n → Pv i σ H → Y i H x H' → g x σ H' fun σ2 H2 => tb { D with nx := Pv (i + 1), ct := Pv (i + 1), bk := D.nx } σ2 H2) (hd : ∀ σ H, Pv n σ H → D.nx σ H) : nFor J g tb D σ H := for_it w Pv h0 hG hs hd
/-- over zip of two tuples -/
theorem walk_zipT {n : Nat} (hn : n = min xs.length ys.length) : Walk (RZ.ItzT K a b) n (fun H => SqT K H a xs ∧ SqT K H b ys) (YPair (fun i => xs[i]?) (fun i => ys[i]?)) := by
  subst hn
  refine ⟨fun i _ hi q => ?_, fun _ q => ⟨xs, ys, q.1, q.2, by omega⟩, fun i H v H' _ q y => ?_⟩
  · have h1 : i < xs.length := by omega
    have h2 : i < ys.length := by omega
    exact ⟨xs, ys, xs[i], ys[i], q.1, q.2, by simp [h1], by simp [h2]⟩
  · obtain ⟨T, x, z, h1, h2, h3, h4, h5⟩ := y
    exact ⟨T, x, z, h1, h2, h3, h4 xs q.1, h5 ys q.2⟩
/-- a comprehension; Pv: what holds of the turn and of the values so far, told without the heap -/
theorem k_nLc {tg : TG} (w : Walk J n G Y) (hG : ∀ H', Same H H' → G H') (Pv : Nat → List V → Prop) (h0 : Pv 0 []) (hz : ∀ i ws, i ≤ n → Pv i ws → ws.length ≤ 50000)
    (hs : ∀ (i : Nat) (x : V) (H1 H2 : Hp) (ws : List V) (Kp : VK) (Ks : Hp → Prop), i < n → Same H H1 → Pv i ws → Y i H1 x H2 → (∀ y H5, Same H1 H5 → Pv (i + 1) (ws ++ [y]) → Kp y H5) → (∀ H5, Same H1 H5 → Pv (i + 1) ws → Ks H5) →
      tg x (wipe σ vs) H2 fun σ2 H3 => wipe σ2 vs = wipe σ vs ∧ tt σ2 H3 fun b H4 => nIte b (te σ2 H4 Kp) (Ks H4))
    (hd : ∀ (p : Addr) (H' : Hp) (ws : List V), H p = none → Same H H' → H' p = some (.lst ws) → Pv n ws → Q (.ref p) H') : nLc J tg tt te vs σ H Q := by
  intro p hp
  refine lc_it w (fun i H' => ∃ ws : List V, Same H H' ∧ H' p = some (.lst ws) ∧ Pv i ws) ⟨[], sm_new hp, upd_same, h0⟩ (fun i H' _ h => ?_) (fun i x H1 H2 hi h hy => ?_) (fun H' h => ?_)
  · obtain ⟨ws, s1, _⟩ := h
    exact hG H' s1
  · obtain ⟨ws, s1, e1, q1⟩ := h
    exact hs i x H1 H2 ws _ _ hi s1 q1 hy (fun y H5 s5 q5 => ⟨ws, s5 p _ e1, sz_lt (by have := hz i ws (by omega) q1; omega), ws ++ [y], sm_mut (s1.trans s5) hp, upd_same, q5⟩) (fun H5 s5 q5 => ⟨ws, s1.trans s5, s5 p _ e1, q5⟩)
  · obtain ⟨ws, s1, e1, q1⟩ := h
    exact hd p H' ws hp s1 e1 q1
end

/-! ## 8. The bag of draws: its list is told by a word that never changes, so that a draw leaves the heap as it is -/
/-- at b: the list of the cells (at c), a place from 0 on, a held number, a knot -/
def bagO (b c : Addr) : HO := .ext fun h => ∃ (i1 i2 i3 : Int) (t1 t2 t3 : Tok) (n : Nat), 0 ≤ i1 ∧ h.get? b = some { cls := .type "list", data := .seq #[.ref c, .int i1 t1, .int i2 t2, .int i3 t3] n }
def BagOk (H : Hp) (b : Addr) : Prop := ∃ (c : Addr) (ns : List Int), H b = some (bagO b c) ∧ H c = some (.lst (ns.map V.int))
theorem BagOk.sm {H H' : Hp} {b : Addr} (e : Same H H') (h : BagOk H b) : BagOk H' b := by
  obtain ⟨c, ns, h1, h2⟩ := h
  exact ⟨c, ns, e _ _ h1, e _ _ h2⟩
def bagL (c : Addr) (i1 i2 i3 : Int) : List V := [.ref c, .int i1, .int i2, .int i3]
section
variable {X : Cx} {pins : List (Addr × Obj)} {σ : L2.St} {H : Hp} {s : Shared} {b c : Addr}
/-- the bag is opened -/
theorem bag_open (I : Inv X pins σ H s) (h : H b = some (bagO b c)) : ∃ i1 i2 i3 : Int, 0 ≤ i1 ∧ Inv X pins σ (upd H b (.lst (bagL c i1 i2 i3))) s := by
  obtain ⟨⟨i1, i2, i3, t1, t2, t3, n, hi, hg⟩, _, _⟩ := (show ObjOk X.prog X.w H s.heap b (bagO b c) from I.hok b _ h)
  refine ⟨i1, i2, i3, hi, ?_⟩
  have J := I.write (t' := s.toks) (h' := s.heap) (x := b) (e := b) (o := .lst (bagL c i1 i2 i3)) (by rw [h]; exact True.intro) (.inl rfl) (fun _ _ _ q => q) ⟨_, hg⟩
    ⟨sz_of (by show 4 ≤ 100000; decide), [.ref c, .int i1 t1, .int i2 t2, .int i3 t3], n, .cons rfl (.cons ⟨_, rfl⟩ (.cons ⟨_, rfl⟩ (.cons ⟨_, rfl⟩ .nil))), hg⟩
  exact J
/-- .. and closed -/
theorem bag_shut {i1 i2 i3 : Int} (I : Inv X pins σ H s) (h : H b = some (.lst (bagL c i1 i2 i3))) (hi : 0 ≤ i1) : Inv X pins σ (upd H b (bagO b c)) s := by
  obtain ⟨_, its, n, r, hg⟩ := (show ObjOk X.prog X.w H s.heap b (.lst (bagL c i1 i2 i3)) from I.hok b _ h)
  cases r with
  | cons r0 r =>
    cases r with
    | cons r1 r =>
      cases r with
      | cons r2 r =>
        cases r with
        | cons r3 r =>
          cases r
          cases r0
          obtain ⟨t1, rfl⟩ := r1
          obtain ⟨t2, rfl⟩ := r2
          obtain ⟨t3, rfl⟩ := r3
          have J := I.write (t' := s.toks) (h' := s.heap) (x := b) (e := b) (o := bagO b c) (by rw [h]; exact True.intro) (.inl rfl) (fun _ _ _ q => q) ⟨_, hg⟩
            ⟨⟨i1, i2, i3, t1, t2, t3, n, hi, hg⟩, ⟨_, hg⟩, fun h1 h2 z k => by
              obtain ⟨j1, j2, j3, u1, u2, u3, m, hj, e⟩ := z
              exact ⟨j1, j2, j3, u1, u2, u3, m, hj, k _ e⟩⟩
          exact J
/-- a block between the opening and the closing -/
def tBag (t : TS) : TS := fun D σ H => ∃ b c, H b = some (bagO b c) ∧ ∀ i1 i2 i3 : Int, 0 ≤ i1 →
  t { nx := fun σ' H' => ∃ j1 j2 j3, 0 ≤ j1 ∧ H' b = some (.lst (bagL c j1 j2 j3)) ∧ D.nx σ' (upd H' b (bagO b c)), rt := fun v H' => ∃ j1 j2 j3, 0 ≤ j1 ∧ H' b = some (.lst (bagL c j1 j2 j3)) ∧ D.rt v (upd H' b (bagO b c)),
      bk := fun σ' H' => ∃ j1 j2 j3, 0 ≤ j1 ∧ H' b = some (.lst (bagL c j1 j2 j3)) ∧ D.bk σ' (upd H' b (bagO b c)), ct := fun σ' H' => ∃ j1 j2 j3, 0 ≤ j1 ∧ H' b = some (.lst (bagL c j1 j2 j3)) ∧ D.ct σ' (upd H' b (bagO b c)) } σ (upd H b (.lst (bagL c i1 i2 i3)))
theorem pss_bag {st : List Stmt} {t : TS} (h : PSs X st t) : PSs X st (tBag t) := by
  refine ⟨fun pins s σ H D I hw => ?_⟩
  obtain ⟨b, c, hb, hw⟩ := hw
  obtain ⟨i1, i2, i3, hi, I1⟩ := bag_open I hb
  refine thn (h.run pins s σ _ _ I1 (hw i1 i2 i3 hi)) fun f s1 q => ?_
  cases f with
  | next => obtain ⟨σ', H', I2, j1, j2, j3, hj, e, q⟩ := q; exact ⟨σ', _, bag_shut I2 e hj, q⟩
  | brk => obtain ⟨σ', H', I2, j1, j2, j3, hj, e, q⟩ := q; exact ⟨σ', _, bag_shut I2 e hj, q⟩
  | cont => obtain ⟨σ', H', I2, j1, j2, j3, hj, e, q⟩ := q; exact ⟨σ', _, bag_shut I2 e hj, q⟩
  | ret v => obtain ⟨x, σ', H', I2, r, j1, j2, j3, hj, e, q⟩ := q; exact ⟨x, σ', _, bag_shut I2 e hj, r, q⟩
/-- a block that makes a bag and hands it back -/
def tSeal (t : TS) : TS := fun D σ H => t { nx := D.nx, rt := fun v H' => ∃ b c i1 i2 i3, v = .ref b ∧ 0 ≤ i1 ∧ H' b = some (.lst (bagL c i1 i2 i3)) ∧ D.rt (.ref b) (upd H' b (bagO b c)), bk := D.bk, ct := D.ct } σ H
theorem pss_seal {st : List Stmt} {t : TS} (h : PSs X st t) : PSs X st (tSeal t) := by
  refine ⟨fun pins s σ H D I hw => ?_⟩
  refine thn (h.run pins s σ _ _ I hw) fun f s1 q => ?_
  cases f with
  | next => exact q
  | brk => exact q
  | cont => exact q
  | ret v =>
    obtain ⟨x, σ', H', I2, r, b, c, i1, i2, i3, rfl, hi, e, q⟩ := q
    exact ⟨_, σ', _, bag_shut I2 e hi, r, q⟩
end

/-! ## 9. isinstance against built-in classes; data that repr tells -/
def tyD : PyData → String
  | .none => "NoneType"
  | .bool _ => "bool"
  | .int _ => "int"
  | .str _ => "str"
  | .list _ => "list"
  | .tuple _ => "tuple"
  | .dict _ => "dict"
def isSeqD : PyData → Bool
  | .list _ => true
  | .tuple _ => true
  | _ => false
def isLstD : PyData → Bool
  | .list _ => true
  | _ => false
def isTupD : PyData → Bool
  | .tuple _ => true
  | _ => false
theorem dp_ty {K : PySem.W.Frag} {H : Hp} {x : V} {d : PyData} (h : Dp K H x d) : TyX K H x (.type (tyD d)) := by
  cases h with
  | non => exact .base .non
  | bl b => exact .base (.bl b)
  | int i => exact .base (.int i)
  | str z => exact .base (.str z)
  | lst h _ =>
    rcases h with (h | ⟨o, h⟩) | ⟨o, its, n, hk, hc, _⟩
    · exact .base (.lst h)
    · exact .base (.frz h)
    · exact .kList hk hc
  | tup h _ =>
    rcases h with (h | ⟨o, h⟩) | ⟨o, its, n, hk, hc, _⟩
    · exact .base (.tup h)
    · exact .fTuple h
    · exact .kTuple hk hc
def rIsiU (K : PySem.W.Frag) : List V → Hp → VK → Prop := fun xs H Q => rIsiT K xs H Q ∨ rIsi K xs H Q
theorem call_isiU {X : Cx} : CallR X (.builtin "isinstance") (rIsiU X.K) := by
  intro pins s σ H xs us Q I r h
  rcases h with h | h
  · exact call_isiT pins s σ H xs us Q I r h
  · exact call_isi pins s σ H xs us Q I r h
section
variable {K : PySem.W.Frag} {H : Hp} {Q : VK} {x : V} {d : PyData} {tp : Addr}
theorem isi_seq (nd : ∀ kvs, d ≠ .dict kvs) : PySem.W.kitAny K (.type (tyD d)) [.type "list", .type "tuple"] = some (isSeqD d) := by
  have no : ∀ T : String, kitB T "list" = some false → kitB T "tuple" = some false → PySem.W.kitAny K (.type T) [.type "list", .type "tuple"] = some false := fun T h1 h2 =>
    kitAny_cons (b := false) (kit_ty h1) (fun _ => kitAny_cons (b := false) (kit_ty h2) (fun _ => kitAny_nil) (fun z => by cases z)) (fun z => by cases z)
  cases d with
  | none => exact no "NoneType" (by decide +kernel) (by decide +kernel)
  | bool b => exact no "bool" (by decide +kernel) (by decide +kernel)
  | int b => exact no "int" (by decide +kernel) (by decide +kernel)
  | str b => exact no "str" (by decide +kernel) (by decide +kernel)
  | list b => exact kitAny_cons (b := true) (kit_ty (show kitB "list" "list" = some true by decide +kernel)) (fun z => by cases z) (fun _ => rfl)
  | tuple b => exact kitAny_cons (b := false) (kit_ty (show kitB "tuple" "list" = some false by decide +kernel)) (fun _ => kitAny_cons (b := true) (kit_ty (show kitB "tuple" "tuple" = some true by decide +kernel)) (fun z => by cases z) (fun _ => rfl)) (fun z => by cases z)
  | dict kvs => exact absurd rfl (nd kvs)
theorem isi_lst (nd : ∀ kvs, d ≠ .dict kvs) : PySem.W.kitOne K (.type (tyD d)) (.type "list") = some (isLstD d) := by
  cases d with
  | none => exact kit_ty (show kitB "NoneType" "list" = some false by decide +kernel)
  | bool b => exact kit_ty (show kitB "bool" "list" = some false by decide +kernel)
  | int b => exact kit_ty (show kitB "int" "list" = some false by decide +kernel)
  | str b => exact kit_ty (show kitB "str" "list" = some false by decide +kernel)
  | list b => exact kit_ty (show kitB "list" "list" = some true by decide +kernel)
  | tuple b => exact kit_ty (show kitB "tuple" "list" = some false by decide +kernel)
  | dict kvs => exact absurd rfl (nd kvs)
theorem isi_tup (nd : ∀ kvs, d ≠ .dict kvs) : PySem.W.kitOne K (.type (tyD d)) (.type "tuple") = some (isTupD d) := by
  cases d with
  | none => exact kit_ty (show kitB "NoneType" "tuple" = some false by decide +kernel)
  | bool b => exact kit_ty (show kitB "bool" "tuple" = some false by decide +kernel)
  | int b => exact kit_ty (show kitB "int" "tuple" = some false by decide +kernel)
  | str b => exact kit_ty (show kitB "str" "tuple" = some false by decide +kernel)
  | list b => exact kit_ty (show kitB "list" "tuple" = some false by decide +kernel)
  | tuple b => exact kit_ty (show kitB "tuple" "tuple" = some true by decide +kernel)
  | dict kvs => exact absurd rfl (nd kvs)
theorem dp_nd (h : Dp K H x d) : ∀ kvs, d ≠ .dict kvs := by
  intro kvs e
  subst e
  cases h
theorem k_isiLT (h : Dp K H x d) (ht : H tp = some (.tup [.ty "list", .ty "tuple"])) (q : Q (.bl (isSeqD d)) H) : rIsiU K [x, .ref tp] H Q :=
  .inl ⟨x, tp, _, _, _, _, rfl, ht, .cons (.ty _) (.cons (.ty _) .nil), dp_ty h, isi_seq (dp_nd h), q⟩
theorem k_isiL (h : Dp K H x d) (q : Q (.bl (isLstD d)) H) : rIsiU K [x, .ty "list"] H Q := .inr ⟨x, _, _, _, _, rfl, .ty _, dp_ty h, isi_lst (dp_nd h), q⟩
theorem k_isiTu (h : Dp K H x d) (q : Q (.bl (isTupD d)) H) : rIsiU K [x, .ty "tuple"] H Q := .inr ⟨x, _, _, _, _, rfl, .ty _, dp_ty h, isi_tup (dp_nd h), q⟩
end
/-- data nested less than so deep, all of whose parts repr tells -/
def Fit : Nat → PyData → Prop
  | 0, _ => False
  | j + 1, d => match d with
    | .none => True
    | .bool _ => True
    | .int i => i.natAbs.log2 < 1920
    | .str x => (reprText x).length ≤ sizeLine
    | .list ds => ds.length ≤ 50000 ∧ ∀ e ∈ ds, Fit j e
    | .tuple ds => ds.length ≤ 50000 ∧ ∀ e ∈ ds, Fit j e
    | .dict _ => False
theorem dpall_len {K : PySem.W.Frag} {H : Hp} : ∀ {xs : List V} {ds : List PyData}, DpAll K H xs ds → xs.length = ds.length
  | _, _, .nil => rfl
  | _, _, .cons _ r => by rw [List.length_cons, List.length_cons, dpall_len r]
theorem dpall_get {K : PySem.W.Frag} {H : Hp} : ∀ {xs : List V} {ds : List PyData} {i : Nat} {x : V}, DpAll K H xs ds → xs[i]? = some x → ∃ d, ds[i]? = some d ∧ Dp K H x d
  | _, _, _, _, .nil, h => by simp at h
  | _, _, 0, x, .cons h r, e => by
    simp at e
    subst e
    exact ⟨_, rfl, h⟩
  | _, _, i + 1, x, .cons h r, e => by
    obtain ⟨d, h1, h2⟩ := dpall_get (i := i) (x := x) r (by simpa using e)
    exact ⟨d, by simpa using h1, h2⟩
/-- a scalar's text -/
theorem repr_of_dp {K : PySem.W.Frag} {H : Hp} {x : V} {d : PyData} {j : Nat} (h : Dp K H x d) (f : Fit (j + 1) d) (hs : isSeqD d = false) : ∃ z, ReprV x z := by
  cases h with
  | non => exact ⟨_, .non⟩
  | bl b => exact ⟨_, .bl b⟩
  | int i => exact ⟨_, .int i f⟩
  | str z => exact ⟨_, .str z f⟩
  | lst _ _ => cases hs
  | tup _ _ => cases hs
theorem dp_scal {K : PySem.W.Frag} {H : Hp} {x y : V} {d : PyData} (h1 : Dp K H x d) (h2 : Dp K H y d) (hs : isSeqD d = false) : x = y := by
  cases h1 <;> cases h2 <;> first | rfl | cases hs

/-! ## 10. The rules with the written part as a letter of its own (a comprehension's block has its own context) -/
section
variable {X : Cx} (K : PySem.W.Frag)
theorem op_addK (hK : X.K = K := by rfl) : OpR X (binaryOp .Add) (rAddU K) := by subst hK; exact op_addU
theorem op_eqK (hu : X.A.units + 64 < cLine) (hK : X.K = K := by rfl) : OpR X (compareOp .Eq) (rEqU K) := by subst hK; exact op_eqU hu
theorem op_neK (hu : X.A.units + 64 < cLine) (hK : X.K = K := by rfl) : OpR X (compareOp .NotEq) (rNeU K) := by subst hK; exact op_neU hu
theorem op_niK (hK : X.K = K := by rfl) : OpR X (compareOp .NotIn) (rIn K true) := by subst hK; exact op_notIn_seq
theorem sl_k (hK : X.K = K := by rfl) : SlR X (rSlU K) := by subst hK; exact sl_u
theorem ix_k (hK : X.K = K := by rfl) : IxR X (rIx K) := by subst hK; exact ix_seq
theorem call_lenK (hK : X.K = K := by rfl) : CallR X (.builtin "len") (rLenU K) := by subst hK; exact call_lenU
theorem call_listK (hK : X.K = K := by rfl) : CallR X (.type "list") (rListU K) := by subst hK; exact call_listU
theorem call_tupK (hK : X.K = K := by rfl) : CallR X (.type "tuple") (rTupU K) := by subst hK; exact call_tupU
theorem call_isiK (hK : X.K = K := by rfl) : CallR X (.builtin "isinstance") (rIsiU K) := by subst hK; exact call_isiU
theorem cr_allK (hc : X.calm = true := by rfl) (hK : X.K = K := by rfl) : CallR X (.builtin "all") (rAll K) := by subst hK; exact cr_all hc
theorem cr_sumK (hc : X.calm = true := by rfl) (hK : X.K = K := by rfl) : CallR X (.builtin "sum") (rSum K) := by subst hK; exact cr_sum hc
theorem cr_sortedSK (hK : X.K = K := by rfl) : CallR X (.builtin "sorted") (rSortedS K) := by subst hK; exact cr_sortedS
theorem pi_listK {tg l : Expr} {tl : TE} (hl : PE X l tl) (hK : X.K = K := by rfl) : PI X tg l (iList K tl) := by subst hK; exact pi_list hl
theorem pi_tupK {tg l : Expr} {tl : TE} (hl : PE X l tl) (hK : X.K = K := by rfl) : PI X tg l (iTup K tl) := by subst hK; exact pi_tup hl
theorem pg_tupK (n : Nat) {es : List Expr} {k : Nat} {t : TGs} {pos : Pos} (hc : X.calm = true) (h : PGs X es t) (hK : X.K = K := by rfl) (hn : (assignEach es X.env).length = n := by rfl) (hst : (assignEach es X.env).findIdx? (·.1) = none := by rfl) : PG X (.Tuple es k pos) (gTup K n t) := by subst hK; exact pg_tup hc h hn hst
theorem pi_enumK {e : Expr} {ta : TA} {p pos tpos : Pos} {elts : List Expr} {kk : Nat} (hg : Gl X "enumerate") (hm : X.mg "enumerate" = none) (ha : PA X [e] ta) (hK : X.K = K := by rfl) (hs : starEach [e] X.env = [(false, eval e X.env)] := by rfl) : PI X (.Tuple elts kk tpos) (.Call (.Name "enumerate" p) [e] [] pos) (iEnum K ta) := by subst hK; exact pi_enum hg hm ha hs
theorem pi_zipK {e e2 : Expr} {ta : TA} {p pos tpos : Pos} {elts : List Expr} {kk : Nat} (hg : Gl X "zip") (hm : X.mg "zip" = none) (ha : PA X [e, e2] ta) (hK : X.K = K := by rfl)
    (hs : starEach [e, e2] X.env = (false, eval e X.env) :: starEach [e2] X.env := by rfl) (hpl : (backTo pos (starEach [e2] X.env)).any (·.1) = false := by rfl) : PI X (.Tuple elts kk tpos) (.Call (.Name "zip" p) [e, e2] [] pos) (RZ.iZipA K ta) := by subst hK; exact RZ.pi_zipA hg hm ha hs hpl
def rJoin (K : PySem.W.Frag) : V → List V → Hp → VK → Prop := fun x xs H Q => ∃ a p, ∃ ys : List Str, x = .str a ∧ xs = [.ref p] ∧ (SqL K H p (ys.map V.str) ∨ SqT K H p (ys.map V.str)) ∧ (ys.map (·.length)).sum + ys.length * a.length ≤ 16777216 ∧ Q (.str (Txt.join a ys)) H
theorem pe_joinK {o e : Expr} {to te : TE} {apos pos : Pos} (ho : PE X o to) (he : PE X e te) (hK : X.K = K := by rfl) (hs : starEach [e] X.env = [(false, eval e X.env)] := by rfl) (hbase : attributeBase o "join" X.env (eval o X.env) = eval o X.env := by rfl) (hline : (apos.endLine == pos.line) = true := by rfl) :
    PE X (.Call (.Attribute o "join" apos) [e] [] pos) (tM1 (rJoin K) to te) := by subst hK; exact pe_join ho he hs hbase hline
theorem pe_bmK {T id : String} {name : Str} {r : V → List V → Hp → VK → Prop} {o e : Expr} {es : List Expr} {to : TE} {t : TA} {apos cpos : Pos} (pa : PlainAttrs T) (slot : Slot T name id) (hty : typeOf (.builtin id) = pure (.type "method_descriptor")) (hm : MtR X id r) (ho : PE X o to) (ha : PA X (e :: es) t) (hK : X.K = K := by rfl)
    (hbase : attributeBase o name X.env (eval o X.env) = eval o X.env := by rfl)
    (hfew : ((backTo cpos (starEach (e :: es) X.env)).all (fun x => !x.1) && (backToKw cpos (keywordEach [] X.env)).all (fun x => x.1.isSome)
      && decide ((e :: es).length + ([] : List Keyword).length + (if ([] : List Keyword).isEmpty then 0 else 1) < 30)) = true := by rfl)
    (hline : (apos.endLine == cpos.line) = true := by rfl) (hs : starEach (e :: es) X.env = (false, eval e X.env) :: starEach es X.env := by rfl) (hplain : (backTo cpos (starEach es X.env)).any (·.1) = false := by rfl) :
    PE X (.Call (.Attribute o name apos) (e :: es) [] cpos) (tBM K T r to t) := by subst hK; exact pe_bm pa slot hty hm ho ha hbase hfew hline hs hplain
end
section
variable {X : Cx}
theorem pe_gs {x z : Str} {pos : Pos} (h : ∃ t, X.mg x = some (.str z t)) (hg : Gl X x := by rfl) (hd : (x == ("__debug__" : Str)) = false := by decide) : PE X (.Name x pos) (tC (.str z)) := by
  obtain ⟨t, h⟩ := h
  exact pe_glob hg h ⟨t, rfl⟩ hd
theorem pe_gi {x : Str} {i : Int} {pos : Pos} (h : ∃ t, X.mg x = some (.int i t)) (hg : Gl X x := by rfl) (hd : (x == ("__debug__" : Str)) = false := by decide) : PE X (.Name x pos) (tC (.int i)) := by
  obtain ⟨t, h⟩ := h
  exact pe_glob hg h ⟨t, rfl⟩ hd
theorem pe_gr {x : Str} {a : Addr} {pos : Pos} (h : X.mg x = some (.ref a)) (hg : Gl X x := by rfl) (hd : (x == ("__debug__" : Str)) = false := by decide) : PE X (.Name x pos) (tC (.ref a)) := pe_glob hg h rfl hd
end
section
variable {K : PySem.W.Frag} {H : Hp} {Q : VK} {a : Addr} {z z2 : Str}
theorem k_join {ys : List Str} (h : SqL K H a (ys.map V.str)) (hz : (ys.map (·.length)).sum + ys.length * z.length ≤ 100000) (q : Q (.str (Txt.join z ys)) H) : rJoin K (.str z) [.ref a] H Q := ⟨z, a, ys, rfl, rfl, .inl h, Nat.le_trans hz (by decide), q⟩
theorem k_sortedS {xs : List Str} (h : SqL K H a (xs.map V.str)) (hz : xs.length < 64) (q : ∀ ys p H2, ys.Perm xs → sortedS ys = true → H p = none → Same H H2 → H2 p = some (.lst (ys.map V.str)) → Q (.ref p) H2) : rSortedS K [.ref a] H Q := ⟨a, xs, rfl, h, hz, fun ys p h1 h2 h3 => q ys p _ h1 h2 h3 (sm_new h3) upd_same⟩
theorem k_inS {c : Nat} (q : Q (.bl (decide (c ∈ z.cps.toList))) H) : rInS (.str ⟨#[c]⟩) (.str z) H Q := ⟨c, z, rfl, rfl, q⟩
end

theorem at_n {α : Type} {xs : List α} {z : Int} {j : Nat} {v : α} (e : z = (j : Int)) (h : xs[j]? = some v) : atI xs z = some v := by
  have hj : j < xs.length := (List.getElem?_eq_some_iff.mp h).1
  subst e
  unfold atI ixN
  rw [if_pos (by omega), if_pos (by omega), Option.bind_some, Int.toNat_natCast]
  exact h
theorem map_get {α β : Type} {g : α → β} {xs : List α} {i : Nat} {y : β} (h : (xs.map g)[i]? = some y) : ∃ x, xs[i]? = some x ∧ y = g x := by
  rw [List.getElem?_map] at h
  cases e : xs[i]? with
  | none => rw [e] at h; cases h
  | some x => rw [e] at h; exact ⟨x, rfl, (Option.some.inj h).symm⟩
theorem take_more {α : Type} {l : List α} {i : Nat} {x : α} (h : l[i]? = some x) : l.take (i + 1) = l.take i ++ [x] := by
  rw [List.take_add_one, h]
  rfl
theorem fidx_some {α : Type} {p : α → Bool} : ∀ {ws : List α} {i : Nat} {u : α}, ws[i]? = some u → p u = true → (∀ k, k < i → ∀ v, ws[k]? = some v → p v = false) → ws.findIdx? p = some i
  | [], _, _, h, _, _ => by simp at h
  | w :: r, 0, u, h, hp, _ => by
    have e : w = u := Option.some.inj h
    subst e
    rw [List.findIdx?_cons, hp]
    rfl
  | w :: r, i + 1, u, h, hp, hk => by
    have h0 := hk 0 (by omega) w rfl
    have ih := fidx_some (ws := r) (i := i) h hp fun k hk' v hv => hk (k + 1) (by omega) v hv
    rw [List.findIdx?_cons, h0, ih]
    rfl
theorem fidx_none {α : Type} {p : α → Bool} {ws : List α} (h : ∀ (k : Nat) v, ws[k]? = some v → p v = false) : ws.findIdx? p = none := by
  rw [List.findIdx?_eq_none_iff]
  intro x hx
  obtain ⟨k, hk⟩ := List.mem_iff_getElem?.mp hx
  exact h k x hk
/-! ## 11. Texts by their codes -/
/-- the text of one sign -/
def sg (c : Nat) : Str := ⟨#[c]⟩
/-- the text of such codes -/
def tx (cs : List Nat) : Str := ⟨cs.toArray⟩
theorem tl_tx (cs : List Nat) : TL.tl (tx cs) = cs := rfl
theorem len_tx (cs : List Nat) : (tx cs).length = cs.length := TL.len_tl (tx cs)
theorem tx_inj {a b : List Nat} (h : tx a = tx b) : a = b := by
  rw [← tl_tx a, ← tl_tx b, h]
theorem joinL_nil : ∀ ps : List (List Nat), TL.joinL [] ps = ps.flatten
  | [] => rfl
  | [p] => by simp [TL.joinL]
  | p :: q :: r => by
    show p ++ ([] ++ TL.joinL [] (q :: r)) = _
    rw [joinL_nil (q :: r)]
    rfl
/-- single signs put together -/
theorem join_sgs (cs : List Nat) : Txt.join (Str.ofString "") (cs.map sg) = tx cs := by
  refine TL.ext_tl ?_
  rw [TL.join_eq, TL.tl_join, tl_tx, show TL.tl (Str.ofString "") = [] from rfl, joinL_nil, List.map_map]
  have e : (TL.tl ∘ sg) = fun c => [c] := by
    funext c
    rfl
  rw [e]
  induction cs with
  | nil => rfl
  | cons c r ih =>
    show [c] ++ (r.map fun c => [c]).flatten = c :: r
    rw [ih]
    rfl
theorem ltCps_1 (a b : Nat) : PySem.Spec.ltCps [a] [b] = decide (a < b) := by
  show (decide (a < b) || (a == b && false)) = _
  rw [Bool.and_false, Bool.or_false]
theorem risingS_sgs : ∀ (c : Nat) (cs : List Nat), risingS (sg c) (cs.map sg) = true → (c :: cs).Pairwise (· ≤ ·)
  | c, [], _ => by simp
  | c, d :: r, h => by
    have h1 : (!PySem.Spec.ltCps [d] [c] && risingS (sg d) (r.map sg)) = true := h
    obtain ⟨h2, h3⟩ := ba h1
    rw [ltCps_1] at h2
    have h4 : c ≤ d := by simpa using h2
    have ih := risingS_sgs d r h3
    have ih' := List.pairwise_cons.mp ih
    refine List.pairwise_cons.mpr ⟨fun x hx => ?_, ih⟩
    rcases List.mem_cons.mp hx with e | hx
    · rw [e]
      exact h4
    · exact Nat.le_trans h4 (ih'.1 x hx)
theorem sortedS_sgs {cs : List Nat} (h : sortedS (cs.map sg) = true) : cs.Pairwise (· ≤ ·) := by
  cases cs with
  | nil => simp
  | cons c r => exact risingS_sgs c r h
theorem lt_of_le_nodup : ∀ {cs : List Nat}, cs.Pairwise (· ≤ ·) → cs.Nodup → cs.Pairwise (· < ·)
  | [], _, _ => .nil
  | c :: r, h, n => by
    have h' := List.pairwise_cons.mp h
    have n' := List.nodup_cons.mp n
    refine List.pairwise_cons.mpr ⟨fun x hx => ?_, lt_of_le_nodup h'.2 n'.2⟩
    have := h'.1 x hx
    have ne : c ≠ x := fun e => n'.1 (by rw [e]; exact hx)
    omega
/-- a permutation of single signs is one of the codes -/
theorem perm_sgs {ys : List Str} {cs : List Nat} (h : ys.Perm (cs.map sg)) : ∃ ds : List Nat, ys = ds.map sg ∧ ds.Perm cs := by
  refine ⟨ys.map fun y => (TL.tl y).headD 0, ?_, ?_⟩
  · rw [List.map_map]
    have e : ∀ y ∈ ys, (sg ∘ fun y => (TL.tl y).headD 0) y = y := by
      intro y hy
      obtain ⟨c, _, e⟩ := List.mem_map.mp (h.mem_iff.mp hy)
      rw [← e]
      rfl
    rw [List.map_congr_left e, List.map_id']
  · have h2 := h.map fun y => (TL.tl y).headD 0
    rw [List.map_map] at h2
    have e : ((fun y => (TL.tl y).headD 0) ∘ sg) = id := by
      funext c
      rfl
    rw [e, List.map_id] at h2
    exact h2

/-! ## 12. Exceptions of the text with one field besides their word -/
/-- __init__(self, v): self.word = nm; self.fl = v -/
def spX1 (C : Addr) (nm fl : Str) : Sp := fun vs H Q _ => ∃ (a : Addr) (v : V), vs = [.ref a, v] ∧ H a = some (exo a C none) ∧
  ∀ d H', H d = none → d ≠ a → H' = upd (upd (upd H d (exd d [("word", .str nm)])) a (exo a C (some d))) d (exd d [(fl, v), ("word", .str nm)]) → Q .non H'
/-- the class under the module's name x, made with one value -/
structure XCls (P : Program) (w : World) (K : PySem.W.Frag) (mg : Str → Option Value) (base : Heap) (x : Str) (k : Nat) (nm fl : Str) : Prop where
  gC : mg x = some (.ref (He.ga K x))
  O : Oex K (He.ga K x) (He.ma K (He.ga K x) "__init__")
  nw : PySem.W.findIn K (.ref (He.ga K x)) "word" = some none
  nf : PySem.W.findIn K (.ref (He.ga K x)) fl = some none
  F : ∃ fd ps, FnOk P w K mg base CX0 k (He.ma K (He.ga K x) "__init__") fd ps (spX1 (He.ga K x) nm fl) ∧ Binds K fd ps []
def xfs (nm fl : Str) (v : V) : List (Str × V) := [(fl, v), ("word", .str nm)]
def nMk (C : Addr) (sp : Sp) (dvs : List V) (vs : List V) (H1 : Hp) (Q : XK) : Prop := vs.length ≤ 1000 ∧ ∀ a, H1 a = none → sp (.ref a :: (vs ++ dvs)) (upd H1 a (exo a C none))
  (fun v H2 => v = .non ∧ ∃ (d : Addr) (fs : List (Str × V)), H2 a = some (exo a C (some d)) ∧ H2 d = some (exd d fs) ∧ H1 d = none ∧ Q (.ref C) (some d) (upd (del H2 a) d (.xd fs))) (fun _ _ _ => False)
theorem k_mk {C : Addr} {sp : Sp} {dvs : List V} {ta : TA} {σ : L2.St} {H : Hp} {Q : XK} (h : ta σ H fun vs H1 => nMk C sp dvs vs H1 Q) : tMkO C sp dvs ta σ H Q := h
theorem made_x1 {C a : Addr} {nm fl : Str} {v : V} {H1 : Hp} (hk : H1 a = none) {Q : XK} (h : ∀ d H', H1 d = none → Same H1 H' → H' d = some (.xd (xfs nm fl v)) → Q (.ref C) (some d) H') :
    spX1 C nm fl (.ref a :: ([v] ++ [])) (upd H1 a (exo a C none)) (fun u H2 => u = .non ∧ ∃ (d : Addr) (fs : List (Str × V)), H2 a = some (exo a C (some d)) ∧ H2 d = some (exd d fs) ∧ H1 d = none ∧ Q (.ref C) (some d) (upd (del H2 a) d (.xd fs))) (fun _ _ _ => False) := by
  refine ⟨a, v, rfl, upd_same, fun d H' hd ne e => ⟨rfl, d, [(fl, v), ("word", .str nm)], ?_, ?_, ?_, h d _ ?_ (fun b o hb => ?_) upd_same⟩⟩
  · rw [e, upd_ne (Ne.symm ne), upd_same]
  · rw [e, upd_same]
  · rw [upd_ne ne] at hd
    exact hd
  · rw [upd_ne ne] at hd
    exact hd
  · have hba : b ≠ a := ne_of_none hb hk
    have hd1 : H1 d = none := by
      rw [upd_ne ne] at hd
      exact hd
    have hbd : b ≠ d := ne_of_none hb hd1
    rw [upd_ne hbd, del_ne hba, e, upd_ne hbd, upd_ne hba, upd_ne hbd, upd_ne hba]
    exact hb
theorem k_x1 {C : Addr} {nm fl : Str} {v : V} {H1 : Hp} {Q : XK} (h : ∀ d H', H1 d = none → Same H1 H' → H' d = some (.xd (xfs nm fl v)) → Q (.ref C) (some d) H') : nMk C (spX1 C nm fl) [] [v] H1 Q := ⟨by show 1 ≤ 1000; decide, fun a ha => made_x1 ha h⟩
theorem pmk_x1 {X : Cx} {x nm fl : Str} {k j : Nat} {p pos : Pos} {e : Expr} {ta : TA} {K : PySem.W.Frag} (c : XCls X.prog X.w K X.mg X.base x k nm fl) (hr : Room j X.A) (ha : PA X [e] ta) (hx : ∀ E, Passes CX0 X E := by exact fun _ => fun _ _ _ _ _ _ _ h => h.elim) (hK : X.K = K := by rfl) (hj : k + 1 ≤ j := by first | decide | omega) (hg : Gl X x := by rfl) (hdb : (x == ("__debug__" : Str)) = false := by decide)
    (he : starEach [e] X.env = (false, eval e X.env) :: starEach [] X.env := by rfl) (hpl : (backTo pos (starEach [] X.env)).any (·.1) = false := by rfl) :
    PMk X (.Call (.Name x p) [e] [] pos) (tMkO (He.ga K x) (spX1 (He.ga K x) nm fl) [] ta) := by
  subst hK
  obtain ⟨fd, ps, F1, hb⟩ := c.F
  exact pmk_oex c.O.T c.O.iC c.O.tI F1 (hr.mono hj) hb .nil (hx _) hg c.gC ha hdb he hpl
/-- a class's __init__ keeps that -/
theorem x1_read {K : PySem.W.Frag} {C : Addr} {nm fl : Str} (T : OexC K C) (nw : PySem.W.findIn K (.ref C) "word" = some none) (nf : PySem.W.findIn K (.ref C) fl = some none) {vs : List V} {H : Hp} {Q : VK} {E : XK} (h : spX1 C nm fl vs H Q E) {N : List Str} (hN : N.length = 2) :
    tSeq (tOst K "word" (tVar 0) (tC (.str nm))) (tOst K fl (tVar 0) (tVar 1)) { nx := fun _ H' => Q .non H', rt := Q } (L2.start N vs) H := by
  obtain ⟨a, v, rfl, ha, q⟩ := h
  have es : L2.start N [.ref a, v] = [some (.ref a), some v] := by
    unfold L2.start
    rw [hN]
    rfl
  rw [es]
  refine ⟨_, rfl, a, C, rfl, T, nw, .inl ⟨ha, fun d hd ne => ?_⟩⟩
  refine ⟨_, rfl, _, rfl, a, C, rfl, T, nf, .inr ⟨d, [("word", .str nm)], upd_same, ?_, by show 1 ≤ 900; decide, ?_⟩⟩
  · rw [upd_ne ne, upd_same]
  · exact q d _ hd ne rfl

/-! ## 13. Plain texts, good data -/
/-- all signs below 128 -/
def Pl (z : Str) : Prop := ∀ c ∈ TL.tl z, c < 128
theorem pl_ok {z : Str} (h : Pl z) : PyData.strOk z = true := by
  show z.cps.all (· < 0x110000) = true
  rw [Array.all_eq_true']
  intro c hc
  have := h c (by simpa using hc)
  exact decide_eq_true (Nat.lt_of_lt_of_le this (by decide))
/-- nested less than j deep; texts plain and short, no dicts -/
def Good : Nat → PyData → Prop
  | 0, _ => False
  | j + 1, d => match d with
    | .none => True
    | .bool _ => True
    | .int i => i.natAbs.log2 < 1920
    | .str x => Pl x ∧ x.length ≤ 100000
    | .list ds => ds.length ≤ 50000 ∧ ∀ e ∈ ds, Good j e
    | .tuple ds => ds.length ≤ 50000 ∧ ∀ e ∈ ds, Good j e
    | .dict _ => False
theorem lay_all : ∀ {ds : List PyData}, (∀ e ∈ ds, PyData.canLay0 e = true) → PyData.canLayAll0 ds = true
  | [], _ => by simp [PyData.canLayAll0]
  | d :: r, h => by
    simp only [PyData.canLayAll0, Bool.and_eq_true]
    exact ⟨h d (List.mem_cons_self ..), lay_all fun e he => h e (List.mem_cons_of_mem _ he)⟩
theorem depth_all {j : Nat} : ∀ {ds : List PyData}, (∀ e ∈ ds, PyData.depth e ≤ j) → PyData.depthAll ds ≤ j
  | [], _ => by simp [PyData.depthAll]
  | d :: r, h => by
    simp only [PyData.depthAll]
    exact Nat.max_le.mpr ⟨h d (List.mem_cons_self ..), depth_all fun e he => h e (List.mem_cons_of_mem _ he)⟩
theorem Good.lay : ∀ {j : Nat} {d : PyData}, Good j d → PyData.canLay0 d = true
  | 0, _, h => h.elim
  | j + 1, .none, _ => by simp [PyData.canLay0]
  | j + 1, .bool _, _ => by simp [PyData.canLay0]
  | j + 1, .int _, _ => by simp [PyData.canLay0]
  | j + 1, .str _, h => by simp only [PyData.canLay0]; exact pl_ok h.1
  | j + 1, .list _, h => by simp only [PyData.canLay0]; exact lay_all fun e he => Good.lay (h.2 e he)
  | j + 1, .tuple _, h => by simp only [PyData.canLay0]; exact lay_all fun e he => Good.lay (h.2 e he)
  | j + 1, .dict _, h => h.elim
theorem Good.dep : ∀ {j : Nat} {d : PyData}, Good j d → PyData.depth d ≤ j
  | 0, _, h => h.elim
  | j + 1, .none, _ => by simp [PyData.depth]
  | j + 1, .bool _, _ => by simp [PyData.depth]
  | j + 1, .int _, _ => by simp [PyData.depth]
  | j + 1, .str _, h => by simp [PyData.depth]
  | j + 1, .list _, h => by simp only [PyData.depth]; exact Nat.succ_le_succ (depth_all fun e he => Good.dep (h.2 e he))
  | j + 1, .tuple _, h => by simp only [PyData.depth]; exact Nat.succ_le_succ (depth_all fun e he => Good.dep (h.2 e he))
  | j + 1, .dict _, h => h.elim
theorem Good.shaped {j : Nat} {d : PyData} (h : Good j d) (hj : j ≤ 64) : SeqAt.shaped d = true := Bool.and_eq_true_iff.mpr ⟨h.lay, decide_eq_true (Nat.le_trans h.dep hj)⟩
theorem eqv_self {j : Nat} {d : PyData} (h : Good j d) : PyData.eqv d d = true := PySem.SeqAt.eqv_refl d h.lay
/-! lists of texts -/
def dStrs (ws : List Str) : PyData := .list (ws.map .str)
theorem eqvAll_strs : ∀ ws vs : List Str, PyData.eqvAll (ws.map .str) (vs.map .str) = decide (ws = vs)
  | [], [] => by simp [PyData.eqvAll]
  | [], v :: vs => by simp [PyData.eqvAll]
  | w :: ws, [] => by simp [PyData.eqvAll]
  | w :: ws, v :: vs => by
    rw [List.map_cons, List.map_cons]
    simp only [PyData.eqvAll, PyData.eqv, eqvAll_strs ws vs]
    by_cases h1 : w = v
    · subst h1
      simp
    · simp [h1]
theorem eqv_strs (ws vs : List Str) : PyData.eqv (dStrs ws) (dStrs vs) = decide (ws = vs) := by
  unfold dStrs
  simp only [PyData.eqv]
  exact eqvAll_strs ws vs
/-! split: the words' signs stand in the text -/
/-! ## 14. A field of the exception that a suite holds, whatever its class -/
def tXfU (K : PySem.W.Frag) (a : Addr) (cls : Value) (d : Option Addr) (n : Str) (i : Nat) : TE := fun σ H Q => ∃ (C dd : Addr) (fs : List (Str × V)) (v : V), σ[i]? = some (some (.ref a)) ∧ cls = .ref C ∧ XfC K C ∧ PySem.W.findIn K (.ref C) n = some none ∧ d = some dd ∧ H dd = some (.xd fs) ∧ fs.lookup n = some v ∧ Q v H
theorem pe_xfU (K : PySem.W.Frag) {X : Cx} {a : Addr} {oe : Obj} {cls : Value} {d : Option Addr} {pn : List (Addr × Obj)} {x n : Str} {p pos : Pos} {i : Nat} (hz : Zc cls d oe) (hf : ∃ vs, oe.data = .fields vs) (he : PE (X.suite a ((a, oe) :: pn)) (.Name x p) (tVar i)) (hK : X.K = K := by rfl)
    (hb : attributeBase (.Name x p) n X.env (eval (.Name x p) X.env) = eval (.Name x p) X.env := by rfl) : PE (X.suite a ((a, oe) :: pn)) (.Attribute (.Name x p) n pos) (tXfU K a cls d n i) := by
  subst hK
  constructor
  intro pins s σ H Q I h
  obtain ⟨C, dd, fs, v, hs, ec, T, hno, ed, ea, l, q⟩ := h
  exact (pe_xf (C := C) T hno hz hf he hb).run pins s σ H Q I ⟨.ref a, hs, rfl, ec, dd, fs, v, ed, ea, l, q⟩

/-! ## 15. A value, a word between two statements -/
section
variable {σ : L2.St} {H : Hp} {Q : VK} {te : TE} {D : Ends} {t u : TS}
theorem k_cut (Mid : L2.St → Hp → Prop) (h1 : t { D with nx := Mid } σ H) (h2 : ∀ σ' H', Mid σ' H' → u D σ' H') : Evl.tCut t u D σ H := ⟨Mid, h1, h2⟩
end
theorem tl_cutS (z : Str) (lo hi : Option Int) : TL.tl (cutS z lo hi) = ((TL.tl z).drop (HT.sIx z.length 0 lo)).take (HT.sIx z.length z.length hi - HT.sIx z.length 0 lo) := rfl
theorem pl_B {z : Str} (h : (TL.tl z).all (fun c => decide (c < 128)) = true) : Pl z := fun c hc => of_decide_eq_true (List.all_eq_true.mp h c hc)
theorem log_nat {k : Nat} (h : k ≤ 2 ^ 63) : ((k : Nat) : Int).natAbs.log2 < 1920 := by
  rw [Int.natAbs_natCast]
  by_cases h0 : k = 0
  · rw [h0]
    decide
  · exact (Nat.log2_lt h0).mpr (Nat.lt_of_le_of_lt h (Nat.pow_lt_pow_right (by decide) (by decide)))
end Gk
set_option Elab.async false
set_option autoImplicit false
set_option linter.all false
set_option maxRecDepth 100000
set_option maxHeartbeats 4000000
/-! # Sets of tuples whose items are ints and texts: adding, gathering, sorting; the set comprehension over any kind of set -/
namespace Gk
open PySem PySem.Spec PyProof.Rows L2
abbrev mh (P : Program) (w : World) (k : List Key) : Int := tupleKeyHash (mixKind P w) k
abbrev IsM (P : Program) (w : World) (h : Heap) (k : List Key) (b : Addr) : Prop := IsTupleKey (mixKind P w) h k b
/-- a probe's c-th step on the way of the hash g -/
abbrev stp (m : Nat) (g : Int) (c : Nat) : SetTable.Probe := nth m (runAt m (SetTable.bits g % (m + 1)) (SetTable.bits g)) c
section
variable {P : Program} {w : World} {A : Around} {E : Value → Shared → Prop} {s : Shared}
/-- of no class statement; by its value it is known how it is hashed -/
def Tame (v : Value) : Prop := ∀ n, ofAClassStatement n v = pure false ∧ ∃ b, hashByValue n v = pure b
theorem tames {k : List Key} {vs : List Value} (h : ItemsAre (mixKind P w) k vs) : ∀ v ∈ vs, Tame v := by
  induction h with
  | nil => exact fun v hv => nomatch hv
  | cons q _ ih =>
    intro v hv
    rcases List.mem_cons.mp hv with rfl | hv
    · rcases keyIs_shape q with ⟨i, u, rfl, rfl⟩ | ⟨z, u, rfl, rfl⟩ <;> exact fun n => by cases n <;> exact ⟨rfl, _, rfl⟩
    · exact ih v hv
theorem m_cls {k : List Key} {b : Addr} {Q : Bool → Shared → Prop} (kb : IsM P w s.heap k b) (q : Q false s) : wpAny (model P w) A (ofAClassStatement 8 (.ref b)) Q E s := by
  have ty := kb.typeIs
  obtain ⟨o, its, n, ho, _, hd, hi⟩ := kb
  unfold ofAClassStatement
  refine wpAny_bind (wpAny_typeOf ty ?_)
  dsimp only
  simp only [show (("tuple" : String) == "tuple") = true by decide, if_true, Bool.not_true, Bool.false_eq_true, if_false]
  show wpAny _ _ (seqItems? (.ref b) >>= _) _ _ s
  refine wpAny_bind (wpAny_seqItems ho hd (wpAny_bind ?_))
  show wpAny _ _ (forIn its _ _) _ _ s
  rw [← Array.forIn_toList]
  refine wpAny_forIn_list _ (fun l r z => (r.1 = none ∧ z = s) ∧ ∀ v ∈ l, Tame v) _ (fun v l r z hz => ?_) (fun r z hz => ?_) _ _ ⟨⟨rfl, rfl⟩, tames hi⟩
  · obtain ⟨⟨h1, rfl⟩, h2⟩ := hz
    rw [(h2 v List.mem_cons_self _).1]
    refine wpAny_bind (wpAny_pure ?_)
    simp only [Bool.false_eq_true, if_false]
    exact wpAny_pure ⟨⟨rfl, rfl⟩, fun u hu => h2 u (List.mem_cons_of_mem _ hu)⟩
  · obtain ⟨r1, r2⟩ := r
    obtain ⟨⟨h1, rfl⟩, _⟩ := hz
    cases h1
    exact wpAny_pure q
theorem m_hsh {k : List Key} {b : Addr} {Q : Bool → Shared → Prop} (kb : IsM P w s.heap k b) (q : ∀ h, Q h s) : wpAny (model P w) A (hashByValue 8 (.ref b)) Q E s := by
  have ty := kb.typeIs
  obtain ⟨o, its, n, ho, _, hd, hi⟩ := kb
  unfold hashByValue
  refine wpAny_bind (wpAny_specialOf ty F.slot_tuple_hash.lookup ?_)
  show wpAny _ _ (seqItems? (.ref b) >>= _) _ _ s
  refine wpAny_bind (wpAny_seqItems ho hd (wpAny_bind ?_))
  show wpAny _ _ (forIn its _ _) _ _ s
  rw [← Array.forIn_toList]
  refine wpAny_forIn_list _ (fun l r z => (r.1 = none ∧ z = s) ∧ ∀ v ∈ l, Tame v) _ (fun v l r z hz => ?_) (fun r z hz => ?_) _ _ ⟨⟨rfl, rfl⟩, tames hi⟩
  · obtain ⟨⟨h1, rfl⟩, h2⟩ := hz
    obtain ⟨h, eh⟩ := (h2 v List.mem_cons_self 7).2
    rw [eh]
    refine wpAny_bind (wpAny_pure ?_)
    cases h with
    | true =>
      simp only [Bool.not_true, Bool.false_eq_true, if_false]
      exact wpAny_pure ⟨⟨rfl, rfl⟩, fun u hu => h2 u (List.mem_cons_of_mem _ hu)⟩
    | false =>
      simp only [Bool.not_false, if_true]
      exact wpAny_pure (wpAny_pure (q false))
  · obtain ⟨r1, r2⟩ := r
    obtain ⟨⟨h1, rfl⟩, _⟩ := hz
    cases h1
    exact wpAny_pure (q true)
/-- a value that is such a tuple -/
def MemM (P : Program) (w : World) (h : Heap) (y : Value) : Prop := ∃ k c, y = Value.ref c ∧ IsM P w h k c
theorem m_seen {b : Addr} {Q : Bool → Shared → Prop} (kb : MemM P w s.heap (.ref b)) {ys : List Value} (hy : ∀ y ∈ ys, MemM P w s.heap y) (q : Q false s) :
    wpAny (model P w) A (searchCouldBeSeen (.ref b) ys) Q E s := by
  obtain ⟨k, b', eb, kb⟩ := kb
  cases eb
  unfold searchCouldBeSeen
  refine wpAny_bind (wpAny_forIn_list _ (fun l r z => (r.1 = none ∧ z = s) ∧ ∀ y ∈ l, MemM P w z.heap y) _ (fun v l r z hz => ?_) (fun r z hz => ?_) _ _ ⟨⟨rfl, rfl⟩, hy⟩)
  · obtain ⟨⟨h1, rfl⟩, h2⟩ := hz
    obtain ⟨k', c, rfl, kc⟩ := h2 v List.mem_cons_self
    have nxt : ∀ y ∈ l, MemM P w z.heap y := fun u hu => h2 u (List.mem_cons_of_mem _ hu)
    dsimp only
    by_cases hv : (b == c || (carriedByValue (.ref b) && carriedByValue (.ref c))) = true
    · exact wp_if_pos hv (wpAny_pure ⟨⟨rfl, rfl⟩, nxt⟩)
    · refine wp_if_neg hv (wpAny_bind (wpAny_eqIsQuiet_tuple kb ?_))
      simp only [Bool.not_true, Bool.false_eq_true, if_false]
      refine wpAny_bind (wpAny_eqIsQuiet_tuple kc ?_)
      simp only [Bool.not_true, Bool.false_eq_true, if_false]
      refine wpAny_bind (m_cls kb ?_)
      simp only [Bool.false_eq_true, if_false]
      refine wpAny_bind (m_cls kc ?_)
      simp only [Bool.false_eq_true, if_false]
      exact wpAny_pure ⟨⟨rfl, rfl⟩, nxt⟩
  · obtain ⟨r1, r2⟩ := r
    obtain ⟨⟨h1, rfl⟩, _⟩ := hz
    cases h1
    exact wpAny_pure q
/-! ### the set -/
abbrev RwM : Type := Addr × List Key
def rwM (P : Program) (w : World) (p : RwM) : Int × Value := (mh P w p.2, Value.ref p.1)
/-- all of the set but its members' own objects -/
structure SetM0 (P : Program) (w : World) (h : Heap) (a : Addr) (L : List RwM) (es : Array (Int × Value)) (ep : Nat) (t : SetTable) : Prop where
  ob : ∃ o, h.get? a = some o ∧ o.ExactSet ∧ o.data = .set es ep t
  rw_ : es.toList = L.map (rwM P w)
  tab : TabOk t (L.map fun p => mh P w p.2)
  one : (L.map (·.2)).Nodup
  ld : w.params.followText "set-order" = true ∨ t.led = true
  big : L.length * 5 < t.mask * 3
  few : L.length < 64
def AllM (P : Program) (w : World) (h : Heap) (L : List RwM) : Prop := ∀ p ∈ L, IsM P w h p.2 p.1
variable {a : Addr} {L : List RwM} {es : Array (Int × Value)} {ep : Nat} {t : SetTable}
theorem size_rw (h : es.toList = L.map (rwM P w)) : es.size = L.length := by
  rw [← Array.length_toList, h, List.length_map]
theorem fit_of {n : Nat} (h1 : t.place.size = n) (h2 : t.dummies = #[]) (h3 : n ≤ t.mask) : t.fits n = true := by
  unfold SetTable.fits SetTable.fill
  rw [h2, Bool.and_eq_true, beq_iff_eq, decide_eq_true_eq]
  exact ⟨h1, by show t.place.size + 0 ≤ t.mask; omega⟩
theorem SetM0.sz (R : SetM0 P w s.heap a L es ep t) : t.place.size = es.size := by
  rw [R.tab.sz, List.length_map, size_rw R.rw_]
theorem SetM0.fits (R : SetM0 P w s.heap a L es ep t) : t.fits es.size = true := by
  have h3 := size_rw R.rw_
  have h4 := R.big
  exact fit_of R.sz R.tab.dm (by omega)
theorem get_rw (h : es.toList = L.map (rwM P w)) (i : Nat) : es[i]? = (L[i]?).map (rwM P w) := by
  rw [← Array.getElem?_toList, h, List.getElem?_map]
theorem nth_dm (m : Nat) : ∀ (n : Nat) (p : SetTable.Probe), p.dummy = none → (nth m p n).dummy = none
  | 0, _, h => h
  | n + 1, p, h => nth_dm m n (adv m p) (by unfold adv; split <;> exact h)
theorem m_from (R : SetM0 P w s.heap a L es ep t) (M : AllM P w s.heap L) {x : Addr} {k : List Key} (kx : IsM P w s.heap k x) (hu : A.units < cLine) {g : Int} (eg : g = mh P w k) {N : Nat} (b1 : N < 10 * SetTable.turns t.mask)
    (b2 : way t.mask g N ∉ t.place.toList) (b3 : ∀ c, c < N → way t.mask g c ∈ t.place.toList) {Q : SetFound → Shared → Prop} (qi : k ∈ L.map (·.2) → Q (.there none) s) (qo : k ∉ L.map (·.2) → Q (.free (way t.mask g N) false) s) :
    ∀ (f c : Nat) (st : Option SetTable.Probe), st.getD (t.probeStart g) = stp t.mask g c → c ≤ N → N - c < f → (∀ (i : Nat) p, L[i]? = some p → p.2 = k → ∃ d, c ≤ d ∧ d < N ∧ t.place.toList[i]? = some (way t.mask g d)) →
      wpAny (model P w) A (setSearchFrom a (.ref x) g true f st) Q E s
  | 0, _, _, _, _, hf, _ => absurd hf (Nat.not_lt_zero _)
  | f + 1, c, st, e0, hc, hf, hre => by
    obtain ⟨o, ho, _, hd⟩ := R.ob
    rw [setSearchFrom_succ]
    refine wpAny_bind (wpAny_setState_of ho hd R.fits ?_)
    dsimp only
    refine wp_if_neg (by unfold SetTable.gaveWay; rw [mask_odd R.tab.mok]; decide) ?_
    have sh : ∀ q, nth t.mask (stp t.mask g c) q = stp t.mask g (c + q) := fun q => (nth_add t.mask c _ q).symm
    have sj : ∀ q, (nth t.mask (stp t.mask g c) q).j = way t.mask g (c + q) := fun q => congrArg SetTable.Probe.j (sh q)
    have hA : ∀ (i : Nat) p, L[i]? = some p → (es[i]?.map (·.1)).getD 0 = mh P w p.2 := fun i p hp => by
      rw [get_rw R.rw_, hp]
      rfl
    rcases go_spec t R.tab.ris R.tab.dm (fun i => (es[i]?.map (·.1)).getD 0) g (10 * SetTable.turns t.mask) (N - c) (stp t.mask g c) (nth_dm _ _ _ rfl) (by omega) (fun q hq => by rw [sj]; exact b3 (c + q) (by omega)) (by rw [sj, show c + (N - c) = N by omega]; exact b2) with ⟨q, i, hq, hi, hh, hno, hpr⟩ | ⟨hno, hpr⟩
    · have hp1 : t.probe (fun i => (es[i]?.map (·.1)).getD 0) g (st.getD (t.probeStart g)) = some (.candidate (way t.mask g (c + q)) i (stp t.mask g (c + (q + 1)))) := by
        rw [e0, ← sj, ← sh]
        exact hpr
      rw [hp1]
      dsimp only
      rw [sj] at hi
      have il : i < L.length := by
        have h1 := (List.getElem?_eq_some_iff.mp hi).1
        have h2 := R.tab.sz
        rw [List.length_map] at h2
        rw [Array.length_toList] at h1
        omega
      obtain ⟨p, hp⟩ : ∃ p, L[i]? = some p := ⟨_, List.getElem?_eq_getElem il⟩
      have pm : p ∈ L := List.mem_of_getElem? hp
      have ee : es[i]? = some (mh P w p.2, Value.ref p.1) := by
        rw [get_rw R.rw_, hp]
        rfl
      have more : wpAny (model P w) A (searchRest a (.ref x) g true f es t (way t.mask g (c + q)) i (stp t.mask g (c + (q + 1)))) Q E s := by
        unfold searchRest
        rw [ee]
        dsimp only
        refine wpAny_bind (wpAny_holding (wpAny_eqBool_tuple hu (M p pm) kx (wpAny_bind (wpAny_setState_of ho hd R.fits ?_))))
        dsimp only
        by_cases hk : p.2 = k
        · refine wp_if_pos (by simp [hk]) (wpAny_pure (qi (List.mem_map.mpr ⟨p, pm, hk⟩)))
        · refine wp_if_neg (by simp [hk]) ?_
          have hl : t.slot (way t.mask g (c + q)) = .live i := slot_live R.tab.ris hi
          rw [sameMem]
          dsimp only
          simp only [if_true, hl, ee]
          refine wpAny_bind (wpAny_isSame_ref_self (wpAny_bind (wpAny_pure ?_)))
          simp only [if_true]
          refine wp_if_neg (by simp [hk]) ?_
          refine m_from R M kx hu eg b1 b2 b3 qi qo f (c + (q + 1)) _ rfl (by omega) (by omega) fun j p' h0 hk' => ?_
          obtain ⟨d, a1, a2, a3⟩ := hre j p' h0 hk'
          refine ⟨d, ?_, a2, a3⟩
          have hg : (es[j]?.map (·.1)).getD 0 = g := by rw [hA j p' h0, hk', eg]
          by_cases y : d < c + q
          · exact absurd hg (hno (d - c) j (by omega) (by rw [sj, show c + (d - c) = d by omega]; exact a3))
          · by_cases y2 : d = c + q
            · rw [y2] at a3
              have h5 := slot_live R.tab.ris a3
              rw [hl] at h5
              injection h5 with h5
              rw [← h5, hp] at h0
              cases h0
              exact absurd hk' hk
            · omega
      by_cases ht : t.led = true
      · exact wp_if_neg (by simp [ht]) more
      · refine wp_if_pos (by simp [ht]) (wpAny_bind (m_seen ⟨k, x, rfl, kx⟩ (fun y hy => ?_) (wp_if_neg (by decide) more)))
        obtain ⟨u, hu1, rfl⟩ := List.mem_map.mp hy
        have hu2 : u ∈ es.toList := by
          have : u ∈ es ∧ u.1 = g := by simpa using hu1
          simpa using this.1
        rw [R.rw_] at hu2
        obtain ⟨p2, hp2, rfl⟩ := List.mem_map.mp hu2
        exact ⟨p2.2, p2.1, rfl, M p2 hp2⟩
    · have hp1 : t.probe (fun i => (es[i]?.map (·.1)).getD 0) g (st.getD (t.probeStart g)) = some (.empty (way t.mask g N) none) := by
        have e2 : way t.mask g N = (nth t.mask (stp t.mask g c) (N - c)).j := by rw [sj, show c + (N - c) = N by omega]
        rw [e0, e2]
        exact hpr
      rw [hp1]
      refine wpAny_pure (qo fun hm => ?_)
      obtain ⟨p', h0, hk'⟩ := List.mem_map.mp hm
      obtain ⟨j, hj⟩ := List.mem_iff_getElem?.mp h0
      obtain ⟨d, a1, a2, a3⟩ := hre j p' hj hk'
      exact hno (d - c) j (by omega) (by rw [sj, show c + (d - c) = d by omega]; exact a3) (by show (es[j]?.map (·.1)).getD 0 = g; rw [hA j p' hj, hk', eg])
theorem m_search (R : SetM0 P w s.heap a L es ep t) (M : AllM P w s.heap L) {x : Addr} {k : List Key} (kx : IsM P w s.heap k x) (hu : A.units < cLine) {Q : SetFound → Shared → Prop} (qi : k ∈ L.map (·.2) → Q (.there none) s)
    (qo : ∀ N, k ∉ L.map (·.2) → way t.mask (mh P w k) N ∉ t.place.toList → (∀ c, c < N → way t.mask (mh P w k) c ∈ t.place.toList) → Q (.free (way t.mask (mh P w k) N) false) s) : wpAny (model P w) A (setSearch a (.ref x) (mh P w k) true) Q E s := by
  have hb := R.big
  obtain ⟨N, b1, b2, b3⟩ := R.tab.first (by rw [List.length_map]; omega) (mh P w k)
  have lim : 10 * SetTable.turns t.mask ≤ 1420 := by
    unfold SetTable.turns
    rcases R.tab.mok with e | e | e <;> omega
  refine m_from R M kx hu rfl b1 b2 b3 qi (fun hn => qo N hn b2 b3) 100000 0 none rfl (Nat.zero_le _) (by omega) fun i p hp hk => ?_
  have il : i < t.place.toList.length := by
    have h1 := (List.getElem?_eq_some_iff.mp hp).1
    have h2 := R.tab.sz
    rw [List.length_map] at h2
    rw [Array.length_toList]
    omega
  have hj := List.getElem?_eq_getElem il
  obtain ⟨c, hc, e⟩ := R.tab.before b2 (by rw [List.getElem?_map, hp, ← hk]; rfl) hj
  exact ⟨c, Nat.zero_le _, hc, by rw [hj, e]⟩
theorem range_get (L : List RwM) : (List.range L.length).filterMap (fun i => L[i]?) = L := by
  have h : ∀ n, n ≤ L.length → (List.range n).filterMap (fun i => L[i]?) = L.take n := by
    intro n
    induction n with
    | zero => exact fun _ => rfl
    | succ n ih =>
      intro hn
      have e : L[n]? = some (L[n]'hn) := List.getElem?_eq_getElem hn
      rw [List.range_succ, List.filterMap_append, ih (by omega), List.filterMap_cons_some e, List.take_succ, e]
      rfl
  rw [h _ (Nat.le_refl _), List.take_length]
theorem order_map {order : Array Nat} (hr : es.toList = L.map (rwM P w)) (hp : order.toList.Perm (List.range L.length)) :
    ∃ L2 : List RwM, (order.filterMap (es[·]?)).toList = L2.map (rwM P w) ∧ L2.Perm L ∧ (L2.map fun p => mh P w p.2) = order.toList.map fun i => (es.map (·.1)).getD i 0 := by
  refine ⟨order.toList.filterMap fun i => L[i]?, ?_, ?_, ?_⟩
  · rw [Array.toList_filterMap, List.map_filterMap]
    congr 1
    funext i
    exact get_rw hr i
  · have h := hp.filterMap fun i => L[i]?
    rw [range_get] at h
    exact h
  · have hl : ∀ i ∈ order.toList, i < L.length := fun i hi => List.mem_range.mp (hp.mem_iff.mp hi)
    generalize order.toList = l at hl
    induction l with
    | nil => rfl
    | cons i l ih =>
      have hi := hl i (List.mem_cons_self ..)
      have e : L[i]? = some L[i] := List.getElem?_eq_getElem hi
      have e2 : es[i]? = some (rwM P w L[i]) := by rw [get_rw hr, e]; rfl
      rw [List.filterMap_cons_some e, List.map_cons, List.map_cons, ih fun j hj => hl j (List.mem_cons_of_mem _ hj)]
      congr 1
      simp [Array.getD_eq_getD_getElem?, e2, rwM]
theorem tab_pl {t : SetTable} {hs : List Int} (T : TabOk t hs) (b : Bool) : TabOk { t with plain := b } hs := ⟨T.ris, T.dm, T.sz, T.mok, T.bd, T.reach⟩
theorem m_relay {o : Obj} (ho : s.heap.get? a = some o) (hex : o.ExactSet) (hd : o.data = .set es ep t) (hr : es.toList = L.map (rwM P w)) (hz : t.place.size = es.size) (hdm : t.dummies = #[]) (hm : es.size ≤ t.mask)
    (nd : (L.map (·.2)).Nodup) (ld : w.params.followText "set-order" = true ∨ t.led = true) (few : L.length < 64) {n M : Nat} (h1 : SetTable.sizeAbove n - 1 = M) (hM : MaskOk M) (h2 : SetTable.sizeAbove n ≤ 128) (h3 : L.length * 5 < M * 3) {Q : Unit → Shared → Prop}
    (q : ∀ h' L' es' ep' t', Heap.SameBut a s.heap h' → SetM0 P w h' a L' es' ep' t' → L'.Perm L → Q () { s with heap := h' }) : wpAny (model P w) A (setRelay a n) Q E s := by
  have sl := size_rw hr
  obtain ⟨t', order, e, hp, T, em, el, _, _⟩ := relaid_ok t (hs := es.map (·.1)) (wanted := n) h1 hM (by rw [Array.size_map, sl]; omega)
  rw [Array.size_map, sl] at hp
  obtain ⟨L2, r1, r2, r3⟩ := order_map hr hp
  rw [← r3] at T
  have s2 : (order.filterMap (es[·]?)).size = es.size := by rw [size_rw r1, r2.length_eq, sl]
  rw [setRelay_eq]
  refine wpAny_bind (wpAny_setState_of ho hd (fit_of hz hdm hm) ?_)
  dsimp only
  refine wp_if_neg (by rw [sizeLine_eq]; omega) ?_
  rw [e]
  dsimp only
  refine wpAny_bind (wp_if_neg (by rw [s2]; simp) (wpAny_pure ?_))
  dsimp only
  refine wpAny_storeSet_of ho hd ?_ (by rw [s2, sl, sizeLine_eq]; omega)
  refine q _ L2 _ (ep + 1) t' (Heap.SameBut.update ..) ⟨⟨_, _root_.L2.store_at ho hd, ⟨hex.1, hex.2.1, hex.2.2⟩, rfl⟩, r1, T, (r2.map (·.2)).nodup_iff.mpr nd, by rw [el]; exact ld, by rw [r2.length_eq, em]; exact h3, by rw [r2.length_eq]; exact few⟩ r2
theorem ins_perm {α : Type} (l : List α) (p : Nat) (x : α) : (l.take p ++ x :: l.drop p).Perm (x :: l) := by
  refine List.perm_middle.trans ?_
  rw [List.take_append_drop]
theorem m_add (R : SetM0 P w s.heap a L es ep t) (M : AllM P w s.heap L) {x : Addr} {k : List Key} (kx : IsM P w s.heap k x) (hu : A.units < cLine) (hl : L.length + 1 < 64) {Q : Bool → Shared → Prop}
    (q : ∀ b h' L' es' ep' t', Heap.SameBut a s.heap h' → SetM0 P w h' a L' es' ep' t' → ((k ∈ L.map (·.2) ∧ L' = L) ∨ (k ∉ L.map (·.2) ∧ L'.Perm ((x, k) :: L))) → Q b { s with heap := h' }) : wpAny (model P w) A (setAddHashed a (.ref x) (mh P w k)) Q E s := by
  obtain ⟨o, ho, hex, hd⟩ := R.ob
  have sl := size_rw R.rw_
  have big := R.big
  unfold setAddHashed
  refine wpAny_holding ?_
  rw [show (100000 : Nat) = 99999 + 1 from rfl, setAddHashedIn_succ]
  refine wpAny_bind (wpAny_setState_of ho hd R.fits ?_)
  dsimp only
  refine wp_if_neg (by simp [byScan, Value.scannable]) ?_
  refine wpAny_bind (m_search R M kx hu (fun hm => ?_) fun N hm b2 b3 => ?_)
  · dsimp only
    exact wpAny_pure (q false s.heap L es ep t (Heap.SameBut.refl a s.heap) R (.inl ⟨hm, rfl⟩))
  dsimp only
  refine wpAny_bind (wpAny_setState_of ho hd R.fits ?_)
  dsimp only
  obtain ⟨c1, c2, c3, c4, c5, c6, c7, c8, c9⟩ := R.tab.put b2 b3
  rw [List.length_map] at c2 c9
  generalize way t.mask (mh P w k) N = j at *
  generalize hpt : t.put j = pt at *
  obtain ⟨t1, p⟩ := pt
  dsimp only at c1 c3 c4 c5 c9 ⊢
  subst c1
  generalize hp : SetTable.below t.place j = p at *
  have in1 : (SetTable.insertAt es p (mh P w k, Value.ref x)).toList = (L.take p ++ (x, k) :: L.drop p).map (rwM P w) := by
    rw [SetTable.toList_insertAt, R.rw_, List.map_append, List.map_cons, List.map_take, List.map_drop]
    rfl
  have in2 : (L.map fun p => mh P w p.2).take p ++ mh P w k :: (L.map fun p => mh P w p.2).drop p = (L.take p ++ (x, k) :: L.drop p).map fun p => mh P w p.2 := by
    rw [List.map_append, List.map_cons, List.map_take, List.map_drop]
  rw [in2] at c3
  have pm := ins_perm L p (x, k)
  have nd1 : ((L.take p ++ (x, k) :: L.drop p).map (·.2)).Nodup := (pm.map (·.2)).nodup_iff.mpr (List.nodup_cons.mpr ⟨hm, R.one⟩)
  have ln := pm.length_eq
  generalize L.take p ++ (x, k) :: L.drop p = L1 at *
  have e1 := size_rw in1
  generalize SetTable.insertAt es p (mh P w k, Value.ref x) = es1 at *
  rw [List.length_cons] at ln
  have tail : ∀ t2 : SetTable, TabOk t2 (L1.map fun p => mh P w p.2) → t2.mask = t.mask → t2.led = t.led → t2.fill = L.length + 1 →
      wpAny (model P w) A (do
        storeSet a es1 t2
        if (!false && t2.tooFull) = true then do
            setRelay a (SetTable.grown (es.size + 1))
            pure true
          else pure true) Q E s := by
    intro t2 T em el ef
    refine wpAny_bind (wpAny_storeSet_of ho hd ?_ (by rw [e1, ln, sizeLine_eq]; omega))
    have sb : Heap.SameBut a s.heap (s.heap.update a (Obj.putSet es1 t2)) := Heap.SameBut.update ..
    have o1 := _root_.L2.store_at (es' := es1) (t' := t2) ho hd
    generalize s.heap.update a (Obj.putSet es1 t2) = h1 at sb o1 ⊢
    have x1 : Obj.ExactSet { o with data := .set es1 (ep + 1) t2 } := ⟨hex.1, hex.2.1, hex.2.2⟩
    have l1 : w.params.followText "set-order" = true ∨ t2.led = true := by rw [el]; exact R.ld
    have z1 : t2.place.size = es1.size := by rw [T.sz, List.length_map, e1]
    by_cases hf : t2.tooFull = true
    · refine wp_if_pos (by simp [hf]) (wpAny_bind ?_)
      have full : (L.length + 1) * 5 ≥ t.mask * 3 := by
        unfold SetTable.tooFull at hf
        rw [decide_eq_true_eq, ef, em] at hf
        exact hf
      rw [sl]
      have hm8 : es1.size ≤ t2.mask := by
        rw [e1, ln, em]
        rcases R.tab.mok with e | e | e <;> rw [e] at big full ⊢ <;> omega
      have go : ∀ M, SetTable.sizeAbove (SetTable.grown (L.length + 1)) - 1 = M → MaskOk M → SetTable.sizeAbove (SetTable.grown (L.length + 1)) ≤ 128 → L1.length * 5 < M * 3 →
          wpAny (model P w) A (setRelay a (SetTable.grown (L.length + 1))) (fun _ z => wpAny (model P w) A (pure true) Q E z) E { s with heap := h1 } := fun M a1 a2 a3 a4 =>
        m_relay (s := { s with heap := h1 }) o1 x1 rfl in1 z1 T.dm hm8 nd1 l1 (by omega) a1 a2 a3 a4 fun h2 L2 es2 ep2 t2 sb2 R2 pm2 => wpAny_pure (q true h2 L2 es2 ep2 t2 (sb.trans sb2) R2 (.inr ⟨hm, pm2.trans pm⟩))
      rcases R.tab.mok with e | e | e
      · have e4 : L.length = 4 := by rw [e] at big full; omega
        exact go 31 (by rw [e4, size_20]) (.inr (.inl rfl)) (by rw [e4, size_20]; decide) (by omega)
      · have e4 : L.length = 18 := by rw [e] at big full; omega
        exact go 127 (by rw [e4, size_76]) (.inr (.inr rfl)) (by rw [e4, size_76]; decide) (by omega)
      · rw [e] at full
        omega
    · refine wp_if_neg (by simp [hf]) (wpAny_pure (q true h1 L1 es1 (ep + 1) t2 sb ⟨⟨_, o1, x1, rfl⟩, in1, T, nd1, l1, ?_, by omega⟩ (.inr ⟨hm, pm⟩)))
      unfold SetTable.tooFull at hf
      rw [decide_eq_true_eq, ef] at hf
      rw [ln]
      omega
  by_cases hp : t1.plain = true
  · refine wp_if_pos hp (wpAny_bind (m_hsh kx fun b => ?_))
    cases b
    · exact tail _ (tab_pl c3 false) c4 c5 c9
    · exact tail _ c3 c4 c5 c9
  · exact wp_if_neg hp (wpAny_bind (wpAny_pure (tail _ c3 c4 c5 c9)))
end
/-! ### the set comprehension, whatever set.add does to the new set -/
abbrev setO0 (w : World) : Obj := { cls := .type "set", dict := none, data := .set #[] 0 (.fresh 0 0 (!w.params.followText "set-order")) }
section
variable {X : Cx}
/-- {elt for target in iter if ..}: O D a new set at D, r what set.add does -/
def tSg (O : Addr → HO) (r : V → List V → Hp → VK → Prop) (wi : TI) (g : TG) (tt : TT) (te : TE) (vs : List Nat) : TE := fun σ H Q => wi σ H fun J H1 => ∀ D, H1 D = none → ∃ W : Nat → Nat → Hp → Prop, (∃ m, W 0 m (upd H1 D (O D))) ∧ ∀ i m H, W i m H →
  (J.stop i H ∧ Q (.ref D) H) ∨ (J.go i H ∧ ∃ Nx : Hp → Prop, (∀ H', Nx H' → ∃ m', m' < m ∧ W (i + 1) m' H') ∧ ∀ x H', J.yld i H x H' → g x (wipe σ vs) H' fun σ2 H2 => wipe σ2 vs = wipe σ vs ∧ tt σ2 H2 fun b H3 => if b = true then te σ2 H3 fun y H4 => r (.ref D) [y] H4 fun _ H5 => Nx H5 else Nx H3)
/-- the context of the block whose scope's locals are at C -/
abbrev bx (X : Cx) (sc : Scope) (s : Shared) (H : Hp) (C : Addr) (cl : List (PySem.Str × Addr)) (fp : List Addr) : Cx := X.blk s H sc (compEnvC sc cl C X.env) fp
theorem pe_sg {elt tg it0 : Expr} {ifs : List Expr} {sc : Scope} {own : List (PySem.Str × Nat)} {pos : Pos} {wi : TI} {g : TG} {tt : TT} {te : TE} {O : Addr → HO} {r : V → List V → Hp → VK → Prop}
    (hO : ∀ (h : Heap) (H : Hp), ObjOk X.prog X.w H (h.push (setO0 X.w)) h.objs.size (O h.objs.size)) (hr : ∀ s H C cl fp, MtR (bx X sc s H C cl fp) "set.add" r) (hc : X.calm = true) (hN : X.N.Nodup) (hi : PI X tg it0 wi) (ok : BlkOk X.N X.env.scope sc own)
    (hg : ∀ s H C cl fp, PG (bx X sc s H C cl fp) tg g) (ht : ∀ s H C cl fp, PTs (bx X sc s H C cl fp) ifs tt) (he : ∀ s H C cl fp, PE (bx X sc s H C cl fp) elt te) (hs : ∀ x, foldedSetIterable it0 X.env x = pure x := by intro _; rfl) :
    PE X (.SetComp elt [⟨tg, it0, ifs, 0⟩] sc pos) (tSg O r wi g tt te (own.map (·.2))) := by
  refine ⟨fun pins s σ H Q I h => ?_⟩
  rw [PpSet.eval_SetComp]
  have frees : ∀ y ∈ sc.names, y.2 = .free → ∃ c, X.env.cells.lookup y.1 = some c := fun y hy e => (ok.free y hy e).elim (fun k => I.ok.has _ (.inl k)) fun k => I.ok.has _ (.inr k)
  refine wpAny_comprehension_free (use := none) rfl hs (closure_ok frees) ok.kind (fun y hy e => by rw [ok.uniq y hy, e]) (thn (hi.run pins s σ H _ I h) fun xv s1 h1 => thn h1 fun iv s2 h2 => ?_)
  obtain ⟨it, fp, tn, J, H2, rfl, I2, T, u2, f2, q⟩ := h2
  refine PpSet.newSet_ok (newEnv_comp ?_)
  generalize eD : s2.heap.objs.size = D
  obtain ⟨W, ⟨m0, w0⟩, turn⟩ := q D (I2.hok.fresh (Nat.le_of_eq eD))
  obtain ⟨s3, es3⟩ : ∃ s3 : Shared, s3 = { s2 with heap := s2.heap.push (setO0 X.w) } := ⟨_, rfl⟩
  obtain ⟨H3, eH3⟩ : ∃ H3, H3 = upd H2 D (O D) := ⟨_, rfl⟩
  have hp3 : s3.heap = s2.heap.push (setO0 X.w) := by rw [es3]
  have I3 : Inv X pins σ H3 s3 := by
    rw [es3, eH3]
    refine I2.laid (t' := s2.toks) (fun b o e => Heap.get?_push_of_some _ e) (Nat.le_of_eq eD) ?_
    rw [← eD]
    exact hO _ _
  have old3 : ∀ b o, s2.heap.get? b = some o → s3.heap.get? b = some o := fun b o e => by rw [hp3]; exact Heap.get?_push_of_some _ e
  have f3 : ∀ b ∈ fp, FpOk X pins H3 b ∧ b < s3.heap.objs.size := fun b hb => by
    obtain ⟨o, e, _⟩ := T.obj _ _ u2 b hb
    have lt : b < s2.heap.objs.size := Heap.lt_size e
    refine ⟨⟨?_, (f2 b hb).2⟩, by rw [hp3, Heap.size_push]; exact Nat.lt_succ_of_lt lt⟩
    rw [eH3, upd_ne (by rw [← eD]; exact Nat.ne_of_lt lt)]
    exact (f2 b hb).1
  have I4 := block_start I3 ok hN f3
  rw [← eH3] at w0
  rw [← es3]
  show codeAny _ _ (.compStart (.SetComp elt [⟨tg, it0, ifs, 0⟩] sc pos) 0 (.ref it) (.ref D) (compEnvC sc (cellsFrom (s3.heap.objs.size + 1) sc.names (cloFrom X.env.cells sc.names [])) s3.heap.objs.size X.env))
    (compPost (model X.prog X.w) X.A X.xe none (EP X pins σ Q) (.ref D) s3.heap.objs.size) { s3 with heap := pushCells (s3.heap.push { cls := .type "dict", data := .dict #[] }) sc.names }
  have pg := hg s3 H3 s3.heap.objs.size (cellsFrom (s3.heap.objs.size + 1) sc.names (cloFrom X.env.cells sc.names [])) fp
  have pt := ht s3 H3 s3.heap.objs.size (cellsFrom (s3.heap.objs.size + 1) sc.names (cloFrom X.env.cells sc.names [])) fp
  have pe := he s3 H3 s3.heap.objs.size (cellsFrom (s3.heap.objs.size + 1) sc.names (cloFrom X.env.cells sc.names [])) fp
  have pr := hr s3 H3 s3.heap.objs.size (cellsFrom (s3.heap.objs.size + 1) sc.names (cloFrom X.env.cells sc.names [])) fp
  generalize ece : compEnvC sc (cellsFrom (s3.heap.objs.size + 1) sc.names (cloFrom X.env.cells sc.names [])) s3.heap.objs.size X.env = ce at I4 ⊢
  have lce : ce.locals = s3.heap.objs.size := by rw [← ece]; rfl
  obtain ⟨s4, es4⟩ : ∃ s4 : Shared, s4 = { s3 with heap := pushCells (s3.heap.push { cls := .type "dict", data := .dict #[] }) sc.names } := ⟨_, rfl⟩
  rw [← es4] at I4 ⊢
  have u3 : tn 0 s3.heap := T.keep _ _ _ u2 fun b _ o e => old3 b o e
  have u4 : tn 0 s4.heap := T.keep _ _ _ u3 fun b _ o e => by rw [es4]; exact pushCells_keeps _ _ _ _ (Heap.get?_push_of_some _ e)
  unfold bx at pg pt pe pr
  rw [ece] at pg pt pe pr
  have out : ∀ {σ' : L2.St} {H' : Hp} {z : Shared}, Inv (X.blk s3 H3 sc ce fp) [] σ' H' z → (∀ b ∈ fp, H' b = none) → ∀ b ∈ fp, FpOk (X.blk s3 H3 sc ce fp) [] H' b := fun Iz hn b hb =>
    ⟨hn b hb, (Iz.ok.exf b hb).1, Iz.ok.exfs b hb, .inl hb, fun x c e => (Iz.ok.exf b hb).2 x c e, fun p hp => by simp [show p ∈ ([] : List (Addr × Obj)) ++ [] ↔ False by simp] at hp⟩
  have lp : codeAny (model X.prog X.w) X.A (.compLoop (.SetComp elt [⟨tg, it0, ifs, 0⟩] sc pos) 0 (.ref it) (.ref D) ce) (compPost (model X.prog X.w) X.A X.xe none (EP X pins σ Q) (.ref D) s3.heap.objs.size) s4 := by
    refine PpSet.compLoopS_any (fun n z => ∃ i H', Inv (X.blk s3 H3 sc ce fp) [] (wipe σ (own.map (·.2))) H' z ∧ tn i z.heap ∧ (∀ b ∈ fp, H' b = none) ∧ W i n H') (fun n z hz => ?_) m0 ⟨0, H3, I4, u4, fun b hb => (f3 b hb).1.1, w0⟩
    obtain ⟨i, Hz, Iz, uz, nz, wz⟩ := hz
    rcases turn i n Hz wz with ⟨st, qe⟩ | ⟨go, Nx, hNx, step⟩
    · refine thnF (T.done (X.blk s3 H3 sc ce fp) rfl rfl rfl hc i [] z _ Hz (fun _ _ => False) Iz (out Iz nz) uz st) fun rr z2 ⟨er, I6⟩ => ?_
      subst er
      have I7 : Inv X pins σ Hz z2 := I3.call' (ch := fp) I6.os I6.base I6.hok I6.bare fun b hb => ⟨(f3 b hb).1.2.2.2.1, (f3 b hb).1.2.1, (f3 b hb).1.2.2.2.2.1, (f3 b hb).1.2.2.2.2.2⟩
      have nC : Hz s3.heap.objs.size = none := by
        have h0 : Hz ce.locals = none := I6.free
        rw [lce] at h0
        exact h0
      obtain ⟨mm, hm, _⟩ := I6.loc
      have hm : z2.heap.Ns ce.locals mm := hm
      rw [lce] at hm
      obtain ⟨g0, g1, g2, g3, g4, g5⟩ := I3.fpOk (Nat.le_refl _) nC
      exact ⟨mm, hm, fun h'' sb => ⟨.ref D, Hz, I7.turned (t' := z2.toks) (fun b o hb e => (sb.2 b hb).trans e) g0 g1 g3 g4 g5, rfl, qe⟩⟩
    · refine thnF (T.item (X.blk s3 H3 sc ce fp) rfl rfl rfl hc i [] z _ Hz (fun _ _ => False) Iz (out Iz nz) uz go) fun rr z6 ⟨u, er, h6⟩ => ?_
      subst er
      refine thnF h6 fun _ z7 ⟨x, H7, I7, r7, y7, u7, n7⟩ => ?_
      refine thnF (pg.run _ z7 _ H7 x u _ (I7.pinned (out I7 n7) (T.obj _ _ u7)) r7 (step x H7 y7)) fun _ z8 ⟨σ8, H8, I8, ew, q8⟩ => ?_
      refine thnF (pt.run _ z8 σ8 H8 _ I8 q8) fun b z9 ⟨H9, I9, q9⟩ => ?_
      have fin : ∀ {z' : Shared} {H' : Hp}, Inv (X.blk s3 H3 sc ce fp) ([] ++ pinsAt fp z7.heap) σ8 H' z' → Nx H' → ∃ m, m < n ∧ ∃ i H', Inv (X.blk s3 H3 sc ce fp) [] (wipe σ (own.map (·.2))) H' z' ∧ tn i z'.heap ∧ (∀ b ∈ fp, H' b = none) ∧ W i m H' := fun {z' H'} I' nx => by
        obtain ⟨m', lt, w'⟩ := hNx H' nx
        have pin : ∀ b ∈ fp, ∀ o, z7.heap.get? b = some o → z'.heap.get? b = some o ∧ H' b = none := fun b hb o e =>
          ⟨(I'.pin (b, o) (List.mem_append_right _ (List.mem_append_right _ (mem_pinsAt hb e)))).1, (I'.pin (b, o) (List.mem_append_right _ (List.mem_append_right _ (mem_pinsAt hb e)))).2.1⟩
        refine ⟨m', lt, i + 1, H', (I'.unpinned (pins := [])).weak (by rw [← ew, wipe_length]) (fun j v e => ?_), T.keep _ _ _ u7 fun b hb o e => (pin b hb o e).1, fun b hb => ?_, w'⟩
        · rw [← ew] at e
          exact (wipe_some e).1
        · obtain ⟨o, e, _⟩ := T.obj _ _ u7 b hb
          exact (pin b hb o e).2
      cases b with
      | false =>
        simp only [Bool.false_eq_true, if_false] at q9 ⊢
        exact fin I9 q9
      | true =>
        simp only [if_true] at q9 ⊢
        refine thnF (pe.run _ z9 σ8 H9 _ I9 q9) fun v z10 ⟨y, H10, I10, r10, q10⟩ => ?_
        exact thnF (pr _ z10 σ8 H10 (.ref D) [y] (.ref D) [v] _ I10 rfl (.cons r10 .nil) q10) fun _ z11 ⟨_, H11, I11, _, nx⟩ => fin I11 nx
  exact PpSet.codeAny_compStart_set lp (T.self X.A 0 _ _ _ u4 lp)
end
/-! ### sorted of a set whose members are data without lists -/
open PySem.W (EachIs AllAlike Sortable dataLe dataLt alike keyToks sort_pairwise sortLe_total list_sort_data)
theorem perm_back {α β : Type} (f : β → α) {l l' : List α} (h : l.Perm l') : ∀ B : List β, l' = B.map f → ∃ B' : List β, l = B'.map f ∧ B'.Perm B := by
  induction h with
  | nil => exact fun B e => ⟨[], rfl, by rw [List.map_eq_nil_iff.mp e.symm]⟩
  | cons x _ ih =>
    intro B e
    cases B with
    | nil => cases e
    | cons b B =>
      rw [List.map_cons] at e
      injection e with e1 e2
      obtain ⟨B', e3, p⟩ := ih B e2
      exact ⟨b :: B', by rw [List.map_cons, ← e3, e1], p.cons b⟩
  | swap x y l =>
    intro B e
    cases B with
    | nil => cases e
    | cons b B =>
      cases B with
      | nil => cases e
      | cons c B =>
        rw [List.map_cons, List.map_cons] at e
        injection e with e1 e2
        injection e2 with e2 e3
        exact ⟨c :: b :: B, by rw [List.map_cons, List.map_cons, ← e3, e1, e2], .swap b c B⟩
  | trans _ _ i1 i2 =>
    intro B e
    obtain ⟨B1, e1, p1⟩ := i2 B e
    obtain ⟨B2, e2, p2⟩ := i1 B1 e1
    exact ⟨B2, e2, p2.trans p1⟩
section
variable {P : Program} {w : World} {A : Around} {E : Value → Shared → Prop} {s : Shared} {a : Addr} {es : Array (Int × Value)} {ep : Nat} {t : SetTable}
theorem each_eq {β : Type} {f : β → Value} : ∀ {vs : List Value} {B : List β}, EachIs (fun v b => v = f b) vs B → vs = B.map f
  | _, _, .nil => rfl
  | _, _, .cons e r => by rw [List.map_cons, ← each_eq r, e]
theorem each_of {β : Type} {R : Value → β → Prop} (f : β → Value) : ∀ B : List β, (∀ b ∈ B, R (f b) b) → EachIs R (B.map f) B
  | [], _ => .nil
  | b :: B, h => .cons (h b (List.mem_cons_self ..)) (each_of f B fun c hc => h c (List.mem_cons_of_mem _ hc))
theorem sorted_gen {β : Type} (f : β → Value) (enc : β → PyData) (B : List β) {Q : Value → Shared → Prop} (ha : SetAt s.heap a es ep t) (hf : t.fits es.size = true) (hz : es.size < scanBound) (ris : Ris t.place.toList) (hl : w.params.followText "set-order" = true ∨ t.led = true) (hh : A.handled = none) (hu : A.units + 64 < cLine)
    (hv : es.toList.map (·.2) = B.map f) (rd : ∀ b ∈ B, ∀ h' : Heap, (∀ c o, s.heap.get? c = some o → h'.get? c = some o) → Reads h' (f b) (enc b) []) (hal : AllAlike (B.map enc)) (hk : Sortable (B.map enc)) (hd : ∀ b ∈ B, (enc b).depth ≤ 8)
    (q : ∀ s' p (out : Array Value) (c : Nat) (B' : List β), (∀ b o, s.heap.get? b = some o → s'.heap.get? b = some o) → s'.gens = s.gens → s'.os = s.os → s.heap.objs.size ≤ p → s'.heap.get? p = some (seqObj "list" out c) → out.toList = B'.map f → B'.Perm B →
      B'.Pairwise (fun x y => dataLe false enc x y = true) → Q (.ref p) s') : wpAny (model P w) A (call (.builtin "sorted") [.ref a]) Q E s := by
  refine Calls.call_function_entry kind_sorted plain_sorted entry_sorted (args_sorted1 _) ?_
  unfold Builtin.«sorted»
  refine wpAny_bind (m := checkCount "sorted" 1 1 _) (wpAny_pure ?_)
  refine wpAny_bind (collect_set (A := A.in1) hh ha hf hz ris hl fun s1 vs k1 z1 g1 o1 pm => ?_)
  rw [hv] at pm
  obtain ⟨B1, rfl, p1⟩ := perm_back f pm B rfl
  have n1 : B1.length ≤ sizeLine := by
    have h1 := congrArg List.length hv
    rw [List.length_map, List.length_map, Array.length_toList] at h1
    rw [p1.length_eq, ← h1]
    exact fits_of_scanBound hz
  refine wpAny_bind (wpAny_newList ?_ (by rw [List.length_map]; exact n1))
  generalize hh2 : s1.heap.push { cls := .type "list", data := .seq (B1.map f).toArray } = h2
  have hoL : h2.get? s1.heap.objs.size = some (seqObj "list" (B1.map f).toArray 0) := by rw [← hh2]; exact Heap.get?_push_size _ rfl
  have k2 : ∀ c o, s.heap.get? c = some o → h2.get? c = some o := fun c o e => by rw [← hh2]; exact Heap.get?_push_of_some _ (k1 c o e)
  have z2 : h2.objs.size = s1.heap.objs.size + 1 := by rw [← hh2]; exact size_push' _ _
  have rd2 : EachIs (fun v b => ∃ as, Reads h2 v (enc b) as ∧ s1.heap.objs.size ∉ as) (B1.map f) B1 := each_of f B1 fun b hb => ⟨[], rd b (p1.mem_iff.mp hb) h2 k2, List.not_mem_nil⟩
  have pe : (B1.map enc).Perm (B.map enc) := p1.map enc
  refine wpAny_bind (wpAny_holding (list_sort_data (s := { s1 with heap := h2 }) (R := fun v b => v = f b) hoL (each_of f B1 fun _ _ => rfl) rd2 (fun d hd1 d' hd2 => hal d (pe.mem_iff.mp hd1) d' (pe.mem_iff.mp hd2))
    (hk.elim (fun z => .inl fun d hd1 => z d (pe.mem_iff.mp hd1)) fun z => .inr fun d hd1 => z d (pe.mem_iff.mp hd1)) n1 (fun b hb => ?_) fun out _ ho => ?_))
  · have h8 := hd b (p1.mem_iff.mp hb)
    have hA : A.in1.units ≤ A.units + 1 := by first | exact Nat.le_refl _ | exact Nat.le_succ _ | simp
    omega
  · obtain ⟨c, hc⟩ := sortedHeap_at (vs := B1.map f) (out := out.toArray) hoL
    have pw := sort_pairwise (sortLe_total (listOrd itemOrd) false fun b => keyToks (enc b)) B1
    refine wpAny_pure ⟨_, rfl, q _ s1.heap.objs.size out.toArray c (B1.mergeSort (dataLe false enc)) (fun b u e => ?_) g1 o1 z1 hc (by rw [each_eq ho]) ((List.mergeSort_perm _ _).trans p1) pw⟩
    have lt := Heap.lt_size (k1 b u e)
    show (sortedHeap h2 s1.heap.objs.size (B1.map f) out.toArray).get? b = some u
    rw [sortedHeap_old (Nat.ne_of_lt lt) (by rw [z2]; exact Nat.lt_succ_of_lt lt)]
    exact k2 b u e
end
end Gk
set_option Elab.async false
set_option autoImplicit false
set_option linter.all false
set_option maxRecDepth 100000
set_option maxHeartbeats 4000000
namespace Gk
open PySem PySem.Spec PyProof.Rows L2
open PySem.W (EachIs AllAlike Sortable dataLe dataLt alike keyToks sort_pairwise sortLe_total list_sort_data)
/-! ### set of a text -/
section
open PySem.Froz (SD TxOk addTx runD sObj finU itObj itEnd sing endHeap two tupObj stopObj)
variable {P : Program} {w : World} {A : Around} {E : Value → Shared → Prop} {s : Shared}
theorem add_ris {D : SD} {h : Int} {v : Value} (r : Ris D.2.2.place.toList) : Ris (addTx h v D).2.2.place.toList ∧ (addTx h v D).2.2.led = D.2.2.led := by
  have r1 := layNew_ris D.2.2 D.1 h v r
  have l1 := layNew_led D.2.2 D.1 h v
  unfold addTx PySem.Froz.tailTx
  have e1 : Ris (if (layNew D.2.2 D.1 h v).2.1.plain = true then { (layNew D.2.2 D.1 h v).2.1 with plain := false } else (layNew D.2.2 D.1 h v).2.1).place.toList ∧ (if (layNew D.2.2 D.1 h v).2.1.plain = true then { (layNew D.2.2 D.1 h v).2.1 with plain := false } else (layNew D.2.2 D.1 h v).2.1).led = D.2.2.led := by
    split
    · exact ⟨r1, l1⟩
    · exact ⟨r1, l1⟩
  generalize (if (layNew D.2.2 D.1 h v).2.1.plain = true then { (layNew D.2.2 D.1 h v).2.1 with plain := false } else (layNew D.2.2 D.1 h v).2.1) = t2 at e1 ⊢
  split
  · exact ⟨relayAll_ris t2 _ _, (relayAll_led t2 _ _).trans e1.2⟩
  · exact e1
theorem run_ris : ∀ (cs : List Nat) (tk : Tok) (D : SD), Ris D.2.2.place.toList → Ris (runD w cs tk D).2.2.place.toList ∧ (runD w cs tk D).2.2.led = D.2.2.led
  | [], _, _, r => ⟨r, rfl⟩
  | c :: cs, tk, D, r => by
    obtain ⟨r1, l1⟩ := add_ris (h := hashStr w (sing c)) (v := .str (sing c) tk) r
    obtain ⟨r2, l2⟩ := run_ris cs (tk + 2) _ r1
    exact ⟨r2, l2.trans l1⟩
theorem run_ok : ∀ (cs : List Nat) (tk : Tok) (D : SD) (l : List Str), TxOk P w D l → TxOk P w (runD w cs tk D) ((cs.map sing).reverse ++ l)
  | [], _, _, _, F => F
  | c :: cs, tk, D, l, F => by
    rw [List.map_cons, List.reverse_cons, List.append_assoc]
    exact run_ok cs (tk + 2) _ (sing c :: l) (PySem.Froz.add_ok tk F)
/-- set(v): a new set, then what v gives -/
theorem call_set_by {v : Value} {Po : Heap → Prop} {Q : Value → Shared → Prop}
    (up : ∀ (A' : Around) (E' : Value → Shared → Prop) (Q' : Unit → Shared → Prop), A' = A.in1.in1 → (∀ (h' : Heap) (tk : Nat), Po h' → (∀ b o, s.heap.get? b = some o → h'.get? b = some o) → Q' () { s with heap := h', toks := tk }) →
      wpAny (model P w) A' (Builtin.Frozenset.updateFrom "set.__init__" s.heap.objs.size v) Q' E' { s with heap := s.heap.push (setO0 w) })
    (q : ∀ (h' : Heap) (tk : Nat), Po h' → (∀ b o, s.heap.get? b = some o → h'.get? b = some o) → Q (.ref s.heap.objs.size) { s with heap := h', toks := tk }) : wpAny (model P w) A (call (.type "set") [v]) Q E s := by
  obtain ⟨c, tl, hmro⟩ := F.called_set.mro
  have hmade := F.called_set.made
  have hsub := F.called_set.sub
  refine wpAny_call (codeAny_of_tree ?_)
  show wpAny _ _ (callAny (.type "set") _) _ _ _
  refine wpAny_pure ⟨Code.quiet_builtin _ (by decide +kernel), codeAny_builtin F.entry_type_call ?_⟩
  rw [Around.under_plain (weight_type_call_type "set" [v] []) rfl]
  have h1 := F.called_set.notType
  have h2 := F.called_set.canCreate
  have hct := F.typeCall_set_1 v
  repeat (any_goals (first | assumption | wp_step))
  refine codeAny_mono (code_set_led1 v (E := E) (Q₁ := fun ob s1 => ob = .ref s.heap.objs.size ∧ s1 = { s with heap := s.heap.push (setO0 w) }) ⟨rfl, rfl⟩) fun r s1 hr => ?_
  cases r with
  | error e => exact hr
  | ok fl =>
    cases fl with
    | ret ob =>
      obtain ⟨rfl, rfl⟩ := hr
      have hS : (s.heap.push (setO0 w)).get? s.heap.objs.size = some (setO0 w) := Heap.get?_push_size _ rfl
      have hT : Shared.TypeIs { s with heap := s.heap.push (setO0 w) } (.ref s.heap.objs.size) "set" := ⟨_, hS, rfl⟩
      have hli := F.called_set.init.lookup
      have hbi := F.called_set.init.bind (.ref s.heap.objs.size)
      repeat (any_goals (first | assumption | wp_step))
      refine codeAny_mono (codeAny_call_builtin (R := wants (fun r z => r = .none ∧ ∃ (h' : Heap) (tk : Nat), z = { s with heap := h', toks := tk } ∧ Po h' ∧ ∀ b o, s.heap.get? b = some o → h'.get? b = some o) E) F.called_set.init.plain F.entry_set_init (check_set_init_1 hT ?_)) fun r2 s2 hr2 => ?_
      · unfold Builtin.«set.__init__» noKeywords
        generalize hU : Builtin.Frozenset.updateFrom = U
        wp_walk
        subst hU
        refine up _ _ _ rfl fun h' tk po k => ?_
        show wpAny _ _ (ret Value.none) _ _ _
        exact wpAny_pure ⟨rfl, h', tk, rfl, po, k⟩
      · cases r2 with
        | error e => exact hr2
        | ok fl2 =>
          cases fl2 with
          | ret r =>
            obtain ⟨rfl, h', tk, rfl, po, k⟩ := hr2
            repeat (any_goals (first | assumption | wp_step))
            exact q _ _ po k
          | _ => exact hr2.elim
    | _ => exact hr.elim
/-- at a: a set of the texts l -/
def PoX (P : Program) (w : World) (a : Addr) (l : List Str) (h : Heap) : Prop := ∃ D : SD, h.get? a = some (sObj "set" D) ∧ TxOk P w D l ∧ Ris D.2.2.place.toList ∧ (w.params.followText "set-order" = true ∨ D.2.2.led = true)
theorem set_text {x : Str} {u : Tok} (hx : x.cps.all (· < 128) = true) (nd : x.cps.toList.Nodup) (hl : x.cps.toList.length + 1 < scanBound) (hh : A.handled = none) {Q : Value → Shared → Prop}
    (q : ∀ (h' : Heap) (tk : Nat), PoX P w s.heap.objs.size (x.cps.toList.map sing).reverse h' → (∀ b o, s.heap.get? b = some o → h'.get? b = some o) → Q (.ref s.heap.objs.size) { s with heap := h', toks := tk }) : wpAny (model P w) A (call (.type "set") [.str x u]) Q E s := by
  refine call_set_by (fun A' E' Q' eA up => ?_) q
  have hh' : A'.in1.handled = none := by rw [eA]; simp [hh]
  have hS : (s.heap.push (setO0 w)).get? s.heap.objs.size = some (setO0 w) := Heap.get?_push_size _ rfl
  unfold Builtin.Frozenset.updateFrom
  refine wpAny_bind (Fz.anySet (wp_if_neg (by decide) (wpAny_bind (wpAny_typeOf (PySem.typeIs_str _ _ _) (wp_if_neg (by decide) (wpAny_bind (wpAny_pyIter_ascii hx ?_)))))))
  refine wpAny_bind (wpAny_runValue ?_)
  have z1 : (s.heap.push (setO0 w)).objs.size = s.heap.objs.size + 1 := Heap.size_push ..
  have ga : ((s.heap.push (setO0 w)).push (itObj x u 0)).get? s.heap.objs.size = some (sObj "set" (#[], 0, .fresh 0 0 (!w.params.followText "set-order"))) := Heap.get?_push_of_some _ hS
  have gi : ((s.heap.push (setO0 w)).push (itObj x u 0)).get? (s.heap.push (setO0 w)).objs.size = some (itObj x u 0) := Heap.get?_push_size _ rfl
  have hne : s.heap.objs.size ≠ (s.heap.push (setO0 w)).objs.size := by rw [z1]; exact Nat.ne_of_lt (Nat.lt_succ_self _)
  refine PySem.Froz.code_update (P := P) (w := w) (u := u) (T := "set") hne (by first | exact hh' | simp [eA, hh]) x.cps.toList 0 _ [] _ rfl ga gi (TxOk.nil rfl) (fun _ _ => List.not_mem_nil) nd (by simpa using Nat.lt_of_succ_lt hl) ?_
  obtain ⟨h2, eh2⟩ : ∃ h2, h2 = (s.heap.push (setO0 w)).push (itObj x u 0) := ⟨_, rfl⟩
  obtain ⟨D, eD⟩ : ∃ D : SD, D = runD w x.cps.toList s.toks (#[], 0, .fresh 0 0 (!w.params.followText "set-order")) := ⟨_, rfl⟩
  show wpAny _ _ (pure ()) _ _ (finU { s with heap := (s.heap.push (setO0 w)).push (itObj x u 0) } s.heap.objs.size "set" (s.heap.push (setO0 w)).objs.size (runD w x.cps.toList s.toks (#[], 0, .fresh 0 0 (!w.params.followText "set-order"))) (0 + x.cps.toList.length) x.cps.toList.length)
  rw [← eD]
  rw [← eh2] at ga gi ⊢
  refine wpAny_pure ?_
  have old2 : ∀ b o, s.heap.get? b = some o → h2.get? b = some o := fun b o e => by rw [eh2]; exact Heap.get?_push_of_some _ (Heap.get?_push_of_some _ e)
  have rr : Ris D.2.2.place.toList ∧ D.2.2.led = (!w.params.followText "set-order") := by
    rw [eD]
    exact run_ris x.cps.toList s.toks _ List.Pairwise.nil
  have tx : TxOk P w D (x.cps.toList.map sing).reverse := by
    have h := run_ok (P := P) (w := w) x.cps.toList s.toks (#[], 0, .fresh 0 0 (!w.params.followText "set-order")) [] (TxOk.nil rfl)
    rw [List.append_nil, ← eD] at h
    exact h
  have two1 : (two h2 s.heap.objs.size (sObj "set" D) (s.heap.push (setO0 w)).objs.size (itEnd (0 + x.cps.toList.length))).get? s.heap.objs.size = some (sObj "set" D) :=
    PySem.Heap.get?_update_of_ne _ (Ne.symm hne) (PySem.Froz.get_upd _ ga rfl)
  have two2 : ∀ b o, s.heap.get? b = some o → (two h2 s.heap.objs.size (sObj "set" D) (s.heap.push (setO0 w)).objs.size (itEnd (0 + x.cps.toList.length))).get? b = some o := fun b o e => by
    have lt := Heap.lt_size e
    exact PySem.Heap.get?_update_of_ne _ (by rw [z1]; exact Nat.ne_of_gt (Nat.lt_succ_of_lt lt)) (PySem.Heap.get?_update_of_ne _ (Nat.ne_of_gt lt) (old2 b o e))
  refine up _ _ ⟨D, Heap.get?_push_of_some _ (Heap.get?_push_of_some _ two1), tx, rr.1, ?_⟩ fun b o e => Heap.get?_push_of_some _ (Heap.get?_push_of_some _ (two2 b o e))
  rw [rr.2]
  cases w.params.followText "set-order"
  · exact .inr rfl
  · exact .inl rfl
/-- set of a list of ints -/
theorem set_ints {l : Addr} {its : Array Value} (ns : List Int) (hh : A.handled = none) (hl : s.heap.IsList l its) (hi : IntsAre its.toList ns) (hb : ns.length + 1 < scanBound) {Q : Value → Shared → Prop}
    (q : ∀ (h' : Heap) (tk : Nat), (∃ c, c ≤ ns.length ∧ SetR w h' s.heap.objs.size (fun j => decide (j ∈ ns)) c) → (∀ b o, s.heap.get? b = some o → h'.get? b = some o) → Q (.ref s.heap.objs.size) { s with heap := h', toks := tk }) : wpAny (model P w) A (call (.type "set") [.ref l]) Q E s := by
  have sz : its.size = ns.length := by rw [← Array.length_toList, IntsAre.length hi]
  refine call_set_by (fun A' E' Q' eA up => ?_) q
  have hS : (s.heap.push (setO0 w)).get? s.heap.objs.size = some (setO0 w) := Heap.get?_push_size _ rfl
  have z1 : (s.heap.push (setO0 w)).objs.size = s.heap.objs.size + 1 := Heap.size_push ..
  obtain ⟨ol, ho, hc, n, hd⟩ := hl
  have lt : l < s.heap.objs.size := Heap.lt_size ho
  have ho' : (s.heap.push (setO0 w)).get? l = some ol := Heap.get?_push_of_some _ ho
  have hl' : (s.heap.push (setO0 w)).IsList l its := ⟨ol, ho', hc, n, hd⟩
  have hT : Shared.TypeIs { s with heap := s.heap.push (setO0 w) } (.ref l) "list" := ⟨ol, ho', hc⟩
  unfold Builtin.Frozenset.updateFrom
  refine wpAny_bind ?_
  unfold Builtin.Frozenset.isAnySet orM
  refine wpAny_bind (wpAny_isInstance hT F.sub_list_set ?_)
  show wpAny _ _ (isInstance (.ref l) (.type "frozenset")) _ _ _
  refine wpAny_isInstance hT F.sub_list_frozenset ?_
  refine wp_if_neg (by decide) (wpAny_bind (wpAny_typeOf hT ?_))
  refine wp_if_neg (by decide) ?_
  refine wpAny_bind (wpAny_pyIter_list hl' ?_)
  refine wpAny_bind (wpAny_runValue ?_)
  have n1 : l ≠ (s.heap.push (setO0 w)).objs.size := by rw [z1]; exact Nat.ne_of_lt (Nat.lt_succ_of_lt lt)
  have n2 : s.heap.objs.size ∉ [(s.heap.push (setO0 w)).objs.size, l] := by
    rw [z1]
    intro h
    rcases List.mem_cons.mp h with h | h
    · exact absurd h (Nat.ne_of_lt (Nat.lt_succ_self _))
    · exact absurd (List.mem_singleton.mp h) (Nat.ne_of_gt lt)
  have hv : ∀ (i : Nat) (v : Value), its[i]? = some v → ∃ k t, ns[i]? = some k ∧ v = .int k t := fun i v hv => by
    have hi2 : i < ns.length := by rw [← sz]; exact (Array.getElem?_eq_some_iff.mp hv).1
    obtain ⟨t, e⟩ := PyProof.Rows.IntsAre.int_at hi i v (by rw [Array.getElem?_toList]; exact hv)
    refine ⟨ns[i], t, List.getElem?_eq_getElem hi2, e.trans ?_⟩
    rw [List.getD_eq_getElem?_getD, List.getElem?_eq_getElem hi2]
    rfl
  have hh3 : A'.in1.handled = none := by rw [eA]; simp [hh]
  refine set_update_ints ((Walks.list hh3 _ l n1 its).toS) s.heap.objs.size n2 ns sz hb hv (its.size - 0) 0 _ (by omega) (Nat.zero_le _) ⟨⟨_, Heap.get?_push_size _ rfl, rfl, rfl⟩, (hl'.push _)⟩ ?h0 fun s' c hm hc' hS' => ?h1
  case h0 =>
    refine ⟨0, Nat.le_refl 0, setR_new_at (w := w) ?_⟩
    exact Heap.get?_push_of_some _ hS
  obtain ⟨h', g2, d', tk', os'⟩ := s'
  obtain rfl : g2 = s.gens := hm.gens
  obtain rfl : d' = s.drawn := hm.drawn
  obtain rfl : os' = s.os := hm.os
  show wpAny _ _ (pure ()) _ _ _
  refine wpAny_pure (up h' tk' ⟨c, by rw [← sz]; exact hc', hS'⟩ fun b o e => ?_)
  have lb : b < s.heap.objs.size := Heap.lt_size e
  refine hm.heap b o (fun h => ?_) (Heap.get?_push_of_some _ (Heap.get?_push_of_some _ e))
  rcases List.mem_cons.mp h with h | h
  · exact absurd h (Nat.ne_of_lt lb)
  · have h2 := List.mem_singleton.mp h
    rw [z1] at h2
    exact absurd h2 (Nat.ne_of_lt (Nat.lt_succ_of_lt lb))
end
end Gk
set_option Elab.async false
set_option autoImplicit false
set_option linter.all false
set_option maxRecDepth 100000
set_option maxHeartbeats 4000000
/-! # Sets as things of the layer: rules and steps -/
namespace Gk
open PySem PySem.Spec PyProof.Rows L2
open PySem.W (EachIs AllAlike Sortable dataLe dataLt alike keyToks)
section
variable {P : Program} {w : World} {H : Hp} {h : Heap} {a : Addr}
def SetXO (P : Program) (w : World) (a : Addr) (l : List Str) : HO := .ext (PoX P w a l)
theorem setXO_new {l : List Str} (R : PoX P w a l h) : ObjOk P w H h a (SetXO P w a l) := by
  have ⟨D, ho, r⟩ := R
  exact ⟨R, ⟨_, ho⟩, fun h1 h2 p k => by
    obtain ⟨D, ho, r⟩ := p
    exact ⟨D, k _ ho, r⟩⟩
def PoM (P : Program) (w : World) (a : Addr) (L : List RwM) (h : Heap) : Prop := ∃ es ep t, SetM0 P w h a L es ep t
def SetMO (P : Program) (w : World) (a : Addr) (L : List RwM) : HO := .ext (PoM P w a L)
theorem SetM0.keep {L : List RwM} {es : Array (Int × Value)} {ep : Nat} {t : SetTable} {h2 : Heap} (R : SetM0 P w h a L es ep t) (k : ∀ o, h.get? a = some o → h2.get? a = some o) : SetM0 P w h2 a L es ep t := by
  obtain ⟨⟨o, ho, r⟩, q1, q2, q3, q4, q5, q6⟩ := R
  exact ⟨⟨o, k o ho, r⟩, q1, q2, q3, q4, q5, q6⟩
theorem setMO_new {L : List RwM} (R : PoM P w a L h) : ObjOk P w H h a (SetMO P w a L) := by
  have ⟨es, ep, t, R'⟩ := R
  obtain ⟨o, ho, _⟩ := R'.ob
  exact ⟨R, ⟨o, ho⟩, fun h1 h2 p k => by
    obtain ⟨es, ep, t, p⟩ := p
    exact ⟨es, ep, t, p.keep k⟩⟩
theorem setM0_fresh (h : Heap) : PoM P w h.objs.size [] (h.push (setO0 w)) := ⟨#[], 0, .fresh 0 0 (!w.params.followText "set-order"), ⟨_, Heap.get?_push_size _ rfl, ⟨rfl, rfl, rfl⟩, rfl⟩, rfl, ⟨List.Pairwise.nil, rfl, rfl, .inl rfl, fun x hx => (by cases hx), fun i h j hi => (by simp at hi)⟩, List.nodup_nil, by
  cases w.params.followText "set-order"
  · exact .inr rfl
  · exact .inl rfl, by show 0 * 5 < 7 * 3; decide, by show 0 < 64; decide⟩
end
/-! ### what is asked of a callee: sets made, added to, sorted -/
/-- set(text), its signs all unlike -/
def rSetX (P : Program) (w : World) : List V → Hp → VK → Prop := fun xs H Q => ∃ z : Str, xs = [.str z] ∧ Pl z ∧ (TL.tl z).Nodup ∧ z.length ≤ 1000 ∧ ∀ p H', H p = none → Same H H' → H' p = some (SetXO P w p ((TL.tl z).map sg).reverse) → Q (.ref p) H'
/-- set(list of ints) -/
def rSetI (K : PySem.W.Frag) (w : World) : List V → Hp → VK → Prop := fun xs H Q => ∃ (l : Addr) (ns : List Int), xs = [.ref l] ∧ SqL K H l (ns.map V.int) ∧ ns.length ≤ 1000 ∧ ∀ p c H', H p = none → c ≤ ns.length → Same H H' → H' p = some (SetO w p (fun j => decide (j ∈ ns)) c) → Q (.ref p) H'
def rSetA (K : PySem.W.Frag) (P : Program) (w : World) : List V → Hp → VK → Prop := fun xs H Q => rSetX P w xs H Q ∨ rSetI K w xs H Q
def rMAdd (K : PySem.W.Frag) (P : Program) (w : World) : V → List V → Hp → VK → Prop := fun x xs H Q => ∃ (a : Addr) (L : List RwM) (y : Addr) (k : List Key), x = .ref a ∧ xs = [.ref y] ∧ H a = some (SetMO P w a L) ∧ (∀ p ∈ L, SqT K H p.1 (p.2.map kV)) ∧ SqT K H y (k.map kV) ∧ L.length + 1 < 64 ∧
  ∀ L', ((k ∈ L.map (·.2) ∧ L' = L) ∨ (k ∉ L.map (·.2) ∧ L'.Perm ((y, k) :: L))) → Q .non (upd H a (SetMO P w a L'))
def kD : Key → PyData
  | .inl i => .int i
  | .inr z => .str z
def encM (p : RwM) : PyData := .tuple (p.2.map kD)
def rSortX (P : Program) (w : World) : List V → Hp → VK → Prop := fun vs H Q => ∃ (a : Addr) (l : List Str), vs = [.ref a] ∧ H a = some (SetXO P w a l) ∧ l.Nodup ∧ l.length ≤ 1000 ∧
  ∀ (ys : List Str) p H', ys.Perm l → ys.Pairwise (fun x y => x.cps.toList ≤ y.cps.toList) → H p = none → Same H H' → H' p = some (.lst (ys.map V.str)) → Q (.ref p) H'
def rSortM (K : PySem.W.Frag) (P : Program) (w : World) : List V → Hp → VK → Prop := fun vs H Q => ∃ (a : Addr) (L : List RwM), vs = [.ref a] ∧ H a = some (SetMO P w a L) ∧ (∀ p ∈ L, SqT K H p.1 (p.2.map kV)) ∧ AllAlike (L.map encM) ∧ (∀ p ∈ L, p.2 ≠ []) ∧
  ∀ (L' : List RwM) p H', L'.Perm L → (L.map (·.2)).Nodup → L'.Pairwise (fun x y => dataLe false encM x y = true) → H p = none → Same H H' → H' p = some (.lst (L'.map fun q => V.ref q.1)) → Q (.ref p) H'
def rSortedA (K : PySem.W.Frag) (P : Program) (w : World) : List V → Hp → VK → Prop := fun vs H Q => (rSortedS K vs H Q ∨ rSortX P w vs H Q) ∨ (rSortedSet w vs H Q ∨ rSortM K P w vs H Q)
section
variable {X : Cx}
theorem all128 {z : Str} (h : Pl z) : z.cps.all (· < 128) = true := by
  rw [Array.all_eq_true']
  intro c hc
  exact decide_eq_true (h c (by simpa using hc))
theorem cr_setX (hc : X.calm = true) : CallR X (.type "set") (rSetX X.prog X.w) := by
  intro pins s σ H xs us Q I r h
  obtain ⟨z, rfl, pz, nd, lz, q⟩ := h
  cases r with
  | cons r1 r2 =>
    cases r2
    obtain ⟨u, rfl⟩ := r1
    have hn : H s.heap.objs.size = none := I.hok.fresh (Nat.le_refl _)
    refine set_text (P := X.prog) (w := X.w) (all128 pz) nd (by have : z.length = z.cps.toList.length := by simp [Str.length]
                                                                unfold scanBound; omega) (I.ok.hd hc) fun h' tk po k => ?_
    exact ⟨.ref _, upd H s.heap.objs.size (SetXO X.prog X.w s.heap.objs.size _), I.laid (t' := tk) k (Nat.le_refl _) (setXO_new po), rfl, q _ _ hn (sm_new hn) upd_same⟩
theorem cr_setI (hc : X.calm = true) : CallR X (.type "set") (rSetI X.K X.w) := by
  intro pins s σ H xs us Q I r h
  obtain ⟨l, ns, rfl, hl, lz, q⟩ := h
  rw [Vals.ref1 r]
  obtain ⟨its, rv, pl, hz⟩ := I.list hl
  have hn : H s.heap.objs.size = none := I.hok.fresh (Nat.le_refl _)
  refine set_ints (P := X.prog) (w := X.w) ns (I.ok.hd hc) pl.isList (by simpa using rv.ints) (by unfold scanBound; omega) fun h' tk ⟨c, hc', R⟩ k => ?_
  exact ⟨.ref _, upd H s.heap.objs.size (SetO X.w s.heap.objs.size _ c), I.laid (t' := tk) k (Nat.le_refl _) (setO_new R), rfl, q _ c _ hn hc' (sm_new hn) upd_same⟩
theorem cr_setA (K : PySem.W.Frag) (P : Program) (w : World) (hc : X.calm = true := by rfl) (hK : X.K = K := by rfl) (hP : X.prog = P := by rfl) (hw : X.w = w := by rfl) : CallR X (.type "set") (rSetA K P w) := by
  subst hK
  subst hP
  subst hw
  intro pins s σ H xs us Q I r h
  rcases h with h | h
  · exact cr_setX hc pins s σ H xs us Q I r h
  · exact cr_setI hc pins s σ H xs us Q I r h
theorem mem_of_vals {P : Program} {w : World} : ∀ {k : List Key} {us : List Value}, Vals (k.map kV) us → ItemsAre (mixKind P w) k us
  | [], _, .nil => .nil
  | .inl i :: k, _, .cons r t => by
    obtain ⟨tk, rfl⟩ := r
    exact .cons (by show keyIs (.inl i) (.int i tk) = true; simp [keyIs, Value.isInt]) (mem_of_vals t)
  | .inr z :: k, _, .cons r t => by
    obtain ⟨tk, rfl⟩ := r
    exact .cons (by show keyIs (.inr z) (.str z tk) = true; simp [keyIs, Value.isStrOf]) (mem_of_vals t)
theorem isM_of {pins : List (Addr × Obj)} {σ : L2.St} {H : Hp} {s : Shared} {b : Addr} {k : List Key} (I : Inv X pins σ H s) (h : SqT X.K H b (k.map kV)) : IsM X.prog X.w s.heap k b := by
  obtain ⟨its, r, ⟨o, ho, hc, n, hd⟩, _⟩ := I.tuple h
  exact ⟨o, its.toArray, n, ho, hc, hd, by simpa using mem_of_vals r⟩
theorem mt_madd (hu : X.A.units + 64 < cLine) : MtR X "set.add" (rMAdd X.K X.prog X.w) := by
  intro pins s σ H x xs v us Q I rx rxs h
  obtain ⟨a, L, y, k, rfl, rfl, ha, hL, hy, few, q⟩ := h
  cases rx
  rw [Vals.ref1 rxs]
  obtain ⟨es, ep, t, R⟩ : PoM X.prog X.w a L s.heap := (I.hok a _ ha).1
  obtain ⟨o, ho, hex, hd⟩ := R.ob
  refine wpAny_call_entry F.slot_set_add ⟨o, ho, hex.1⟩ F.entry_set_add ?_ (F.args_set_add_2 _ _)
  unfold Builtin.«set.add» Builtin.Frozenset.oneOther
  simp only [List.isEmpty_nil, bind_assoc]
  unfold Builtin.Frozenset.addrOf setAdd
  refine wpAny_bind (wpAny_pure ?_)
  try dsimp only
  refine wpAny_bind (wpAny_pure ?_)
  try dsimp only
  refine wpAny_bind (wpAny_holding (wpAny_bind ?_))
  have kx := isM_of I hy
  have hM : AllM X.prog X.w s.heap L := fun p hp => isM_of I (hL p hp)
  have ux : X.A.in1.units ≤ X.A.units + 1 := by first | exact Nat.le_refl _ | exact Nat.le_succ _ | simp
  refine wpAny_pyHash_tuple (by omega) kx ?_
  refine m_add (s := { s with toks := s.toks + (k.length + 1) }) R hM kx (by omega) few fun b h' L' es' ep' t' sb R' cs => ?_
  show wpAny _ _ (ret Value.none) _ _ _
  have he : ∃ u, h'.get? a = some u := by
    obtain ⟨u, hu, _⟩ := R'.ob
    exact ⟨u, hu⟩
  exact wpAny_pure ⟨_, rfl, .non, _, I.write (e := a) (t' := s.toks + (k.length + 1)) (by rw [ha]; trivial) (.inl rfl) (fun b u hb e => (sb.2 b hb).trans e) he (setMO_new ⟨es', ep', t', R'⟩), rfl, q L' cs⟩
theorem vals_refs : ∀ L : List RwM, Vals (L.map fun q => V.ref q.1) (L.map fun q => Value.ref q.1)
  | [] => .nil
  | _ :: L => .cons rfl (vals_refs L)
theorem vals_toks : ∀ B : List (Str × Tok), Vals (B.map fun q => V.str q.1) (B.map fun q => Value.str q.1 q.2)
  | [] => .nil
  | b :: B => .cons ⟨b.2, rfl⟩ (vals_toks B)
/-- a new list was laid, nothing else -/
theorem laid_list {pins : List (Addr × Obj)} {σ : L2.St} {H : Hp} {s s' : Shared} {p : Addr} {out : Array Value} {c : Nat} {ys : List V} {Q : VK} (I : Inv X pins σ H s) (k : ∀ b o, s.heap.get? b = some o → s'.heap.get? b = some o) (g : s'.gens = s.gens) (o : s'.os = s.os)
    (hp : s.heap.objs.size ≤ p) (hg : s'.heap.get? p = some (seqObj "list" out c)) (hv : Vals ys out.toList) (hl : ys.length ≤ 100000) (q : ∀ H', H p = none → Same H H' → H' p = some (.lst ys) → Q (.ref p) H') : EP X pins σ Q (.ref p) s' := by
  have hn : H p = none := I.hok.fresh hp
  have J : Inv X pins σ (upd H p (.lst ys)) { s with heap := s'.heap, gens := s'.gens, drawn := s'.drawn, toks := s'.toks } := I.call (ch := []) (Un.laid k hp hn) (I.hok.laid k hp ⟨sz_of hl, out.toList, c, hv, hg⟩) (by rw [g]; exact I.bare) (fun _ z => nomatch z)
  have e : s' = { s with heap := s'.heap, gens := s'.gens, drawn := s'.drawn, toks := s'.toks } := by
    cases s'
    cases s
    cases o
    rfl
  rw [e]
  exact ⟨.ref p, _, J, rfl, q _ hn (sm_new hn) upd_same⟩
theorem is_str_shape {P : Program} {w : World} {es : List (Int × Value)} (h : ElemsOf (strKind P w) es) : ∃ B : List (Str × Tok), es.map (·.2) = B.map fun q => Value.str q.1 q.2 := by
  induction es with
  | nil => exact ⟨[], rfl⟩
  | cons e es ih =>
    obtain ⟨B, hB⟩ := ih fun x hx => h x (List.mem_cons_of_mem _ hx)
    obtain ⟨⟨k, hk, _⟩, _⟩ := h e (List.mem_cons_self ..)
    obtain ⟨t, ht⟩ := Value.isStrOf_shape (show Value.isStrOf k e.2 = true from hk)
    exact ⟨(k, t) :: B, by rw [List.map_cons, List.map_cons, hB, ht]⟩
theorem perm_of_sub {α : Type} [DecidableEq α] : ∀ (l m : List α), l.Nodup → (∀ x ∈ l, x ∈ m) → m.length ≤ l.length → l.Perm m
  | [], m, _, _, hl => by
    rw [List.eq_nil_of_length_eq_zero (Nat.le_zero.mp hl)]
  | x :: l, m, nd, hs, hl => by
    have hx := hs x (List.mem_cons_self ..)
    have pm : m.Perm (x :: m.erase x) := List.perm_cons_erase hx
    obtain ⟨n1, n2⟩ := List.nodup_cons.mp nd
    have ll := pm.length_eq
    rw [List.length_cons] at ll hl
    refine ((perm_of_sub l (m.erase x) n2 (fun y hy => ?_) (by omega)).cons x).trans pm.symm
    exact (List.mem_erase_of_ne (fun e => n1 (by rw [← e]; exact hy))).mpr (hs y (List.mem_cons_of_mem _ hy))
theorem cr_sortX (hc : X.calm = true) (hu : X.A.units + 64 < cLine) : CallR X (.builtin "sorted") (rSortX X.prog X.w) := by
  intro pins s σ H vs us Q I r h
  obtain ⟨a, l, rfl, ha, nd, ll, q⟩ := h
  rw [Vals.ref1 r]
  obtain ⟨D, ho, tx, ri, ld⟩ : PoX X.prog X.w a l s.heap := (I.hok a _ ha).1
  obtain ⟨es, ep, t⟩ := D
  obtain ⟨B, hB⟩ := is_str_shape tx.el
  have lB : B.length = l.length := by
    have h1 := congrArg List.length hB
    rw [List.length_map, List.length_map, Array.length_toList] at h1
    rw [← h1]
    exact tx.sz
  have pB : (B.map (·.1)).Perm l := by
    refine (perm_of_sub l (B.map (·.1)) nd (fun x hx => ?_) (by rw [List.length_map]; omega)).symm
    obtain ⟨e, he, hk⟩ := (tx.mem x).mp hx
    have h2 : e.2 ∈ B.map fun q => Value.str q.1 q.2 := by
      rw [← hB]
      exact List.mem_map.mpr ⟨e, he, rfl⟩
    obtain ⟨b, hb, eb⟩ := List.mem_map.mp h2
    obtain ⟨t, ht⟩ := Value.isStrOf_shape (show Value.isStrOf x e.2 = true from hk)
    rw [ht] at eb
    injection eb with e1 e2
    exact List.mem_map.mpr ⟨b, hb, e1⟩
  have sz : es.size = l.length := tx.sz
  refine sorted_gen (fun q : Str × Tok => Value.str q.1 q.2) (fun q => .str q.1) B ⟨_, ho, rfl, rfl⟩ tx.fit (by rw [sz]; unfold scanBound; omega) ri ld (I.ok.hd hc) hu hB (fun b _ _ _ => .str b.1 b.2) (AllAlike.of fun _ _ => rfl) (Sortable.others fun _ => ⟨(by intro z; cases z), (by intro _ z; cases z)⟩)
    (fun _ _ => by simp [PyData.depth]) fun s' p out c B' k g o hp hg hv pm pw => ?_
  refine laid_list I k g o hp hg (ys := (B'.map (·.1)).map V.str) (by rw [hv, List.map_map]; exact vals_toks B') (by rw [List.length_map, List.length_map, pm.length_eq, lB]; omega) fun H' hn sp ep => q (B'.map (·.1)) p H' ((pm.map _).trans pB) ?_ hn sp ep
  rw [List.pairwise_map]
  refine pw.imp fun {x y} hxy => ?_
  rw [PySem.W.dataLe_str] at hxy
  exact of_decide_eq_true hxy
theorem reads_keys {h : Heap} : ∀ {k : List Key} {vs : List Value}, ItemsAre (mixKind X.prog X.w) k vs → ReadsAll h vs (k.map kD) []
  | _, _, .nil => .nil
  | _, _, .cons (k := k) q r => by
    have t := reads_keys (h := h) r
    rcases keyIs_shape q with ⟨i, u, rfl, rfl⟩ | ⟨z, u, rfl, rfl⟩
    · exact .cons (as := []) (.int i u) t
    · exact .cons (as := []) (.str z u) t
theorem dep_keys : ∀ k : List Key, PyData.depthAll (k.map kD) = 0
  | [] => by simp [PyData.depthAll]
  | .inl i :: k => by simp [PyData.depthAll, kD, PyData.depth, dep_keys k]
  | .inr z :: k => by simp [PyData.depthAll, kD, PyData.depth, dep_keys k]
theorem cr_sortM (hc : X.calm = true) (hu : X.A.units + 64 < cLine) : CallR X (.builtin "sorted") (rSortM X.K X.prog X.w) := by
  intro pins s σ H vs us Q I r h
  obtain ⟨a, L, rfl, ha, hL, al, ne, q⟩ := h
  rw [Vals.ref1 r]
  obtain ⟨es, ep, t, R⟩ : PoM X.prog X.w a L s.heap := (I.hok a _ ha).1
  obtain ⟨o, ho, hex, hd⟩ := R.ob
  have sz := size_rw R.rw_
  have few := R.few
  refine sorted_gen (fun q : RwM => Value.ref q.1) encM L ⟨o, ho, hex.1, hd⟩ R.fits (by unfold scanBound; omega) R.tab.ris R.ld (I.ok.hd hc) hu (by rw [R.rw_, List.map_map]; rfl) (fun b hb h' kk => ?_) al (.inl fun d hd => ?_) (fun b _ => ?_) fun s' p out c L' k g o hp hg hv pm pw => ?_
  · obtain ⟨u, its, n, hu1, hc1, hd1, hi⟩ := isM_of I (hL b hb)
    exact .tuple (kk _ _ hu1) hc1 hd1 (reads_keys hi)
  · obtain ⟨b, hb, rfl⟩ := List.mem_map.mp hd
    have h1 := ne b hb
    unfold encM
    cases hk : b.2 with
    | nil => exact absurd hk h1
    | cons x r => exact ⟨_, _, rfl⟩
  · unfold encM
    simp only [PyData.depth, dep_keys]
    decide
  · exact laid_list I k g o hp hg (ys := L'.map fun q => V.ref q.1) (by rw [hv]; exact vals_refs L') (by rw [List.length_map, pm.length_eq]; omega) fun H' hn sp ep => q L' p H' pm R.one pw hn sp ep
theorem cr_sortedA (K : PySem.W.Frag) (P : Program) (w : World) (hu : X.A.units + 64 < cLine) (hc : X.calm = true := by rfl) (hK : X.K = K := by rfl) (hP : X.prog = P := by rfl) (hw : X.w = w := by rfl) : CallR X (.builtin "sorted") (rSortedA K P w) := by
  subst hK
  subst hP
  subst hw
  intro pins s σ H xs us Q I r h
  rcases h with (h | h) | (h | h)
  · exact cr_sortedS pins s σ H xs us Q I r h
  · exact cr_sortX hc hu pins s σ H xs us Q I r h
  · exact cr_sortedSet hc pins s σ H xs us Q I r h
  · exact cr_sortM hc hu pins s σ H xs us Q I r h
end
/-! ### set comprehensions -/
def nSg (O : Addr → HO) (r : V → List V → Hp → VK → Prop) (J : It) (g : TG) (tt : TT) (te : TE) (vs : List Nat) (σ : L2.St) (H1 : Hp) (Q : VK) : Prop := ∀ D, H1 D = none → ∃ W : Nat → Nat → Hp → Prop, (∃ m, W 0 m (upd H1 D (O D))) ∧ ∀ i m H, W i m H →
  (J.stop i H ∧ Q (.ref D) H) ∨ (J.go i H ∧ ∃ Nx : Hp → Prop, (∀ H', Nx H' → ∃ m', m' < m ∧ W (i + 1) m' H') ∧ ∀ x H', J.yld i H x H' → g x (wipe σ vs) H' fun σ2 H2 => wipe σ2 vs = wipe σ vs ∧ tt σ2 H2 fun b H3 => if b = true then te σ2 H3 fun y H4 => r (.ref D) [y] H4 fun _ H5 => Nx H5 else Nx H3)
section
variable {σ : L2.St} {H : Hp} {Q : VK} {te : TE} {tt : TT} {wi : TI} {g : TG} {n : Nat} {vs : List Nat} {J : It} {G : Hp → Prop} {Y : Nat → Hp → V → Hp → Prop} {O : Addr → HO} {r : V → List V → Hp → VK → Prop} {K : PySem.W.Frag} {P : Program} {w : World}
theorem k_sg (h : wi σ H fun J H1 => nSg O r J g tt te vs σ H1 Q) : tSg O r wi g tt te vs σ H Q := h
theorem sg_it (wk : Walk J n G Y) {D : Addr} (Pv : Nat → Hp → Prop) (h0 : Pv 0 (upd H D (O D))) (hG : ∀ i H', i ≤ n → Pv i H' → G H')
    (hs : ∀ i x H1 H2, i < n → Pv i H1 → Y i H1 x H2 → g x (wipe σ vs) H2 fun σ2 H3 => wipe σ2 vs = wipe σ vs ∧ tt σ2 H3 fun b H4 => nIte b (te σ2 H4 fun y H5 => r (.ref D) [y] H5 fun _ H6 => Pv (i + 1) H6) (Pv (i + 1) H4))
    (hd : ∀ H', Pv n H' → Q (.ref D) H') : ∃ W : Nat → Nat → Hp → Prop, (∃ m, W 0 m (upd H D (O D))) ∧ ∀ i m H, W i m H →
      (J.stop i H ∧ Q (.ref D) H) ∨ (J.go i H ∧ ∃ Nx : Hp → Prop, (∀ H', Nx H' → ∃ m', m' < m ∧ W (i + 1) m' H') ∧ ∀ x H', J.yld i H x H' → g x (wipe σ vs) H' fun σ2 H2 => wipe σ2 vs = wipe σ vs ∧ tt σ2 H2 fun b H3 => if b = true then te σ2 H3 fun y H4 => r (.ref D) [y] H4 fun _ H5 => Nx H5 else Nx H3) := by
  refine ⟨fun i m H' => m = n - i ∧ i ≤ n ∧ Pv i H', ⟨n, by simp, Nat.zero_le _, h0⟩, fun i m H' hW => ?_⟩
  obtain ⟨rfl, hi, p⟩ := hW
  have gg := hG i H' hi p
  by_cases lt : i < n
  · exact .inr ⟨wk.goes i H' lt gg, Pv (i + 1), fun H2 p2 => ⟨n - (i + 1), by omega, rfl, lt, p2⟩, fun x H2 y => hs i x H' H2 lt p (wk.yields i H' x H2 lt gg y)⟩
  · obtain rfl : i = n := by omega
    exact .inl ⟨wk.stops H' gg, hd H' p⟩
/-- one of tuples of ints and texts -/
theorem k_nSgM (wk : Walk J n G Y) (hG : ∀ H', Same H H' → G H') (hn : n ≤ 62) (Pv : Nat → List (List Key) → Prop) (h0 : Pv 0 [])
    (hs : ∀ (i : Nat) (x : V) (H1 H2 : Hp) (ms : List (List Key)) (Kp : VK) (Ks : Hp → Prop), i < n → Same H H1 → Pv i ms → Y i H1 x H2 → (∀ k T H5, Same H1 H5 → SqT K H5 T (k.map kV) → Pv (i + 1) (ms ++ [k]) → Kp (.ref T) H5) → (∀ H5, Same H1 H5 → Pv (i + 1) ms → Ks H5) →
      g x (wipe σ vs) H2 fun σ2 H3 => wipe σ2 vs = wipe σ vs ∧ tt σ2 H3 fun b H4 => nIte b (te σ2 H4 Kp) (Ks H4))
    (hd : ∀ (p : Addr) (H' : Hp) (ms : List (List Key)) (L : List RwM), H p = none → Same H H' → H' p = some (SetMO P w p L) → (∀ q ∈ L, SqT K H' q.1 (q.2.map kV)) → (∀ k, k ∈ L.map (·.2) ↔ k ∈ ms) → L.length ≤ n → Pv n ms → Q (.ref p) H') : nSg (fun D => SetMO P w D []) (rMAdd K P w) J g tt te vs σ H Q := by
  intro p hp
  refine sg_it (O := fun D => SetMO P w D []) wk (fun i H' => ∃ (ms : List (List Key)) (L : List RwM), L.length ≤ i ∧ Same H H' ∧ H' p = some (SetMO P w p L) ∧ (∀ q ∈ L, SqT K H' q.1 (q.2.map kV)) ∧ (∀ k, k ∈ L.map (·.2) ↔ k ∈ ms) ∧ Pv i ms) ⟨[], [], Nat.le_refl _, sm_new hp, upd_same, fun q hq => (nomatch hq), fun k => Iff.rfl, h0⟩ (fun i H' _ h => ?_) (fun i x H1 H2 hi h hy => ?_) fun H' h => ?_
  · obtain ⟨ms, L, _, s1, _⟩ := h
    exact hG H' s1
  · obtain ⟨ms, L, hl, s1, e1, t1, m1, q1⟩ := h
    refine hs i x H1 H2 ms _ _ hi s1 q1 hy (fun k T H5 s5 hT q5 => ⟨p, L, T, k, rfl, rfl, s5 p _ e1, fun q hq => sm_t s5 (t1 q hq), hT, by omega, fun L' cs => ?_⟩) fun H5 s5 q5 => ⟨ms, L, by omega, s1.trans s5, s5 p _ e1, fun q hq => sm_t s5 (t1 q hq), m1, q5⟩
    have keepT : ∀ {b : Addr} {xs : List V}, SqT K H5 b xs → SqT K (upd H5 p (SetMO P w p L')) b xs := fun {b xs} hb => by
      rcases hb with hb | hb
      · refine .inl ?_
        have hp5 := s5 p _ e1
        rcases hb with hb | ⟨o, hb⟩
        · exact .inl (by rw [upd_ne (ne_of hb hp5 (fun z => by cases z))]; exact hb)
        · exact .inr ⟨o, by rw [upd_ne (ne_of hb hp5 (fun z => by cases z))]; exact hb⟩
      · exact .inr hb
    have t5 : ∀ q ∈ L, SqT K (upd H5 p (SetMO P w p L')) q.1 (q.2.map kV) := fun q hq => keepT (sm_t s5 (t1 q hq))
    rcases cs with ⟨hk, rfl⟩ | ⟨hk, pm⟩
    · refine ⟨ms ++ [k], L', by omega, sm_mut (s1.trans s5) hp, upd_same, t5, fun j => ?_, q5⟩
      rw [m1, List.mem_append, List.mem_singleton]
      exact ⟨.inl, fun z => z.elim id fun e => by rw [e]; exact (m1 k).mp hk⟩
    · refine ⟨ms ++ [k], L', by rw [pm.length_eq, List.length_cons]; omega, sm_mut (s1.trans s5) hp, upd_same, fun q hq => ?_, fun j => ?_, q5⟩
      · rcases List.mem_cons.mp (pm.mem_iff.mp hq) with rfl | hq
        · exact keepT hT
        · exact t5 q hq
      · rw [(pm.map (·.2)).mem_iff, List.map_cons, List.mem_cons, m1, List.mem_append, List.mem_singleton]
        exact Or.comm
  · obtain ⟨ms, L, hl, s1, e1, t1, m1, q1⟩ := h
    exact hd p H' ms L hp s1 e1 t1 m1 hl q1
end
section
variable {X : Cx} {elt tg it0 : Expr} {ifs : List Expr} {sc : Scope} {own : List (PySem.Str × Nat)} {pos : Pos} {wi : TI} {g : TG} {tt : TT} {te : TE}
theorem pe_sgM (K : PySem.W.Frag) (P : Program) (w : World) (hu : X.A.units + 64 < cLine) (hN : X.N.Nodup) (hi : PI X tg it0 wi) (ok : BlkOk X.N X.env.scope sc own)
    (hg : ∀ s H C cl fp, PG (bx X sc s H C cl fp) tg g) (ht : ∀ s H C cl fp, PTs (bx X sc s H C cl fp) ifs tt) (he : ∀ s H C cl fp, PE (bx X sc s H C cl fp) elt te) (hc : X.calm = true := by rfl) (hK : X.K = K := by rfl) (hP : X.prog = P := by rfl) (hw : X.w = w := by rfl) (hs : ∀ x, foldedSetIterable it0 X.env x = pure x := by intro _; rfl) :
    PE X (.SetComp elt [⟨tg, it0, ifs, 0⟩] sc pos) (tSg (fun D => SetMO P w D []) (rMAdd K P w) wi g tt te (own.map (·.2))) := by
  subst hw
  subst hK
  subst hP
  exact pe_sg (fun h H => setMO_new (setM0_fresh h)) (fun _ _ _ _ _ => mt_madd hu) hc hN hi ok hg ht he hs
end
end Gk
set_option Elab.async false
set_option autoImplicit false
set_option linter.all false
set_option maxRecDepth 100000
set_option maxHeartbeats 4000000
/-! # Own classes, dicts, lists that grow: rules by name, steps -/
namespace Gk
open PySem PySem.Spec PyProof.Rows L2
open PySem.W (EachIs AllAlike Sortable dataLe dataLt alike keyToks)
/-- a callee that may raise, asked where it does not -/
theorem passX {P : Program} {w : World} {X : Cx} : Passes (L2.CX P w) X E0 := fun _ _ _ _ _ _ _ h => by
  obtain ⟨_, _, _, _, _, _, _, _, _, _, _, _, z⟩ := h
  exact z.elim
/-- .. and its exceptions are this def's -/
theorem passE {X : Cx} {E : XK} (tk : Takes X (fun cls d _ H => E cls d H)) : Passes (L2.CX X.prog X.w) X E := fun _ _ _ _ e s' I c => tk e s' (XE.of_call I (fun _ _ _ h => h) c)
/-- a tuple that stands in the written part under the module's name x -/
structure GloT (K : PySem.W.Frag) (mg : Str → Option Value) (x : Str) (xs : List V) : Prop where
  g : mg x = some (.ref (He.ga K x))
  t : ∀ H, SqT K H (He.ga K x) xs
theorem pe_gt {X : Cx} {K : PySem.W.Frag} {x : Str} {xs : List V} {pos : Pos} (h : GloT K X.mg x xs) (hg : Gl X x := by rfl) (hd : (x == ("__debug__" : Str)) = false := by decide) : PE X (.Name x pos) (tC (.ref (He.ga K x))) := pe_gr h.g hg hd
/-- the names of a comprehension's block within another's -/
def rlb (s1 s0 : Scope) : Scope := { s1 with names := s1.names.map fun (n, k) => if (k == .free && s0.kind == .function && s0.names.lookup n == some .cell) then (n, .cell) else (n, k) }
/-! ### methods, instances -/
/-- the method m of the class under the module's name C keeps sp -/
structure CalleeM (P : Program) (w : World) (K : PySem.W.Frag) (mg : Str → Option Value) (base : Heap) (CX : CXT) (C m : Str) (k : Nat) (sp : Sp) : Prop where
  cls : Cls K (He.ga K C)
  me : Meth K (He.ga K C) m (He.ma K (He.ga K C) m)
  ex : ∃ fd ps, FnOk P w K mg base CX k (He.ma K (He.ga K C) m) fd ps sp ∧ Binds K fd ps []
/-- the class under the module's name C, made with n values and the keywords ks -/
structure OwnMk (P : Program) (w : World) (K : PySem.W.Frag) (mg : Str → Option Value) (base : Heap) (CX : CXT) (C : Str) (k n : Nat) (ks : List Str) (gV : List V → List V → List V) (sp : Sp) : Prop where
  gC : mg C = some (.ref (He.ga K C))
  mkr : Mk K (He.ga K C) (He.ma K (He.ga K C) "__init__")
  ex : ∃ fd ps, FnOk P w K mg base CX k (He.ma K (He.ga K C) "__init__") fd ps sp ∧ ∃ g : List Value → List Value → List Value, KBn K fd ps (n + 1) ks g gV
section
variable {X : Cx} {K : PySem.W.Frag} {CX : CXT} {k j n : Nat} {sp : Sp} {C m x : Str} {p pos apos : Pos} {o e : Expr} {es : List Expr} {ta : TE} {t tk : TA} {ks : List Str} {gV : List V → List V → List V} {kws : List Keyword} {pl : Sem Bool}
theorem pe_mt0 (c : CalleeM X.prog X.w K X.mg X.base CX C m k sp) (hr : Room j X.A) (he : PE X o ta) (hx : Passes CX X E0) (hK : X.K = K := by rfl) (hj : k ≤ j := by first | decide | omega)
    (ht : eval (.Call (.Attribute o m apos) [] [] pos) X.env = (do
      let ov ← eval o X.env
      standAt apos.atName
      let (f, first) ← holding [ov] (getMethod ov m pl)
      callWith pos f first (backTo pos (starEach [] X.env)) (backToKw pos (keywordEach [] X.env))) := by rfl) : PE X (.Call (.Attribute o m apos) [] [] pos) (tMeth (He.ga K C) m sp [] E0 ta tNil) := by
  subst hK
  obtain ⟨fd, ps, F, hb⟩ := c.ex
  exact pe_meth0 he c.cls c.me F (hr.mono hj) hb .nil hx ht
theorem pe_mt1 (c : CalleeM X.prog X.w K X.mg X.base CX C m k sp) (hr : Room j X.A) (he : PE X o ta) (ha : PA X (e :: es) t) (hx : Passes CX X E0) (hK : X.K = K := by rfl) (hj : k ≤ j := by first | decide | omega) (hst : starEach (e :: es) X.env = (false, eval e X.env) :: starEach es X.env := by rfl) (hpl : (backTo pos (starEach es X.env)).any (·.1) = false := by rfl)
    (ht : eval (.Call (.Attribute o m apos) (e :: es) [] pos) X.env = (do
      let ov ← eval o X.env
      standAt apos.atName
      let (f, first) ← holding [ov] (getMethod ov m pl)
      callWith pos f first (backTo pos (starEach (e :: es) X.env)) (backToKw pos (keywordEach [] X.env))) := by rfl) : PE X (.Call (.Attribute o m apos) (e :: es) [] pos) (tMeth (He.ga K C) m sp [] E0 ta t) := by
  subst hK
  obtain ⟨fd, ps, F, hb⟩ := c.ex
  exact pe_meth he c.cls c.me F (hr.mono hj) hb .nil hx ha hst hpl ht
theorem pe_mkK (c : OwnMk X.prog X.w K X.mg X.base CX x k n ks gV sp) (hr : Room j X.A) (ha : PA X (e :: es) t) (hkw : PK X kws tk) (hx : Passes CX X E0) (hK : X.K = K := by rfl) (hj : k + 1 ≤ j := by first | decide | omega) (hg : Gl X x := by rfl)
    (hall : (backToKw pos (keywordEach kws X.env)).all (·.1.isSome) = true := by rfl) (hks : (backToKw pos (keywordEach kws X.env)).filterMap (·.1) = ks := by rfl) (hdb : (x == ("__debug__" : Str)) = false := by decide)
    (he : starEach (e :: es) X.env = (false, eval e X.env) :: starEach es X.env := by rfl) (hpl : ((backTo pos (starEach (e :: es) X.env)).any (·.1) || (backToKw pos (keywordEach kws X.env)).any (·.1.isNone)) = false := by rfl) :
    PE X (.Call (.Name x p) (e :: es) kws pos) (tMakeK (He.ga K x) n ks.length sp gV E0 t tk) := by
  subst hK
  obtain ⟨fd, ps, F, g, hb⟩ := c.ex
  exact pe_makeK c.mkr F (hr.mono hj) hg c.gC hb hx ha hkw hall hks hdb he hpl
end
/-! ### steps -/
def nMeth (C : Addr) (m : Str) (x : V) (H : Hp) (A : Prop) : Prop := ∃ a dx fs, x = .ref a ∧ H a = some (.ins C dx fs) ∧ fs.lookup m = none ∧ A
def nFld (K : PySem.W.Frag) (f : Str) (x : V) (H : Hp) (Q : VK) : Prop := ∃ a C dx fs v, x = .ref a ∧ H a = some (.ins C dx fs) ∧ Cls K C ∧ NoAttr K C f ∧ fs.lookup f = some v ∧ Q v H
def nSFld (K : PySem.W.Frag) (f : Str) (y x : V) (H : Hp) (R : Hp → Prop) : Prop := ∃ a C dx fs, x = .ref a ∧ H a = some (.ins C dx fs) ∧ Cls K C ∧ NoAttr K C f ∧ fs.length < 1000 ∧ R (upd H a (.ins C dx (putF f y fs)))
def nDg (x y : V) (H : Hp) (Q : VK) : Prop := ∃ a v, x = .ref a ∧ DGet H a y (some v) ∧ Q v H
def nDp (x y v : V) (H : Hp) (R : Hp → Prop) : Prop := ∃ a H4, x = .ref a ∧ DPut H a y v H4 ∧ R H4
def nPairs (trs : List (TE × TE)) (σ : L2.St) (H : Hp) (R : List (V × V) → Hp → Prop) : Prop := tPairs trs σ H R
section
variable {K : PySem.W.Frag} {σ : L2.St} {H : Hp} {Q : VK} {D : Ends} {ta tv td ty tx : TE} {t tk : TA} {a C dx : Addr} {fs : List (Str × V)} {m f : Str} {x y v : V} {A : Prop} {sp : Sp} {dvs : List V} {E : XK} {R : Hp → Prop} {kvs : List (Key × V)} {k : Key} {trs : List (TE × TE)} {xs : List V} {n j : Nat} {gV : List V → List V → List V}
theorem k_meth (h : ta σ H fun x H1 => nMeth C m x H1 (t σ H1 fun vs H2 => sp (x :: (vs ++ dvs)) H2 Q E)) : tMeth C m sp dvs E ta t σ H Q := h
theorem k_nMeth (hp : H a = some (.ins C dx fs)) (hl : fs.lookup m = none) (h : A) : nMeth C m (.ref a) H A := ⟨a, dx, fs, rfl, hp, hl, h⟩
theorem k_fld (h : ta σ H fun x H1 => nFld K f x H1 Q) : tFld K ta f σ H Q := h
theorem k_nFld (hp : H a = some (.ins C dx fs)) (c : Cls K C) (n : NoAttr K C f) (hl : fs.lookup f = some v) (h : Q v H) : nFld K f (.ref a) H Q := ⟨a, C, dx, fs, v, rfl, hp, c, n, hl, h⟩
theorem k_sfld (h : tv σ H fun y H1 => ta σ H1 fun x H2 => nSFld K f y x H2 fun H3 => D.nx σ H3) : sFld K ta tv f D σ H := h
theorem k_nSFld (hp : H a = some (.ins C dx fs)) (c : Cls K C) (n : NoAttr K C f) (hl : fs.length < 1000) (h : R (upd H a (.ins C dx (putF f y fs)))) : nSFld K f y (.ref a) H R := ⟨a, C, dx, fs, rfl, hp, c, n, hl, h⟩
theorem k_dg (h : td σ H fun x H1 => ty σ H1 fun y H2 => nDg x y H2 Q) : tDGet td ty σ H Q := h
theorem k_nDg (hp : H a = some (.dK kvs)) (hl : valV kvs (.inr m) = some v) (h : Q v H) : nDg (.ref a) (.str m) H Q := ⟨a, v, rfl, by rw [← hl]; exact DGet.k (k := .inr m) hp, h⟩
theorem k_dg2 (h : td σ H fun x H1 => ∃ a, x = .ref a ∧ IsD H1 a ∧ ty σ H1 fun y H2 => tx σ H2 fun z H3 => ∃ o, DGet H3 a y o ∧ Q (o.getD z) H3) : tDGet2 td ty tx σ H Q := h
theorem k_dp (h : tv σ H fun v H1 => td σ H1 fun x H2 => ty σ H2 fun y H3 => nDp x y v H3 fun H4 => D.nx σ H4) : sDPut td ty tv D σ H := h
theorem k_nDp (hp : H a = some (.dK kvs)) (hl : kvs.length < 1000) (h : R (upd H a (.dK (putK kvs (.inr m) v)))) : nDp (.ref a) (.str m) v H R := ⟨a, _, rfl, DPut.k (k := .inr m) hp (sz_lt (by omega)), h⟩
theorem k_disp (h : ∀ p, H p = none → nPairs trs σ (upd H p (.dK [])) fun ps H2 => H2 p = some (.dK []) ∧ ∃ kvs : List (Key × V), ps = kvs.map (fun kv => (kV kv.1, kv.2)) ∧ kvs.length ≤ 15 ∧ Q (.ref p) (upd H2 p (.dK (mergeK [] kvs)))) : tDisp trs σ H Q := h
theorem k_pr0 {R : List (V × V) → Hp → Prop} (h : R [] H) : nPairs [] σ H R := h
theorem k_pr {R : List (V × V) → Hp → Prop} (h : ta σ H fun x H1 => tv σ H1 fun y H2 => nPairs trs σ H2 fun ps H3 => R ((x, y) :: ps) H3) : nPairs ((ta, tv) :: trs) σ H R := h
theorem k_append (hp : H a = some (.lst xs)) (hl : xs.length < 100000) (h : Q .non (upd H a (.lst (xs ++ [y])))) : rAppend (.ref a) [y] H Q := ⟨a, xs, y, rfl, rfl, hp, sz_lt (by omega), h⟩
theorem k_makeK (h : t σ H fun vs H1 => tk σ H1 fun zs H2 => vs.length = n ∧ zs.length = j ∧ ∀ x dx, H2 x = none → H2 dx = none → dx ≠ x → sp (gV (.ref x :: vs) zs) (upd (upd H2 dx (.own x)) x (.ins C dx [])) (fun v H3 => v = .non ∧ Q (.ref x) H3) E) : tMakeK C n j sp gV E t tk σ H Q := h
end
/-! ### a comprehension of two fors -/
def nIn (D : Addr) (J : It) (g : TG) (tt : TT) (te : TE) (vs : List Nat) (σ : L2.St) (H0 : Hp) (Nx : Hp → Prop) : Prop := ∃ W1 : Nat → Nat → Hp → Prop, (∃ m, W1 0 m H0) ∧ ∀ j k H, W1 j k H →
  (J.stop j H ∧ Nx H) ∨ (J.go j H ∧ ∃ Nx1 : Hp → Prop, (∀ H', Nx1 H' → ∃ k', k' < k ∧ W1 (j + 1) k' H') ∧ ∀ x H', J.yld j H x H' → g x (wipe σ vs) H' fun σ3 H5 => wipe σ3 vs = wipe σ vs ∧ tt σ3 H5 fun b H6 =>
    if b = true then te σ3 H6 fun y H7 => ∃ acc, H7 D = some (.lst acc) ∧ acc.length < sizeLine ∧ Nx1 (upd H7 D (.lst (acc ++ [y]))) else Nx1 H6)
section
variable {σ : L2.St} {H Hb : Hp} {Q : VK} {te : TE} {tt tt1 : TT} {wi wi1 : TI} {g g1 : TG} {n : Nat} {vs vs1 : List Nat} {J : It} {G : Hp → Prop} {Y : Nat → Hp → V → Hp → Prop} {D : Addr} {Nx : Hp → Prop} {ws0 : List V}
theorem k_nIn (wk : Walk J n G Y) (sb : Same Hb H) (hD : Hb D = none) (e0 : H D = some (.lst ws0)) (hG : ∀ H', Same Hb H' → G H') (Pv : Nat → List V → Prop) (h0 : Pv 0 ws0) (hz : ∀ i ws, i ≤ n → Pv i ws → ws.length ≤ 50000)
    (hs : ∀ (i : Nat) (x : V) (H1 H2 : Hp) (ws : List V) (Kp : VK) (Ks : Hp → Prop), i < n → Same Hb H1 → Pv i ws → Y i H1 x H2 → (∀ y H5, Same H1 H5 → Pv (i + 1) (ws ++ [y]) → Kp y H5) → (∀ H5, Same H1 H5 → Pv (i + 1) ws → Ks H5) →
      g x (wipe σ vs) H2 fun σ2 H3 => wipe σ2 vs = wipe σ vs ∧ tt σ2 H3 fun b H4 => nIte b (te σ2 H4 Kp) (Ks H4))
    (hd : ∀ H' ws, Same Hb H' → H' D = some (.lst ws) → Pv n ws → Nx H') : nIn D J g tt te vs σ H Nx := by
  refine ⟨fun i m H' => m = n - i ∧ i ≤ n ∧ ∃ ws, Same Hb H' ∧ H' D = some (.lst ws) ∧ Pv i ws, ⟨n, by simp, Nat.zero_le _, ws0, sb, e0, h0⟩, fun i m H' hW => ?_⟩
  obtain ⟨rfl, hi, ws, s1, e1, q1⟩ := hW
  by_cases lt : i < n
  · refine .inr ⟨wk.goes i H' lt (hG H' s1), fun H2 => ∃ ws, Same Hb H2 ∧ H2 D = some (.lst ws) ∧ Pv (i + 1) ws, fun H2 p2 => ⟨n - (i + 1), by omega, rfl, lt, p2⟩, fun x H2 y => ?_⟩
    exact hs i x H' H2 ws _ _ lt s1 q1 (wk.yields i H' x H2 lt (hG H' s1) y) (fun y H5 s5 q5 => ⟨ws, s5 D _ e1, sz_lt (by have := hz i ws (by omega) q1; omega), ws ++ [y], sm_mut (s1.trans s5) hD, upd_same, q5⟩) (fun H5 s5 q5 => ⟨ws, s1.trans s5, s5 D _ e1, q5⟩)
  · obtain rfl : i = n := by omega
    exact .inl ⟨wk.stops H' (hG H' s1), hd H' ws s1 e1 q1⟩
end
/-! ### slices, places -/
theorem cutV_to (xs : List V) (n : Nat) : cutV xs none (some (n : Int)) = xs.take n := by
  unfold cutV
  rw [HT.sIx_nat]
  show ((xs.drop 0).take (min n xs.length - 0)) = xs.take n
  rw [List.drop_zero, Nat.sub_zero, ← List.take_eq_take_min]
/-- the first place of a sign -/
theorem occ_one {cs : List Nat} {c i : Nat} (h : cs[i]? = some c) (hf : ∀ j, j < i → cs[j]? ≠ some c) : ∃ rest, Builtin.Str.occurrences (tx cs) ⟨#[c]⟩ 0 (tx cs).length 1 = i :: rest := by
  have h1 := StrLaws.occ_head (tx cs) ⟨#[c]⟩ 1 (Nat.le_refl _)
  have at_ : ∀ j, StrLaws.At (tx cs) ⟨#[c]⟩ (tx cs).length j ↔ cs[j]? = some c := fun j => StrLaws.subAt_one (tx cs) c j
  rcases h1 with ⟨_, h1⟩ | ⟨j, r, e, hj, hk⟩
  · exact absurd ((at_ i).mpr h) (h1 i)
  · rw [at_] at hj
    have : i = j := by
      rcases Nat.lt_trichotomy i j with z | z | z
      · exact absurd ((at_ i).mpr h) (hk i z)
      · exact z
      · exact absurd hj (hf j z)
    exact ⟨r, by rw [e, this]⟩
/-! ### fields that are laid -/
section
variable {P : Prop} [Decidable P] {A B : Prop}
theorem k_decT (hp : P) (h : A) : nIte (decide P) A B := k_dec (fun _ => h) fun z => absurd hp z
theorem k_decF (hp : ¬ P) (h : B) : nIte (decide P) A B := k_dec (fun z => absurd z hp) fun _ => h
end
theorem k_allT {K : PySem.W.Frag} {H : Hp} {Q : VK} {a : Addr} {xs : List V} (n : Nat) (e : xs = List.replicate n (.bl true)) (hx : H a = some (.lst xs)) (h : Q (.bl true) H) : rAll K [.ref a] H Q := by
  refine k_all (bs := List.replicate n true) (sq_l (by rw [hx, e, List.map_replicate])) ?_
  rw [show (List.replicate n true).all id = true by simp]
  exact h
/-- all tests of a comprehension are true -/
theorem k_nLcT {σ : L2.St} {H : Hp} {Q : VK} {te : TE} {g : TG} {n : Nat} {vs : List Nat} {J : It} {G : Hp → Prop} {Y : Nat → Hp → V → Hp → Prop} (wk : Walk J n G Y) (hn : n ≤ 50000) (hG : ∀ H', Same H H' → G H')
    (hs : ∀ (i : Nat) (x : V) (H1 H2 : Hp) (Kp : VK), i < n → Same H H1 → Y i H1 x H2 → (∀ H5, Same H1 H5 → Kp (.bl true) H5) → g x (wipe σ vs) H2 fun σ2 H3 => wipe σ2 vs = wipe σ vs ∧ te σ2 H3 Kp)
    (hd : ∀ (p : Addr) (H' : Hp), H p = none → Same H H' → H' p = some (.lst (List.replicate n (.bl true))) → Q (.ref p) H') : nLc J g tYes te vs σ H Q := by
  refine k_nLc wk hG (fun i ws => ws = List.replicate i (.bl true)) rfl (fun i ws hi e => by rw [e, List.length_replicate]; omega) (fun i x H1 H2 ws Kp Ks hi s1 e hy h1 _ => ?_) (fun p H' ws hp s1 e1 e => hd p H' hp s1 (by rw [e1, e]))
  exact hs i x H1 H2 Kp hi s1 hy fun H5 s5 => h1 _ H5 s5 (by rw [e, List.replicate_succ'])
/-! ### sets, steps -/
section
variable {K : PySem.W.Frag} {P : Program} {w : World} {H : Hp} {Q : VK} {a : Addr} {z : Str}
theorem k_setX (pz : Pl z) (nd : (TL.tl z).Nodup) (lz : z.length ≤ 1000) (h : ∀ p H', H p = none → Same H H' → H' p = some (SetXO P w p ((TL.tl z).map sg).reverse) → Q (.ref p) H') : rSetA K P w [.str z] H Q := .inl ⟨z, rfl, pz, nd, lz, h⟩
theorem k_sortX {l : List Str} (ha : H a = some (SetXO P w a l)) (nd : l.Nodup) (hl : l.length ≤ 1000) (h : ∀ (ys : List Str) p H', ys.Perm l → ys.Pairwise (fun x y => x.cps.toList ≤ y.cps.toList) → H p = none → Same H H' → H' p = some (.lst (ys.map V.str)) → Q (.ref p) H') : rSortedA K P w [.ref a] H Q := .inl (.inr ⟨a, l, rfl, ha, nd, hl, h⟩)
theorem k_sortM {L : List RwM} (ha : H a = some (SetMO P w a L)) (hL : ∀ p ∈ L, SqT K H p.1 (p.2.map kV)) (al : AllAlike (L.map encM)) (ne : ∀ p ∈ L, p.2 ≠ [])
    (h : ∀ (L' : List RwM) p H', L'.Perm L → (L.map (·.2)).Nodup → L'.Pairwise (fun x y => dataLe false encM x y = true) → H p = none → Same H H' → H' p = some (.lst (L'.map fun q => V.ref q.1)) → Q (.ref p) H') : rSortedA K P w [.ref a] H Q := .inr (.inr ⟨a, L, rfl, ha, hL, al, ne, h⟩)
end
theorem eq_le {a : List Nat} : ∀ {b : List Nat}, a.Pairwise (· ≤ ·) → b.Pairwise (· ≤ ·) → a.Perm b → a = b := by
  induction a with
  | nil => exact fun _ _ p => (List.nil_perm.mp p).symm
  | cons x a ih =>
    intro b ha hb p
    cases b with
    | nil => exact absurd p.length_eq (by simp)
    | cons y b =>
      obtain ⟨a1, a2⟩ := List.pairwise_cons.mp ha
      obtain ⟨b1, b2⟩ := List.pairwise_cons.mp hb
      have e : x = y := by
        rcases List.mem_cons.mp (p.mem_iff.mp (List.mem_cons_self (a := x) (l := a))) with e | h1
        · exact e
        rcases List.mem_cons.mp (p.mem_iff.mpr (List.mem_cons_self (a := y) (l := b))) with e | h2
        · exact e.symm
        have := b1 _ h1
        have := a1 _ h2
        omega
      subst e
      rw [ih a2 b2 (List.Perm.cons_inv p)]
theorem le1 (a b : Nat) (h : ([a] : List Nat) ≤ [b]) : a ≤ b := by
  rcases Nat.lt_or_ge b a with z | z
  · exact absurd (show ([b] : List Nat) < [a] from List.Lex.rel z) h
  · exact z
theorem sorted_sgs {ys : List Str} {cs : List Nat} (hp : ys.Perm (cs.map sg).reverse) (hs : ys.Pairwise (fun x y => x.cps.toList ≤ y.cps.toList)) (hc : cs.Pairwise (· < ·)) : ys = cs.map sg := by
  have p2 : ys.Perm (cs.map sg) := hp.trans (List.reverse_perm _)
  obtain ⟨ds, rfl, pd⟩ := perm_back sg p2 cs rfl
  rw [List.pairwise_map] at hs
  rw [eq_le (hs.imp fun h => le1 _ _ h) (hc.imp fun h => Nat.le_of_lt h) pd]
/-! ### what stands apart from an object that changes -/
section
variable {K : PySem.W.Frag} {H H' : Hp} {a b p C dx : Addr} {xs ws : List V} {o u : HO} {fs : List (Str × V)}
theorem rd_upd (hp : H p = some u) (hu : ∀ v, u ≠ .frz v o) (hn : u ≠ o) (h : Rd H b o) {o2 : HO} : Rd (upd H p o2) b o := by
  rcases h with h | ⟨v, h⟩
  · exact .inl (by rw [upd_ne (ne_of h hp (Ne.symm hn))]; exact h)
  · exact .inr ⟨v, by rw [upd_ne (ne_of h hp (Ne.symm (hu v)))]; exact h⟩
/-- tuples beside a list, an instance -/
theorem t_lst (hp : H p = some (.lst ws)) (h : SqT K H b xs) : SqT K (upd H p o) b xs := h.elim (fun h => .inl (rd_upd hp (fun _ z => by cases z) (fun z => by cases z) h)) .inr
theorem t_ins (hp : H p = some (.ins C dx fs)) (h : SqT K H b xs) : SqT K (upd H p o) b xs := h.elim (fun h => .inl (rd_upd hp (fun _ z => by cases z) (fun z => by cases z) h)) .inr
theorem l_ins (hp : H p = some (.ins C dx fs)) (h : SqL K H b xs) : SqL K (upd H p o) b xs := h.elim (fun h => .inl (rd_upd hp (fun _ z => by cases z) (fun z => by cases z) h)) .inr
theorem t_dk {kvs : List (Key × V)} (hp : H p = some (.dK kvs)) (h : SqT K H b xs) : SqT K (upd H p o) b xs := h.elim (fun h => .inl (rd_upd hp (fun _ z => by cases z) (fun z => by cases z) h)) .inr
theorem sm_del : Same (del H p) H := fun b u h => by
  by_cases e : b = p
  · rw [e, del_same] at h
    cases h
  · rw [del_ne e] at h
    exact h
theorem del_mono (s : Same H H') : Same (del H p) (del H' p) := fun b u h => by
  by_cases e : b = p
  · rw [e, del_same] at h
    cases h
  · rw [del_ne e] at h ⊢
    exact s b u h
theorem del_upd : del (upd H p o) p = del H p := by
  funext b
  by_cases e : b = p
  · rw [e, del_same, del_same]
  · rw [del_ne e, del_ne e, upd_ne e]
theorem del_none (h : H p = none) : del H p = H := by
  funext b
  by_cases e : b = p
  · rw [e, del_same, h]
  · rw [del_ne e]
theorem del_t (hp : H p = some (.lst ws)) (h : SqT K H b xs) : SqT K (del H p) b xs := by
  rcases h with (h | ⟨v, h⟩) | h
  · exact .inl (.inl (by rw [del_ne (ne_of h hp (fun z => by cases z))]; exact h))
  · exact .inl (.inr ⟨v, by rw [del_ne (ne_of h hp (fun z => by cases z))]; exact h⟩)
  · exact .inr h
theorem del_l (hb : b ≠ p) (h : SqL K H b xs) : SqL K (del H p) b xs := by
  rcases h with (h | ⟨v, h⟩) | h
  · exact .inl (.inl (by rw [del_ne hb]; exact h))
  · exact .inl (.inr ⟨v, by rw [del_ne hb]; exact h⟩)
  · exact .inr h
end
section
variable {σ : L2.St} {H : Hp} {Q : VK} {te : TE} {tt : TT} {g : TG} {n : Nat} {vs : List Nat} {J : It} {G : Hp → Prop} {Y : Nat → Hp → V → Hp → Prop}
/-- a comprehension whose values are told with the heap (beside the new list) -/
theorem k_nLcD (wk : Walk J n G Y) (hG : ∀ H', Same H H' → G H') (Pv : Nat → List V → Hp → Prop) (hm : ∀ i ws H1 H2, Same H1 H2 → Pv i ws H1 → Pv i ws H2) (h0 : Pv 0 [] H) (hz : ∀ i ws H1, i ≤ n → Pv i ws H1 → ws.length ≤ 50000)
    (hs : ∀ (i : Nat) (x : V) (p : Addr) (H1 H2 : Hp) (ws : List V) (Kp : VK) (Ks : Hp → Prop), i < n → H p = none → Same H H1 → H1 p = some (.lst ws) → Pv i ws (del H1 p) → Y i H1 x H2 → (∀ y H5, Same H1 H5 → Pv (i + 1) (ws ++ [y]) (del H5 p) → Kp y H5) → (∀ H5, Same H1 H5 → Pv (i + 1) ws (del H5 p) → Ks H5) →
      g x (wipe σ vs) H2 fun σ2 H3 => wipe σ2 vs = wipe σ vs ∧ tt σ2 H3 fun b H4 => nIte b (te σ2 H4 Kp) (Ks H4))
    (hd : ∀ (p : Addr) (H' : Hp) (ws : List V), H p = none → Same H H' → H' p = some (.lst ws) → Pv n ws H' → Q (.ref p) H') : nLc J g tt te vs σ H Q := by
  intro p hp
  refine lc_it wk (fun i H' => ∃ ws : List V, Same H H' ∧ H' p = some (.lst ws) ∧ Pv i ws (del H' p)) ⟨[], sm_new hp, upd_same, by rw [del_upd, del_none hp]; exact h0⟩ (fun i H' _ h => ?_) (fun i x H1 H2 hi h hy => ?_) (fun H' h => ?_)
  · obtain ⟨ws, s1, _⟩ := h
    exact hG H' s1
  · obtain ⟨ws, s1, e1, q1⟩ := h
    exact hs i x p H1 H2 ws _ _ hi hp s1 e1 q1 hy (fun y H5 s5 q5 => ⟨ws, s5 p _ e1, sz_lt (by have := hz i ws _ (by omega) q1; omega), ws ++ [y], sm_mut (s1.trans s5) hp, upd_same, by rw [del_upd]; exact q5⟩) (fun H5 s5 q5 => ⟨ws, s1.trans s5, s5 p _ e1, q5⟩)
  · obtain ⟨ws, s1, e1, q1⟩ := h
    exact hd p H' ws hp s1 e1 (hm _ _ _ _ sm_del q1)
end
theorem k_niT {K : PySem.W.Frag} {H : Hp} {Q : VK} {x : V} {p : Addr} {xs : List V} {b : Bool} (hx : SqT K H p xs) (fx : flatV x = true) (fs : xs.all flatV = true) (hi : (!inV x xs) = b) (h : Q (.bl b) H) : rIn K true x (.ref p) H Q := ⟨p, xs, rfl, .inr hx, fx, fs, by
  show Q (.bl (!inV x xs)) H
  rw [hi]
  exact h⟩
/-! ### lists of pairs of numbers, written -/
def tPrs : List (Int × Int) → TA
  | [] => tNil
  | q :: r => tCons (tTup (tCons (tC (.int q.1)) (tCons (tC (.int q.2)) tNil))) (tPrs r)
theorem k_prs {σ : L2.St} : ∀ (ps : List (Int × Int)) {H : Hp} {R : List V → Hp → Prop}, (∀ (Z : List (Addr × Int × Int)) H', Same H H' → Z.map (·.2) = ps → (∀ q ∈ Z, H' q.1 = some (.tup [.int q.2.1, .int q.2.2])) → R (Z.map fun q => V.ref q.1) H') → tPrs ps σ H R
  | [], H, R, h => h [] H (Same.refl _) rfl fun q hq => nomatch hq
  | p :: r, H, R, h => by
    show nTup [.int p.1, .int p.2] H fun y H1 => tPrs r σ H1 fun xs H2 => R (y :: xs) H2
    refine k_nTup (Q := fun y H1 => tPrs r σ H1 fun xs H2 => R (y :: xs) H2) (xs := [.int p.1, .int p.2]) (by show 2 ≤ 100000; decide) (fun T H1 n1 s1 e1 => k_prs r fun Z H2 s2 hz hq => ?_)
    refine h ((T, p) :: Z) H2 (s1.trans s2) (by rw [List.map_cons, hz]) fun q hq2 => ?_
    rcases List.mem_cons.mp hq2 with rfl | hq2
    · exact s2 _ _ e1
    · exact hq q hq2
theorem k_lprs {σ : L2.St} (ps : List (Int × Int)) (hl : ps.length ≤ 100000) {H : Hp} {Q : VK} (h : ∀ (Z : List (Addr × Int × Int)) p H', H p = none → Same H H' → Z.map (·.2) = ps → (∀ q ∈ Z, H' q.1 = some (.tup [.int q.2.1, .int q.2.2])) → H' p = some (.lst (Z.map fun q => V.ref q.1)) → Q (.ref p) H') : tLst (tPrs ps) σ H Q := by
  refine k_lst (k_prs ps fun Z H1 s1 hz hq => ?_)
  have lz : Z.length = ps.length := by rw [← hz, List.length_map]
  refine k_nLst (by rw [List.length_map]; omega) (fun p H2 n2 s2 e2 => h Z p H2 (s1.free n2) (s1.trans s2) hz (fun q hq' => s2 _ _ (hq q hq')) e2)
/-- whatever way it goes, Po holds -/
theorem k_post {σ : L2.St} {H : Hp} {Q : VK} {te : TE} (Po : V → Hp → Prop) (h1 : ∀ Q' : VK, (∀ v H', Po v H' → Q' v H') → te σ H Q') (h2 : ∀ v H', Po v H' → Q v H') : te σ H Q := h1 Q h2
theorem dp_is {K : PySem.W.Frag} {H : Hp} : ∀ ns : List Int, DpAll K H (ns.map V.int) (ns.map PyData.int)
  | [] => .nil
  | n :: r => .cons (.int n) (dp_is r)
theorem dp_ints {K : PySem.W.Frag} {H : Hp} {a : Addr} {ns : List Int} (h : SqL K H a (ns.map V.int)) : Dp K H (.ref a) (.list (ns.map .int)) := .lst h (dp_is ns)
theorem good_ints {ns : List Int} (h : ∀ n ∈ ns, n.natAbs ≤ 2 ^ 63) (hl : ns.length ≤ 50000) (j : Nat) : Good (j + 2) (.list (ns.map .int)) := ⟨by rw [List.length_map]; exact hl, fun e he => by
  obtain ⟨n, hn, rfl⟩ := List.mem_map.mp he
  have := log_nat (h n hn)
  rwa [Int.natAbs_natCast] at this⟩
theorem eqv_nil (ds : List PyData) : PyData.eqv (.list ds) (.list []) = decide (ds = []) := by
  cases ds with
  | nil => simp [PyData.eqv, PyData.eqvAll]
  | cons d r => simp [PyData.eqv, PyData.eqvAll]
/-- a list of ints, is it empty -/
theorem k_neNil {K : PySem.W.Frag} {H : Hp} {Q : VK} {a b : Addr} {ns : List Int} (h1 : SqL K H a (ns.map V.int)) (h2 : SqL K H b []) (hn : ∀ n ∈ ns, n.natAbs ≤ 2 ^ 63) (hl : ns.length ≤ 50000) (h : Q (.bl (!decide (ns = []))) H) : rNeU K (.ref a) (.ref b) H Q := by
  refine k_ne_d (dp_ints h1) (.lst h2 .nil) ((good_ints hn hl 0).shaped (by decide)) (by decide) ?_
  rw [eqv_nil, show decide (ns.map PyData.int = []) = decide (ns = []) by cases ns <;> rfl]
  exact h
end Gk
set_option Elab.async false
set_option autoImplicit false
set_option linter.all false
set_option maxRecDepth 100000
set_option maxHeartbeats 4000000
/-! # LookupErrors with a field, deep membership in tuples, while, slices by codes -/
namespace Gk
open PySem PySem.Spec PyProof.Rows L2
/-! ### the class under the module's name x, over LookupError, made with one value -/
/-! ### deep membership -/
def rNiTD (K : PySem.W.Frag) : R2 := fun x y H Q => ∃ d ds, Dp K H x d ∧ Dp K H y (.tuple ds) ∧ SeqAt.shaped d = true ∧ SeqAt.shaped (.tuple ds) = true ∧ Q (.bl (!(ds.any fun z => PyData.eqv z d))) H
theorem op_niTD {X : Cx} (K : PySem.W.Frag) (hu : X.A.units + 65 < cLine) (hK : X.K = K := by rfl) : OpR X (compareOp .NotIn) (rNiTD K) := by
  subst hK
  intro pins s σ H x y v u Q I rx ry h
  obtain ⟨d, ds, hd, he, sd, se, q⟩ := h
  obtain ⟨as, r1⟩ := Dp.reads I d x v hd rx
  obtain ⟨bs, r2⟩ := Dp.reads I (.tuple ds) y u he ry
  have le := SeqAt.canLay_of_shaped se
  simp only [PyData.canLay0] at le
  exact SeqAt.notIn_tuple_reads r2 r1 le (SeqAt.canLay_of_shaped sd) (room_in_shaped sd hu) ⟨.bl _, H, I, rfl, q⟩
def rNiLD (K : PySem.W.Frag) : R2 := fun x y H Q => ∃ d ds, Dp K H x d ∧ Dp K H y (.list ds) ∧ SeqAt.shaped d = true ∧ SeqAt.shaped (.list ds) = true ∧ Q (.bl (!(ds.any fun z => PyData.eqv z d))) H
theorem op_niLD {X : Cx} (K : PySem.W.Frag) (hu : X.A.units + 65 < cLine) (hK : X.K = K := by rfl) : OpR X (compareOp .NotIn) (rNiLD K) := by
  subst hK
  exact op_notInD hu
/-! ### keys as data -/
def dKey : Key → PyData
  | .inl n => .int n
  | .inr z => .str z
def dKeys (k : List Key) : PyData := .tuple (k.map dKey)
theorem dp_key {K : PySem.W.Frag} {H : Hp} : ∀ k : Key, Dp K H (kV k) (dKey k)
  | .inl n => .int n
  | .inr z => .str z
theorem dpall_keys {K : PySem.W.Frag} {H : Hp} : ∀ k : List Key, DpAll K H (k.map kV) (k.map dKey)
  | [] => .nil
  | x :: r => .cons (dp_key x) (dpall_keys r)
theorem dp_keys {K : PySem.W.Frag} {H : Hp} {T : Addr} {k : List Key} (h : SqT K H T (k.map kV)) : Dp K H (.ref T) (dKeys k) := .tup h (dpall_keys k)
theorem eqv_key (a b : Key) : PyData.eqv (dKey a) (dKey b) = decide (a = b) := by
  cases a with
  | inl n =>
    cases b with
    | inl m =>
      simp only [dKey, PyData.eqv]
      rw [Bool.eq_iff_iff]
      simp
    | inr z => simp [dKey, PyData.eqv]
  | inr n =>
    cases b with
    | inl m => simp [dKey, PyData.eqv]
    | inr z =>
      simp only [dKey, PyData.eqv]
      rw [Bool.eq_iff_iff]
      simp
theorem eqvAll_keys : ∀ a b : List Key, PyData.eqvAll (a.map dKey) (b.map dKey) = decide (a = b)
  | [], [] => by simp [PyData.eqvAll]
  | [], b :: bs => by simp [PyData.eqvAll]
  | a :: as, [] => by simp [PyData.eqvAll]
  | a :: as, b :: bs => by
    rw [List.map_cons, List.map_cons]
    simp only [PyData.eqvAll, eqv_key, eqvAll_keys as bs]
    by_cases h : a = b
    · subst h
      simp
    · simp [h]
theorem eqv_keys (a b : List Key) : PyData.eqv (dKeys a) (dKeys b) = decide (a = b) := by
  unfold dKeys
  simp only [PyData.eqv]
  exact eqvAll_keys a b
theorem any_keys (ks : List (List Key)) (k : List Key) : (ks.map dKeys).any (fun z => PyData.eqv z (dKeys k)) = ks.any fun x => decide (x = k) := by
  rw [List.any_map]
  congr 1
  funext x
  exact eqv_keys x k
/-! ### while -/
def nTurn (W : Nat → L2.St → Hp → Prop) (m : Nat) (tb : TS) (D : Ends) (b : Bool) (σ : L2.St) (H : Hp) : Prop :=
  if b = true then ∃ N : L2.St → Hp → Prop, (∀ σ' H', N σ' H' → ∃ m', m' < m ∧ W m' σ' H') ∧ tb { D with nx := N, ct := N, bk := D.nx } σ H else D.nx σ H
section
variable {c : TT} {tb : TS} {D : Ends} {σ : L2.St} {H : Hp} {W : Nat → L2.St → Hp → Prop} {m : Nat}
theorem k_while (W : Nat → L2.St → Hp → Prop) (h0 : ∃ m, W m σ H) (hs : ∀ m σ H, W m σ H → c σ H fun b H1 => nTurn W m tb D b σ H1) : tWhile c tb D σ H := ⟨W, h0, hs⟩
theorem k_turnT (h : tb { D with nx := fun σ' H' => ∃ m', m' < m ∧ W m' σ' H', ct := fun σ' H' => ∃ m', m' < m ∧ W m' σ' H', bk := D.nx } σ H) : nTurn W m tb D true σ H := by
  unfold nTurn
  rw [if_pos rfl]
  exact ⟨_, fun _ _ h => h, h⟩
theorem k_turnF (h : D.nx σ H) : nTurn W m tb D false σ H := h
theorem k_turnD {P : Prop} [Decidable P] (h1 : P → nTurn W m tb D true σ H) (h2 : ¬ P → nTurn W m tb D false σ H) : nTurn W m tb D (decide P) σ H := by
  by_cases e : P
  · rw [decide_eq_true e]
    exact h1 e
  · rw [decide_eq_false e]
    exact h2 e
theorem k_turnN {P : Prop} [Decidable P] (h1 : ¬ P → nTurn W m tb D true σ H) (h2 : P → nTurn W m tb D false σ H) : nTurn W m tb D (!decide P) σ H := by
  by_cases e : P
  · rw [decide_eq_true e]
    exact h2 e
  · rw [decide_eq_false e]
    exact h1 e
end
/-! ### slices by codes, of lists -/
theorem cutS_to (u : List Nat) (n : Int) (h : 0 ≤ n) : cutS (tx u) none (some n) = tx (u.take n.toNat) := by
  refine TL.ext_tl ?_
  obtain ⟨k, rfl⟩ : ∃ k : Nat, n = (k : Int) := ⟨n.toNat, by omega⟩
  rw [tl_cutS, HT.sIx_nat, tl_tx, tl_tx, len_tx]
  show (u.drop 0).take (min k u.length - 0) = _
  rw [List.drop_zero, Nat.sub_zero, Int.toNat_natCast, ← List.take_eq_take_min]
theorem cutS_from (u : List Nat) (n : Int) (h : 0 ≤ n) : cutS (tx u) (some n) none = tx (u.drop n.toNat) := by
  refine TL.ext_tl ?_
  obtain ⟨k, rfl⟩ : ∃ k : Nat, n = (k : Int) := ⟨n.toNat, by omega⟩
  rw [tl_cutS, HT.sIx_nat, tl_tx, tl_tx, len_tx]
  show (u.drop (min k u.length)).take (u.length - min k u.length) = _
  rw [Int.toNat_natCast, List.take_of_length_le (by rw [List.length_drop]; omega)]
  by_cases e : k ≤ u.length
  · rw [Nat.min_eq_left e]
  · rw [Nat.min_eq_right (by omega), List.drop_length, List.drop_of_length_le (by omega)]
theorem cutV_toI (xs : List V) (n : Int) (h : 0 ≤ n) : cutV xs none (some n) = xs.take n.toNat := by
  obtain ⟨k, rfl⟩ : ∃ k : Nat, n = (k : Int) := ⟨n.toNat, by omega⟩
  rw [cutV_to, Int.toNat_natCast]
theorem cutV_fromI (xs : List V) (n : Int) (h : 0 ≤ n) : cutV xs (some n) none = xs.drop n.toNat := by
  obtain ⟨k, rfl⟩ : ∃ k : Nat, n = (k : Int) := ⟨n.toNat, by omega⟩
  unfold cutV
  rw [HT.sIx_nat]
  show (xs.drop (min k xs.length)).take (xs.length - min k xs.length) = _
  rw [Int.toNat_natCast, List.take_of_length_le (by rw [List.length_drop]; omega)]
  by_cases e : k ≤ xs.length
  · rw [Nat.min_eq_left e]
  · rw [Nat.min_eq_right (by omega), List.drop_length, List.drop_of_length_le (by omega)]
theorem cutV_mid (xs : List V) (m n : Int) (h : 0 ≤ m) (h2 : m ≤ n) : cutV xs (some m) (some n) = (xs.drop m.toNat).take (n.toNat - m.toNat) := by
  obtain ⟨k, rfl⟩ : ∃ k : Nat, m = (k : Int) := ⟨m.toNat, by omega⟩
  obtain ⟨j, rfl⟩ : ∃ j : Nat, n = (j : Int) := ⟨n.toNat, by omega⟩
  unfold cutV
  rw [HT.sIx_nat, HT.sIx_nat, Int.toNat_natCast, Int.toNat_natCast]
  by_cases e : k ≤ xs.length
  · rw [Nat.min_eq_left e, List.take_eq_take_iff, List.length_drop]
    omega
  · rw [List.drop_of_length_le (i := min k xs.length) (by omega), List.drop_of_length_le (i := k) (by omega), List.take_nil, List.take_nil]
theorem tx_app (u v : List Nat) : tx u ++ tx v = tx (u ++ v) := by
  show (⟨u.toArray ++ v.toArray⟩ : Str) = ⟨(u ++ v).toArray⟩
  congr 1
  simp
theorem tx_nil : (Str.ofString "" : Str) = tx [] := by decide +kernel
theorem tx_eq (u v : List Nat) : decide (tx u = tx v) = decide (u = v) := by
  by_cases h : u = v
  · rw [h, decide_eq_true rfl, decide_eq_true rfl]
  · rw [decide_eq_false h, decide_eq_false fun z => h (tx_inj z)]
/-! ### min, max of two -/
def rMax2 : List V → Hp → VK → Prop := fun xs H Q => ∃ i j, xs = [.int i, .int j] ∧ Q (.int (max i j)) H
def rMin2 : List V → Hp → VK → Prop := fun xs H Q => ∃ i j, xs = [.int i, .int j] ∧ Q (.int (min i j)) H
section
variable {X : Cx} {H : Hp} {Q : VK} {i j : Int}
theorem call_maxK (hc : X.calm = true := by rfl) : CallR X (.builtin "max") rMax2 := fun pins s σ H xs us Q I r h => call_max2 hc pins s σ H xs us Q I r (by
  obtain ⟨i, j, e, q⟩ := h
  refine ⟨i, j, e, ?_⟩
  rw [show (if j > i then j else i) = max i j by split <;> omega]
  exact q)
theorem call_minK (hc : X.calm = true := by rfl) : CallR X (.builtin "min") rMin2 := fun pins s σ H xs us Q I r h => call_min2 hc pins s σ H xs us Q I r (by
  obtain ⟨i, j, e, q⟩ := h
  refine ⟨i, j, e, ?_⟩
  rw [show (if j < i then j else i) = min i j by split <;> omega]
  exact q)
theorem k_min2 (h : Q (.int (min i j)) H) : rMin2 [.int i, .int j] H Q := ⟨i, j, rfl, h⟩
theorem k_max2 (h : Q (.int (max i j)) H) : rMax2 [.int i, .int j] H Q := ⟨i, j, rfl, h⟩
end
theorem u65 {k : Nat} {A : Around} (r : Room k A) : A.units + 65 < cLine := by
  have := r.un
  omega
/-! ### defs called with keywords -/
structure CalleeN (P : Program) (w : World) (K : PySem.W.Frag) (mg : Str → Option Value) (base : Heap) (CX : CXT) (x : Str) (k n : Nat) (ks : List Str) (gV : List V → List V → List V) (sp : Sp) : Prop where
  ex : ∃ f fd ps g, FnOk P w K mg base CX k f fd ps sp ∧ mg x = some (.ref f) ∧ PySem.W.keepIn K (.ref f) = true ∧ KBn K fd ps n ks g gV
def nKw (n m : Nat) (vs zs : List V) (A : Prop) : Prop := vs.length = n ∧ zs.length = m ∧ A
section
variable {X : Cx} {CX : CXT} {k j n m : Nat} {sp : Sp} {E : XK} {x : Str} {p pos : Pos} {e : Expr} {es : List Expr} {kws : List Keyword} {t tk : TA} {ks : List Str} {gV : List V → List V → List V} {σ : L2.St} {H : Hp} {Q : VK}
theorem pe_clN (C : CalleeN X.prog X.w X.K X.mg X.base CX x k n ks gV sp) (hr : Room j X.A) (ha : PA X (e :: es) t) (hkw : PK X kws tk) (hx : Passes CX X E) (hj : k ≤ j := by first | decide | omega) (hg : Gl X x := by rfl) (hdb : (x == ("__debug__" : Str)) = false := by decide)
    (hall : (backToKw pos (keywordEach kws X.env)).all (·.1.isSome) = true := by rfl) (hks : (backToKw pos (keywordEach kws X.env)).filterMap (·.1) = ks := by rfl) (he : starEach (e :: es) X.env = (false, eval e X.env) :: starEach es X.env := by rfl)
    (hpl : ((backTo pos (starEach (e :: es) X.env)).any (·.1) || (backToKw pos (keywordEach kws X.env)).any (·.1.isNone)) = false := by rfl) : PE X (.Call (.Name x p) (e :: es) kws pos) (tCallN n ks.length sp gV E t tk) := by
  obtain ⟨f, fd, ps, g, F, hm, hk, hb⟩ := C.ex
  exact pe_callN F (hr.mono hj) hg hm hk hb hx ha hkw hall hks hdb he hpl
theorem k_callN (h : t σ H fun vs H1 => tk σ H1 fun zs H2 => nKw n m vs zs (sp (gV vs zs) H2 Q E)) : tCallN n m sp gV E t tk σ H Q := h
theorem k_nKw {vs zs : List V} {A : Prop} (h1 : vs.length = n) (h2 : zs.length = m) (h : A) : nKw n m vs zs A := ⟨h1, h2, h⟩
end
/-! ### two names at once; None -/
def nPar (i j : Nat) (vs : List V) (σ : L2.St) (H : Hp) (R : L2.St → Hp → Prop) : Prop := ∃ v w, vs = [v, w] ∧ R ((σ.set i (some v)).set j (some w)) H
section
variable {σ : L2.St} {H : Hp} {Q : VK} {D : Ends} {ta : TA} {i j : Nat} {v w : V} {R : L2.St → Hp → Prop} {p : Addr}
theorem k_par (h : ta σ H fun vs H1 => nPar i j vs σ H1 D.nx) : tPar i j ta D σ H := h
theorem k_nPar (h : R ((σ.set i (some v)).set j (some w)) H) : nPar i j [v, w] σ H R := ⟨v, w, rfl, h⟩
theorem k_isNn (h : Q (.bl true) H) : rIsN .non .non H Q := ⟨rfl, h⟩
theorem k_isNr (h : Q (.bl false) H) : rIsN (.ref p) .non H Q := ⟨rfl, h⟩
theorem k_ntNn (h : Q (.bl false) H) : rNotN .non .non H Q := ⟨rfl, h⟩
theorem k_ntNr (h : Q (.bl true) H) : rNotN (.ref p) .non H Q := ⟨rfl, h⟩
end
/-! ### data, in and out -/
section
variable {K : PySem.W.Frag} {H : Hp} {v : V} {d : PyData}
theorem dpall_app : ∀ {vs : List V} {ds : List PyData}, DpAll K H vs ds → Dp K H v d → DpAll K H (vs ++ [v]) (ds ++ [d])
  | _, _, .nil, h => .cons h .nil
  | _, _, .cons a r, h => .cons a (dpall_app r h)
theorem dpall_apps {ws : List V} {es : List PyData} : ∀ {vs : List V} {ds : List PyData}, DpAll K H vs ds → DpAll K H ws es → DpAll K H (vs ++ ws) (ds ++ es)
  | _, _, .nil, h => h
  | _, _, .cons a r, h => .cons a (dpall_apps r h)
theorem dp_tupI {ds : List PyData} (h : Dp K H v (.tuple ds)) : ∃ t ws, v = .ref t ∧ SqT K H t ws ∧ DpAll K H ws ds := by
  cases h with
  | tup h r => exact ⟨_, _, rfl, h, r⟩
theorem dp_strI {z : Str} (h : Dp K H v (.str z)) : v = .str z := by cases h; rfl
theorem dp_intI {n : Int} (h : Dp K H v (.int n)) : v = .int n := by cases h; rfl
theorem dp_tup2I {d1 d2 : PyData} (h : Dp K H v (.tuple [d1, d2])) : ∃ t x y, v = .ref t ∧ SqT K H t [x, y] ∧ Dp K H x d1 ∧ Dp K H y d2 := by
  obtain ⟨t, ws, e, h1, h2⟩ := dp_tupI h
  cases h2 with
  | cons a r =>
    cases r with
    | cons b r =>
      cases r
      exact ⟨t, _, _, e, h1, a, b⟩
theorem dpall_take : ∀ {vs : List V} {ds : List PyData}, DpAll K H vs ds → ∀ n, DpAll K H (vs.take n) (ds.take n)
  | _, _, .nil, n => by cases n <;> exact .nil
  | _, _, .cons a r, 0 => .nil
  | _, _, .cons a r, n + 1 => .cons a (dpall_take r n)
end
/-! ### int of a bool, an int, a text -/
/-! ### exceptions of the text with their word alone -/
abbrev veT : List Value := [.type "ValueError", .type "Exception", .type "BaseException", .type "object"]
theorem bsf_value : Bsf "ValueError" "ValueError.__new__" "ValueError.__init__" veT := ⟨PySem.F.excBase_ValueError, PySem.F.store_ValueError.passes, by decide +kernel, rfl⟩
theorem refs_ex : ∀ {l : List Value}, PySem.HandSPX.refsVE l = true → ∃ cs : List Addr, l = cs.map Value.ref ++ veT := by
  intro l
  induction l with
  | nil => intro h; exact absurd h (by decide)
  | cons a r ih =>
    intro h
    rcases PySem.HandSPX.refsVE_cases (a :: r) h with ⟨c, r', e, h2⟩ | e
    · obtain ⟨rfl, rfl⟩ := List.cons.inj e
      obtain ⟨cs, e⟩ := ih h2
      exact ⟨c :: cs, by rw [e]; rfl⟩
    · exact ⟨[], e⟩
theorem oexG_of {K : PySem.W.Frag} {C : Addr} (T : OexC K C) : OexG K C "ValueError.__new__" veT := by
  obtain ⟨nm, q, N, bs, bm, sn, sub, ab, col, dd, k0, k1, k2, k3, k5, hC, hb⟩ := T.cls
  obtain ⟨cs, rfl⟩ := refs_ex hb
  exact ⟨⟨nm, q, N, bs, cs, sn, sub, ab, col, dd, k0, k1, k2, k3, k5, hC⟩, T.sa, T.exC, T.tyC, T.kC⟩
theorem pmk_oexG0 {X : Cx} {x : Str} {p pos : Pos} {tl : List Value} {B newId initId : String} {CX : CXT} {C fI : Addr} {k : Nat} {fd : FuncData} {ps : List Str} {sp : Sp} (b : Bsf B newId initId tl) (T : OexG X.K C newId tl) (iC : PySem.W.findIn X.K (.ref C) "__init__" = some (some (.ref fI))) (tI : PySem.W.typeIn X.K (.ref fI) = some (.type "function"))
    (F1 : FnOk X.prog X.w X.K X.mg X.base CX k fI fd ps sp) (hr : Room (k + 1) X.A) (hb : Binds X.K fd ps []) (hx : Passes CX X (fun _ _ _ => False)) (hg : Gl X x) (hm : X.mg x = some (.ref C)) (hdb : (x == ("__debug__" : Str)) = false := by decide) : PMk X (.Call (.Name x p) [] [] pos) (tMkO C sp [] tNil) := by
  intro pins s σ H Q I h
  obtain ⟨nm, q, N, bs, cs, sn, sub, ab, col, dd, k0, k1, k2, k3, k5, hC⟩ := T.cls
  obtain ⟨hz, q1⟩ := h
  refine wpAny_Call_Name_kw (ld_glob I hg hm (PySem.W.callWith_K0 I.kIn T.kC ?_) hdb)
  show wpAny _ _ (call (.ref C) []) _ _ _
  obtain ⟨hp, g, dr, tk, os⟩ := s
  have hn : H (hp.objs.size + 1) = none := I.hok.fresh (Nat.le_succ _)
  have hq := q1 (hp.objs.size + 1) hn
  have kk : ∀ b o, hp.get? b = some o → ((hp.push (PySem.W.kdv_tup [])).push (PySem.HandSPX.excO C hp.objs.size)).get? b = some o := fun b o z => Heap.get?_push_of_some _ (Heap.get?_push_of_some _ z)
  have I2 := I.laid (t' := tk) (a := hp.objs.size + 1) (o := exo (hp.objs.size + 1) C none) (h' := (hp.push (PySem.W.kdv_tup [])).push (PySem.HandSPX.excO C hp.objs.size)) kk (Nat.le_succ _) (exo_ok (t1 := hp.objs.size) (by heap_get))
  have r2 : Vals [V.ref (hp.objs.size + 1)] [Value.ref (hp.objs.size + 1)] := .cons rfl .nil
  have l2 : [Value.ref (hp.objs.size + 1)].length = ps.length := r2.length.symm.trans (F1.len _ _ _ _ hq)
  have b2 := hb _ [Value.ref (hp.objs.size + 1)] I2.kIn (by rw [List.append_nil]; exact l2)
  rw [List.append_nil] at b2
  refine wpAny_call (PySem.HandSPX.call_own b.F (fun Y => line_has Y cs) (I.kIn _ _ hC) (PySem.W.looks_findIn I.kIn iC) (fun self => PySem.W.bind_fn I.kIn self tI) (Nat.zero_le _) (codeAny_mono (F1.run _ X.stack _ _ _ _ _ _ _ (hr.make C [] []) (I2.env0.make C [] []) b2 r2 hq) fun r s' hq' => ?_))
  cases r with
  | error er => exact hx pins σ _ _ er s' I2 hq'
  | ok fl =>
    cases fl with
    | ret u =>
      obtain ⟨v, H2, os2, bare2, un2, hok2, rv, ev, d, fs, ea, ed, hd1, q2⟩ := hq'
      subst ev
      obtain ⟨h2, g2, d2, t2, os'⟩ := s'
      exact ⟨rv, mk_end (raises_own T.exC T.tyC) I (Nat.le_succ _) kk un2 hok2 os2 bare2 ea ed hd1 q2⟩
    | _ => exact False.elim hq'
def spX0 (C : Addr) (nm : Str) : Sp := fun vs H Q _ => ∃ a : Addr, vs = [.ref a] ∧ H a = some (exo a C none) ∧ ∀ d H', H d = none → d ≠ a → H' = upd (upd H d (exd d [("word", .str nm)])) a (exo a C (some d)) → Q .non H'
structure XCls0 (P : Program) (w : World) (K : PySem.W.Frag) (mg : Str → Option Value) (base : Heap) (x : Str) (k : Nat) (nm : Str) : Prop where
  gC : mg x = some (.ref (He.ga K x))
  O : Oex K (He.ga K x) (He.ma K (He.ga K x) "__init__")
  nw : PySem.W.findIn K (.ref (He.ga K x)) "word" = some none
  F : ∃ fd ps, FnOk P w K mg base CX0 k (He.ma K (He.ga K x) "__init__") fd ps (spX0 (He.ga K x) nm) ∧ Binds K fd ps []
theorem pmk_x0 {X : Cx} {x nm : Str} {k j : Nat} {p pos : Pos} {K : PySem.W.Frag} (c : XCls0 X.prog X.w K X.mg X.base x k nm) (hr : Room j X.A) (hx : ∀ E, Passes CX0 X E := by exact fun _ => fun _ _ _ _ _ _ _ h => h.elim) (hK : X.K = K := by rfl) (hj : k + 1 ≤ j := by first | decide | omega) (hg : Gl X x := by rfl) (hdb : (x == ("__debug__" : Str)) = false := by decide) :
    PMk X (.Call (.Name x p) [] [] pos) (tMkO (He.ga K x) (spX0 (He.ga K x) nm) [] tNil) := by
  subst hK
  obtain ⟨fd, ps, F1, hb⟩ := c.F
  exact pmk_oexG0 bsf_value (oexG_of c.O.T) c.O.iC c.O.tI F1 (hr.mono hj) hb (hx _) hg c.gC hdb
theorem x0_read {K : PySem.W.Frag} {C : Addr} {nm : Str} (T : OexC K C) (nw : PySem.W.findIn K (.ref C) "word" = some none) {vs : List V} {H : Hp} {Q : VK} {E : XK} (h : spX0 C nm vs H Q E) {N : List Str} (hN : N.length = 1) :
    tOst K "word" (tVar 0) (tC (.str nm)) { nx := fun _ H' => Q .non H', rt := Q } (L2.start N vs) H := by
  obtain ⟨a, rfl, ha, q⟩ := h
  have es : L2.start N [.ref a] = [some (.ref a)] := by
    unfold L2.start
    rw [hN]
    rfl
  rw [es]
  exact ⟨_, rfl, a, C, rfl, T, nw, .inl ⟨ha, fun d hd ne => q d _ hd ne rfl⟩⟩
theorem k_x0 {C : Addr} {nm : Str} {H1 : Hp} {Q : XK} (h : ∀ d H', H1 d = none → Same H1 H' → H' d = some (.xd [("word", .str nm)]) → Q (.ref C) (some d) H') : nMk C (spX0 C nm) [] [] H1 Q := by
  refine ⟨Nat.zero_le _, fun a ha => ⟨a, rfl, upd_same, fun d H' hd ne e => ?_⟩⟩
  have hd1 : H1 d = none := by
    rw [upd_ne ne] at hd
    exact hd
  refine ⟨rfl, d, [("word", .str nm)], by rw [e, upd_same], by rw [e, upd_ne ne, upd_same], hd1, h d _ hd1 (fun b o hb => ?_) upd_same⟩
  have hba : b ≠ a := ne_of_none hb ha
  have hbd : b ≠ d := ne_of_none hb hd1
  rw [upd_ne hbd, del_ne hba, e, upd_ne hba, upd_ne hbd, upd_ne hba]
  exact hb
/-! ### isinstance(x, str) -/
section
variable {X : Cx} (K : PySem.W.Frag)
end
end Gk
set_option Elab.async false
set_option autoImplicit false
set_option linter.all false
set_option maxRecDepth 100000
set_option maxHeartbeats 4000000
/-! # enumerate over tuples, rows that are lists or tuples -/
namespace PySem
set_option maxHeartbeats 4000000 in
theorem meets_enumB {v : Value} {o : Obj} {H : Heap → Prop} (B : Begins v o H) :
    Meets (Builtin.«enumerate.__new__» ⟨[.type "enumerate", v], []⟩) (fun _ R s => H s.heap ∧
      R (.ok (.ret (.ref (s.heap.push o).objs.size))) { s with heap := (s.heap.push o).push { cls := .type "enumerate", data := .fields #[.none, .bool false, .ref s.heap.objs.size, rawInt 0, .none, .none] } }) :=
  .of_wp fun prog w A R s hh => by
    obtain ⟨hp, g, d, tk, os⟩ := s
    obtain ⟨h1, h2⟩ := hh
    have hs := sub_enumerate
    have qq : ∀ {A' : Around} {E : Value → Shared → Prop} {Q : Value → Shared → Prop}, Q (.ref hp.objs.size) ⟨hp.push o, g, d, tk, os⟩ → wpAny (model prog w) A' (pyIter v) Q E ⟨hp, g, d, tk, os⟩ := fun q => B.iter prog w _ _ ⟨hp, g, d, tk, os⟩ _ h1 q
    wp_walk using qq
    refine wpAny_stack_any fun sk => wpAny_pure ?_
    split
    · rename_i c _ _ _ _ _
      cases (c == Value.type "enumerate") <;> (wp_walk using qq; exact ⟨_, rfl, h2⟩)
    · wp_walk using qq
      exact ⟨_, rfl, h2⟩
theorem call_enumB {prog : Program} {w : World} {A : Around} {E : Value → Shared → Prop} {s : Shared} {v : Value} {o : Obj} {H : Heap → Prop} {Q : Value → Shared → Prop} (B : Begins v o H) (h1 : H s.heap)
    (h : ∀ h', IsEnum h' (s.heap.objs.size + 1) s.heap.objs.size 0 .none → h'.get? s.heap.objs.size = some o → h'.objs.size = s.heap.objs.size + 2 → (∀ b o, s.heap.get? b = some o → h'.get? b = some o) → Q (.ref (s.heap.objs.size + 1)) { s with heap := h' }) :
    wpAny (model prog w) A (call (.type "enumerate") [v]) Q E s := by
  refine callType_new F.called_enumerate (by decide) (F.typeCall_enumerate_1 _) (F.newCall_enumerate_1 _) (fun obj => F.args_object_init_2 obj _) F.entry_enumerate_new (meets_enumB B) ⟨h1, ?_⟩
  have z1 : (s.heap.push o).objs.size = s.heap.objs.size + 1 := Heap.size_push ..
  show _ ∧ _
  rw [z1]
  have z2 := Heap.get?_push_size (s.heap.push o) (o := { cls := .type "enumerate", data := .fields #[.none, .bool false, .ref s.heap.objs.size, rawInt 0, .none, .none] }) rfl
  rw [z1] at z2
  exact ⟨⟨_, z2, rfl⟩, h _ z2 (Heap.get?_push_of_some _ (Heap.get?_push_size _ B.free)) (by rw [Heap.size_push, z1]) fun b o x => Heap.get?_push_of_some _ (Heap.get?_push_of_some _ x)⟩
end PySem
namespace Gk
open PySem PySem.Spec PyProof.Rows L2
def IteT (K : PySem.W.Frag) (a : Addr) : It :=
  ⟨fun i H => ∃ (xs : List V) (x : V), SqT K H a xs ∧ xs[i]? = some x, fun i H v H' => ∃ T x, v = .ref T ∧ H T = none ∧ H' = upd H T (.tup [.int (i : Nat), x]) ∧ ∀ xs, SqT K H a xs → xs[i]? = some x, fun i H => ∃ xs : List V, SqT K H a xs ∧ xs.length ≤ i⟩
theorem turn_enumT {P : Program} {w : World} {K : PySem.W.Frag} {elts : List Expr} {kk : Nat} {tpos : Pos} (a e it : Addr) :
    Turn P w K (.Tuple elts kk tpos) (IteT K a) [e, it] e (fun i h => (∃ old, IsEnum h e it ((i : Nat) : Int) old) ∧ h.IsTupleIter it a i ∧ e ≠ it ∧ e ≠ a ∧ a ≠ it) where
  mem := by simp
  obj := fun i h st b hb => by
    obtain ⟨⟨old, he⟩, ⟨o, ho, hc, hd⟩, _⟩ := st
    rcases (show b = e ∨ b = it by simpa using hb) with z | z
    · exact z ▸ ⟨_, he, fun v q => nomatch q⟩
    · exact z ▸ ⟨o, ho, fun v q => by rw [hd] at q; cases q⟩
  keep := fun i h h' st k => let ⟨⟨old, he⟩, hi, hne⟩ := st; ⟨⟨old, k e (by simp) _ he⟩, hi.at fun o q => k it (by simp) o q, hne⟩
  item := by
    intro X hP hw hK hc i pins s σ H E I hf st hg
    subst hP hw hK
    obtain ⟨⟨old, he⟩, hit, hne, hea, hai⟩ := st
    obtain ⟨xs, x, hq, hx⟩ := hg
    obtain ⟨its, rv, p, hz⟩ := I.tuple hq
    obtain ⟨u, hu, ru⟩ := rv.get hx
    have hel : e < s.heap.objs.size := Heap.lt_size he
    have hil : it < s.heap.objs.size := by obtain ⟨_, q, _⟩ := hit; exact Heap.lt_size q
    have hi : i < its.toArray.size := by
      have := (List.getElem?_eq_some_iff.mp hu).1
      simpa using this
    refine wpAny_pyNext_enum_itemD (Draws.tuple (A := X.A.in1) (I.ok.hd hc) it a hai its.toArray) he ⟨hit, p⟩ hi hne (fun m => by rcases List.mem_cons.mp m with m | m; exact hne m; exact hea (List.mem_singleton.mp m)) fun x' h' tk hx' ho hst' hT hsz hk => ?_
    have ex : x' = u := by
      have h1 : its[i]? = some x' := by simpa using hx'
      rw [hu] at h1
      exact (Option.some.inj h1).symm
    subst ex
    refine ⟨_, rfl, wpAny_letOwnedTupleGo_enum (s := { s with heap := h', toks := tk + 1 }) ho fun h2 he' sb => ?_⟩
    have hT2 : h2.get? s.heap.objs.size = some { cls := .type "tuple", data := .seq #[.int i tk, x'] } := (sb.2 _ (Nat.ne_of_gt hel)).trans hT
    have new : ObjOk X.prog X.w (upd H s.heap.objs.size (.tup [.int (i : Nat), x])) h2 s.heap.objs.size (.tup [.int (i : Nat), x]) :=
      ⟨by show 2 ≤ sizeLine; decide, [.int i tk, x'], .cons ⟨_, rfl⟩ (.cons ru .nil), ⟨_, hT2, rfl, _, rfl⟩⟩
    have I1 : Inv X pins σ (upd H s.heap.objs.size (.tup [.int (i : Nat), x])) { s with heap := h2, toks := tk + 1 } :=
      I.turnedNew (ch := [e, it]) (fun b ob hb q => (sb.2 b (fun z => hb (by simp [z]))).trans (hk b ob (fun z => hb (by simp [z])) (fun z => hb (by simp [z])) q)) hf (Nat.le_refl _) new
    refine ⟨.ref s.heap.objs.size, _, I1, rfl, ⟨_, x, rfl, I.hok.fresh (Nat.le_refl _), rfl, fun ys hy => by rw [I.tuple_inj hy hq]; exact hx⟩, ⟨⟨x', ?_⟩, hst'.1.at fun o q => (sb.2 it (Ne.symm hne)).trans q, hne, hea, hai⟩, fun b hb => ?_⟩
    · rw [show ((i + 1 : Nat) : Int) = (i : Int) + 1 by omega]
      exact he'
    · have hb' : b < s.heap.objs.size := by
        rcases (show b = e ∨ b = it by simpa using hb) with z | z
        · exact z ▸ hel
        · exact z ▸ hil
      rw [upd_ne (Nat.ne_of_lt hb')]
      exact (hf b hb).1
  done := by
    intro X hP hw hK hc i pins s σ H E I hf st hg
    subst hP hw hK
    obtain ⟨⟨old, he⟩, hit, hne, hea, hai⟩ := st
    obtain ⟨xs, hq, hx⟩ := hg
    obtain ⟨its, rv, p, hz⟩ := I.tuple hq
    obtain ⟨f0, f1, f2, f3, f4, f5⟩ := hf it (by simp)
    have hl := rv.length
    have D : Draws X.prog X.w X.A.in1 it [it, a] i (fun _ _ => True) (fun j h => j = i ∧ h.IsTupleIter it a i ∧ h.IsTuple a its.toArray) :=
      { live := fun _ _ st => let ⟨o, ho, _⟩ := st.2.1; ⟨o, ho⟩
        frame := fun _ _ _ st hk => ⟨st.1, st.2.1.at fun o e => hk it (by simp) o e, st.2.2.at fun o e => hk a (by simp) o e⟩
        item := fun j s' Q' E' hj st' _ => absurd st'.1 (Nat.ne_of_lt hj)
        done := fun s' Q' E' st' hE => wpAny_nextOf_tuple_end (I.ok.hd hc) st'.2.1 st'.2.2 (by simp; omega) hE }
    exact wpAny_pyNext_enum_endD D he ⟨rfl, hit, p⟩ fun h' eb => ⟨rfl, I.turned (t' := s.toks) (fun b o hb q => eb b o hb q) f0 f1 f3 f4 f5⟩
  self := fun A i s Q E st h => let ⟨⟨_, he⟩, _⟩ := st; wpAny_pyIter_enum he h
end Gk
namespace Gk
open PySem PySem.Spec PyProof.Rows L2
/-! ## lists and tuples alike -/
def SqB (K : PySem.W.Frag) (t : Bool) (H : Hp) (a : Addr) (xs : List V) : Prop := match t with
  | true => SqT K H a xs
  | false => SqL K H a xs
theorem sm_b {K : PySem.W.Frag} {t : Bool} {H H' : Hp} {a : Addr} {xs : List V} (e : Same H H') (h : SqB K t H a xs) : SqB K t H' a xs := match t, h with
  | true, h => sm_t e h
  | false, h => sm_l e h
def IteB (K : PySem.W.Frag) (t : Bool) (a : Addr) : It := match t with
  | true => IteT K a
  | false => Ite K a
theorem walk_enumB {K : PySem.W.Frag} {t : Bool} {a : Addr} {xs : List V} : Walk (IteB K t a) xs.length (fun H => SqB K t H a xs) (YPair (fun i => some (.int (i : Nat))) (fun i => xs[i]?)) := by
  cases t with
  | false => exact walk_enum
  | true =>
    refine ⟨fun i _ hi q => ⟨xs, xs[i], q, by simp [hi]⟩, fun _ q => ⟨xs, q, Nat.le_refl _⟩, fun i H v H' _ q y => ?_⟩
    obtain ⟨T, x, h1, h2, h3, h4⟩ := y
    exact ⟨T, .int (i : Nat), x, h1, h2, h3, rfl, h4 xs q⟩
def nIteB (K : PySem.W.Frag) (vs : List V) (R : It → Hp → Prop) (H : Hp) : Prop := ∃ t a xs, vs = [.ref a] ∧ SqB K t H a xs ∧ R (IteB K t a) H
def iEnumB (K : PySem.W.Frag) (ta : TA) : TI := fun σ H R => ta σ H fun vs H1 => nIteB K vs R H1
theorem pi_enumB {X : Cx} {K : PySem.W.Frag} {e : Expr} {ta : TA} {p pos tpos : Pos} {elts : List Expr} {kk : Nat} (hg : Gl X "enumerate") (hm : X.mg "enumerate" = none) (ha : PA X [e] ta) (hK : X.K = K := by rfl) (hs : starEach [e] X.env = [(false, eval e X.env)] := by rfl) :
    PI X (.Tuple elts kk tpos) (.Call (.Name "enumerate" p) [e] [] pos) (iEnumB K ta) := by
  subst hK
  refine ⟨fun pins s σ H R I h => ?_⟩
  refine Call_ (ld_blt I hg hm boot_enumerate (PyProof.Rows.callWith_type1 (thn (ha.run pos pins s σ H _ I h) fun us s1 ⟨vs, H1, I1, r1, q1⟩ => ?_) hs rfl))
  obtain ⟨t, a, xs, ex, hq, q⟩ := q1
  subst ex
  have far : ∀ b, b ∈ [s1.heap.objs.size + 1, s1.heap.objs.size] → s1.heap.objs.size ≤ b := fun b hb => by
    have e' : b = s1.heap.objs.size + 1 ∨ b = s1.heap.objs.size := by simpa using hb
    rcases e' with z | z
    · rw [z]; exact Nat.le_add_right _ _
    · rw [z]; exact Nat.le_refl _
  cases r1 with
  | cons r rr =>
    cases rr
    cases r
    cases t with
    | false =>
      obtain ⟨its, rv, p', hz⟩ := I1.list hq
      refine call_enumerate_list p'.isList fun h' he hit hsz hk => wpAny_pyIter_enum he ?_
      have I2 : Inv X pins σ H1 { s1 with heap := h' } := I1.kept (t' := s1.toks) hk
      exact ⟨s1.heap.objs.size + 1, [s1.heap.objs.size + 1, s1.heap.objs.size], _, _, H1, rfl, I2, turn_enum a (s1.heap.objs.size + 1) s1.heap.objs.size, ⟨⟨.none, he⟩, hit, Nat.succ_ne_self _⟩, fun b hb => I1.fpOk (far b hb) (I1.hok.fresh (far b hb)), q⟩
    | true =>
      obtain ⟨its, rv, p', hz⟩ := I1.tuple hq
      have al : a < s1.heap.objs.size := by obtain ⟨_, q, _⟩ := id p'; exact Heap.lt_size q
      refine call_enumB (begins_tuple a its.toArray) p' fun h' he hit hsz hk => wpAny_pyIter_enum he ?_
      have I2 : Inv X pins σ H1 { s1 with heap := h' } := I1.kept (t' := s1.toks) hk
      exact ⟨s1.heap.objs.size + 1, [s1.heap.objs.size + 1, s1.heap.objs.size], _, _, H1, rfl, I2, turn_enumT a (s1.heap.objs.size + 1) s1.heap.objs.size, ⟨⟨.none, he⟩, ⟨_, hit, rfl, rfl⟩, Nat.succ_ne_self _, Nat.ne_of_gt (Nat.lt_succ_of_lt al), Nat.ne_of_lt al⟩, fun b hb => I1.fpOk (far b hb) (I1.hok.fresh (far b hb)), q⟩
section
variable {K : PySem.W.Frag} {σ : L2.St} {H : Hp} {Q : VK} {tA : TA} {R : It → Hp → Prop} {t : Bool} {a : Addr} {xs : List V}
theorem k_iteB (h : tA σ H fun vs H1 => nIteB K vs R H1) : iEnumB K tA σ H R := h
theorem k_nIteB (hx : SqB K t H a xs) (h : R (IteB K t a) H) : nIteB K [.ref a] R H := ⟨t, a, xs, rfl, hx, h⟩
theorem k_sl_t {lo hi : Option Int} (hx : SqT K H a xs) (h : ∀ p H2, Same H H2 → SqT K H2 p (cutV xs lo hi) → Q (.ref p) H2) : rSlU K (.ref a) lo hi H Q := by
  refine .inr (.inr ⟨a, xs, rfl, hx, fun hw => ?_, fun _ p hp => h p _ (sm_new hp) (sq_t upd_same)⟩)
  refine h a H (Same.refl _) ?_
  have e : cutV xs lo hi = xs := by
    unfold cutV
    rw [hw.1, hw.2, List.drop_zero, Nat.sub_zero, List.take_length]
  rw [e]
  exact hx
theorem k_sl_b {lo hi : Option Int} (hx : SqB K t H a xs) (h : ∀ p H2, Same H H2 → SqB K t H2 p (cutV xs lo hi) → Q (.ref p) H2) : rSlU K (.ref a) lo hi H Q := match t, hx, h with
  | true, hx, h => k_sl_t hx h
  | false, hx, h => k_sl_l hx fun p H2 _ s e => h p H2 s (sq_l e)
theorem k_len_b (hx : SqB K t H a xs) (h : Q (.int xs.length) H) : rLenU K [.ref a] H Q := match t, hx with
  | true, hx => k_len_t hx h
  | false, hx => k_len_l hx h
theorem k_list_b (hx : SqB K t H a xs) (h : ∀ p H2, H p = none → Same H H2 → H2 p = some (.lst xs) → Q (.ref p) H2) : rListU K [.ref a] H Q := match t, hx with
  | true, hx => k_list_t hx h
  | false, hx => k_list_l hx h
end
end Gk
namespace Gk
open PySem PySem.Spec PyProof.Rows L2
/-! ## l.clear(), text * int, list * int -/
section
variable {X : Cx} {K : PySem.W.Frag}
theorem pe_bm0Z (K : PySem.W.Frag) {T id : String} {name : Str} {r : V → List V → Hp → VK → Prop} {o : Expr} {to : TE} {apos cpos : Pos} (pa : PlainAttrs T) (slot : Slot T name id) (hty : typeOf (.builtin id) = pure (.type "method_descriptor")) (hm : MtR X id r) (ho : PE X o to) (hK : X.K = K := by rfl)
    (hbase : attributeBase o name X.env (eval o X.env) = eval o X.env := by rfl) (hline : (apos.endLine == cpos.line) = true := by rfl) : PE X (.Call (.Attribute o name apos) [] [] cpos) (tBM0 K T r to) := by
  subst hK
  exact pe_bm0 pa slot hty hm ho hbase hline
end
end Gk
namespace Gk
open PySem PySem.Spec PyProof.Rows L2
/-! ## list(range(a, b)) -/
end Gk
set_option Elab.async false
set_option autoImplicit false
set_option linter.all false
set_option maxRecDepth 100000
set_option maxHeartbeats 4000000
/-! # lambdas without parameters, handed to a def that calls them; a Hook that tells empty tables -/
namespace Gk
open PySem PySem.Spec PyProof.Rows L2 LamX
/-! ## the Hook -/
end Gk
namespace Gk
open PySem PySem.Spec PyProof.Rows L2 LamX
section
variable {X : Cx} {pins : List (Addr × Obj)} {σ : L2.St} {H : Hp} {s : Shared}
/-- x(), in the def that got the lambda; what it raises is wished for at the caller's slots -/
theorem pe_actS {CXg : CXT} {Eg : XK} {Ng : List Str} {qg : Str} {sg : Scope} {g f c' : Addr} {cdg pm ctv : Value} {params : Arguments} {body : Expr} {scope : Scope} {k i : Nat} {a : Str} {pn : List (Addr × Obj)} {xe : Value → Shared → Prop} {W : WX} {tb : XK → TE} {p1 p2 : Pos}
    (I : Inv X pins σ H s) (L : LamS X.env.scope scope) (hf : s.heap.get? f = some (PySem.W.kla_obj "<lambda>" (X.env.qual ++ "<lambda>") params body scope (cloFrom X.env.cells scope.names []) pm c' ctv)) (hfn : H f = none) (hfr : f ∉ frs X.stack)
    (hbind : bindArgs (PySem.W.kla_fn "<lambda>" (X.env.qual ++ "<lambda>") params body scope (cloFrom X.env.cells scope.names []) pm (.ref c') ctv) ⟨[], []⟩ = pure [])
    (tk : Takes ((cxOf CXg X.prog X.w X.K X.mg X.base Ng qg sg g cdg X.A X.stack s H Eg).tr pn xe) W) (hr : Room (k + 1) (X.A.deeper (envOfC qg sg s.heap.objs.size g cdg)))
    (hbody : ∀ (E : XK) (A : Around) (outer : List Env) (s : Shared) (H : Hp), Room k (A.deeper (lamEnv X scope s.heap.objs.size f c')) → PE (lamCx X A outer s H E scope f c') body (tb E))
    (hN : Ng[i]? = some a) (hv : Vis sg a) (hd : (a == ("__debug__" : Str)) = false := by decide) (hcd : (a == ("__classdict__" : Str)) = false := by decide) :
    PE ((cxOf CXg X.prog X.w X.K X.mg X.base Ng qg sg g cdg X.A X.stack s H Eg).tr pn xe) (.Call (.Name a p1) [] [] p2)
      (fun σZ HZ Q => σZ[i]? = some (some (.ref f)) ∧ HZ c' = some (CodeO c' (X.env.qual ++ "<lambda>")) ∧ ∃ (E : XK) (Q' : VK), (∀ cls d H', E cls d H' → W cls d σZ H') ∧ (∀ v H', Q' v H' → Q v H') ∧ tb E σ HZ Q') := by
  refine ⟨fun pinsZ sZ σZ HZ Q IZ h => ?_⟩
  obtain ⟨hs, hc, E, Q', hE, hQ, ht⟩ := h
  refine wpAny_Call_Name_kw (thn ((pe_var (pos := p1) (i := i) hN hv hd hcd).run pinsZ sZ σZ HZ (fun v H1 => v = .ref f ∧ H1 = HZ) IZ ⟨.ref f, hs, rfl, rfl⟩) fun u s1 ⟨v, H1, I1, r1, q1⟩ => ?_)
  obtain ⟨ev, eH⟩ := q1
  subst ev
  rw [eH] at I1
  obtain rfl : u = Value.ref f := r1
  have of1 : s1.heap.get? f = some (PySem.W.kla_obj "<lambda>" (X.env.qual ++ "<lambda>") params body scope (cloFrom X.env.cells scope.names []) pm c' ctv) := I1.base.keep f _ hf hfn hfr (fun z => nomatch (show f ∈ ([] : List Addr) from z))
  refine PySem.W.callWith_F0 ⟨_, _, _, _, of1⟩ ?_
  have un : Un (frs X.stack) [] H HZ s.heap s1.heap := I1.base
  obtain ⟨⟨oc, vs, t, hoc, hdc, hvc⟩, _, _⟩ := I1.hok c' _ hc
  have rc : codeAny (model X.prog X.w) (X.A.deeper (envOfC qg sg s.heap.objs.size g cdg)) (.call (.ref f) ⟨[], []⟩) (CR (L2.CX X.prog X.w) (envOfC qg sg s.heap.objs.size g cdg :: X.stack) X.prog X.w HZ s1 Q' E) s1 := by
    refine PySem.W.kla_callFunE hr.depth of1 rfl L.co L.gen rfl ⟨c', oc, vs, t, rfl, hoc, hdc, hvc⟩ ?_
    rw [hbind]
    refine wpAny_pure (wpAny_newFunctionEnv (fun y hy => (L.own y hy).2) (fun y hy => absurd hy (by simp)) (fun h₁ hns hsb => ⟨I1.nolimit.fresh _ hsb, ?_⟩) L.kind)
    show codeAny _ _ (.expr body (lamEnv X scope s1.heap.objs.size f c')) _ _
    have kp : ∀ b o, s1.heap.get? b = some o → h₁.get? b = some o := fun b o e => hsb.extBut b o (Nat.ne_of_lt (Heap.lt_size e)) (Heap.get?_push_of_some _ e)
    have J : Inv (lamCx X (X.A.deeper (envOfC qg sg s.heap.objs.size g cdg)) (envOfC qg sg s.heap.objs.size g cdg :: X.stack) s1 HZ E scope f c') [] σ HZ { s1 with heap := h₁, toks := s1.toks + ([] : List (Str × Value)).length } :=
      lam_start2 I L I1.env0 hr.hd un hns kp
    refine PySem.W.kla_codeExpr (wpAny_mono ((hbody E _ _ s1 HZ (hr.deeper _)).run [] _ _ HZ Q' J ht) (fun v s' hq => ?_) fun e s' hq => hq)
    obtain ⟨w', H', J', rv, q⟩ := hq
    exact ⟨w', H', J'.os, J'.bare, J'.base, J'.hok, rv, q⟩
  have hx : PassesAt (L2.CX X.prog X.w) ((cxOf CXg X.prog X.w X.K X.mg X.base Ng qg sg g cdg X.A X.stack s H Eg).tr pn xe) σZ E := fun _ _ _ e s' I c => tk e s' (XE.of_call I (fun cls d H' h => hE cls d H' h) c)
  refine wpAny_call (codeAny_mono rc fun r s' hq => ?_)
  cases r with
  | error e => exact hx pinsZ HZ s1 e s' I1 hq
  | ok fl =>
    cases fl with
    | ret u =>
      obtain ⟨v, H', J, rv, q⟩ := I1.after hq
      exact ⟨v, H', J, rv, hQ v H' q⟩
    | next => exact False.elim hq
    | brk => exact False.elim hq
    | cont => exact False.elim hq
end
/-- the def that calls what it got: TT: what it makes of the lambda's reading -/
def GivesS (P : Program) (w : World) (K : PySem.W.Frag) (mg : Str → Option Value) (base : Heap) (A : Around) (outer : List Env) (Ng : List Str) (x : Str) (sg : Scope) (g : Addr) (cdg : Value) (bg : List Stmt) (a : Str) (q : Str) (TT : (XK → Hp → VK → Prop) → Hp → VK → Prop) : Prop :=
  ∀ (f c' : Addr) (s : Shared) (H : Hp) (Q : VK) (tl : XK → Hp → VK → Prop),
    (∀ (W : WX) (pn : List (Addr × Obj)) (xe : Value → Shared → Prop) (p1 p2 : Pos), Takes ((cxOf CX0 P w K mg base Ng x sg g cdg A outer s H E0).tr pn xe) W →
      PE ((cxOf CX0 P w K mg base Ng x sg g cdg A outer s H E0).tr pn xe) (.Call (.Name a p1) [] [] p2) (fun σZ HZ Q => σZ[0]? = some (some (.ref f)) ∧ HZ c' = some (CodeO c' q) ∧ ∃ (E : XK) (Q' : VK), (∀ cls d H', E cls d H' → W cls d σZ H') ∧ (∀ v H', Q' v H' → Q v H') ∧ tl E HZ Q')) →
    H c' = some (CodeO c' q) → TT tl H Q →
    ∃ t, PSs (cxOf CX0 P w K mg base Ng x sg g cdg A outer s H E0) bg t ∧ t { nx := fun _ H' => Q .non H', rt := Q } (L2.start Ng [.ref f]) H
/-- the module's name x stands for a def that calls the lambda that it gets -/
structure CalleeA (P : Program) (w : World) (K : PySem.W.Frag) (mg : Str → Option Value) (base : Heap) (x : Str) (TT : (XK → Hp → VK → Prop) → Hp → VK → Prop) : Prop where
  ex : ∃ (g : Addr) (a : Str) (Ng : List Str) (pg : Arguments) (bg : List Stmt) (sg : Scope) (dV kV doc pm cdv ct oc : Value) (an od : Option Addr) (osl : Array (Option Value)),
    mg x = some (.ref g) ∧ PySem.W.keepIn K (.ref g) = true ∧ K.lookup g = some ⟨oc, od, .func (PySem.W.fnOf x x pg bg sg dV kV doc pm an cdv ct), osl⟩ ∧ PySem.W.codeIn K cdv x = true ∧ L2.Binds K (PySem.W.fnOf x x pg bg sg dV kV doc pm an cdv ct) [a] [] ∧ FnScope Ng [a] sg ∧ Ng[0]? = some a ∧ Vis sg a ∧
      (a == ("__debug__" : Str)) = false ∧ (a == ("__classdict__" : Str)) = false ∧ ∀ (A : Around) (outer : List Env) (q : Str), GivesS P w K mg base A outer Ng x sg g cdv bg a q TT
/-- a def's table of code objects: c, the def's code object -/
structure TabC (X : Cx) (c Pt : Addr) : Prop where
  tb : TabB X.base X.mg c Pt
  code : X.env.code = .ref c
theorem pe_lamS {X : Cx} {x : Str} {TT : (XK → Hp → VK → Prop) → Hp → VK → Prop} {c Pt : Addr} {k j : Nat} {params : Arguments} {body : Expr} {scope : Scope} {t : XK → TE} {p lpos pos : Pos}
    (C : CalleeA X.prog X.w X.K X.mg X.base x TT) (TC : TabC X c Pt) (hr : Room j X.A) (hg : Gl X x) (L : LamS X.env.scope scope) (hdef : defaultsOf params X.env = ([], []))
    (hbind : ∀ (q : Str) (cl : List (Str × Addr)) (pm cv ctv : Value), bindArgs (PySem.W.kla_fn "<lambda>" q params body scope cl pm cv ctv) ⟨[], []⟩ = pure [])
    (hbody : ∀ (E : XK) (A : Around) (outer : List Env) (s : Shared) (H : Hp) (f c' : Addr), Room k (A.deeper (lamEnv X scope s.heap.objs.size f c')) → PE (lamCx X A outer s H E scope f c') body (t E))
    (hj : k + 2 ≤ j := by first | decide | omega) (hdb : (x == ("__debug__" : Str)) = false := by decide) :
    PE X (.Call (.Name x p) [.Lambda params body scope lpos] [] pos) (tLam [(Pt, X.env.qual ++ "<lambda>")] TT t) := by
  obtain ⟨g, a, Ng, pg, bg, sg, dV, kV, doc, pm, cdv, ct, oc, an, od, osl, hm, hk, lk, hcg, hb, Sg, hNg, hva, hd, hcd, hG⟩ := C.ex
  have hr2 : Room (k + 2) X.A := hr.mono hj
  refine ⟨fun pins s σ H Q I h => ?_⟩
  obtain ⟨hT, h⟩ := h
  refine wpAny_Call_Name_kw (ld_glob I hg hm ?_ hdb)
  refine PySem.W.callWith_K (h₀ := X.base) I.ok.mod.kin hk ?_ (by rfl) (by rfl)
  show wpAny _ _ (spliced ((false, eval (.Lambda params body scope lpos) X.env) :: backTo pos (starEach [] X.env))) _ _ s
  refine Calls.spliced_cons (lam_make2 I TC.tb TC.code (List.mem_singleton.mpr rfl) (fun p hp _ => by rw [List.mem_singleton.mp hp]) hT hdef (L.has I.ok) fun f c' pm' ctv H1 s' I1 eN T1 hf hfn hfr hco => ?_)
  refine Calls.spliced_nil ⟨I1.kIn, ?_⟩
  have rc : codeAny (model X.prog X.w) X.A (.call (.ref g) ⟨[.ref f], []⟩) (CR CX0 X.stack X.prog X.w H1 s' Q E0) s' := by
    refine run_ofS (N := Ng) (ps := [a]) (us := [.ref f]) (vs := [.ref f]) lk hcg Sg hr2 I1.env0 (hb s' [.ref f] I1.kIn rfl) (.cons rfl .nil) rfl fun hr' => ?_
    obtain ⟨t', ht', hq'⟩ := hG X.A X.stack (X.env.qual ++ "<lambda>") f c' s' H1 Q (fun E H' Q' => t E σ H' Q') (fun W pn xe p1 p2 tk => pe_actS (i := 0) I1 L hf hfn hfr (hbind _ _ _ _ _) tk hr' (fun E A outer s H hr2 => hbody E A outer s H f c' hr2) hNg hva hd hcd) hco (h H1 eN T1)
    exact ⟨t', ht', hq'⟩
  refine wpAny_call (codeAny_mono rc fun r s2 hq => ?_)
  cases r with
  | error e => exact (show False from hq).elim
  | ok fl =>
    cases fl with
    | ret u => exact I1.after hq
    | next => exact False.elim hq
    | brk => exact False.elim hq
    | cont => exact False.elim hq
/-- from what a head tells of a def -/
theorem CalleeA.of {P : Program} {w : World} {K : PySem.W.Frag} {mg : Str → Option Value} {base : Heap} {x a : Str} {Ng : List Str} {pg : Arguments} {bg : List Stmt} {sg : Scope} {g : Addr} {fd : FuncData} {TT : (XK → Hp → VK → Prop) → Hp → VK → Prop} (F : FunD K x x pg bg sg [] [] g fd) (hm : mg x = some (.ref g)) (Sg : FnScope Ng [a] sg)
    (hb : ∀ (kV doc pm : Value) (an : Option Addr) (cdv ct : Value) (us : List Value), us.length = 1 → bindArgs (PySem.W.fnOf x x pg bg sg .none kV doc pm an cdv ct) ⟨us, []⟩ = pure ([a].zip us)) (hNg : Ng[0]? = some a) (hva : Vis sg a)
    (hG : ∀ (cdv : Value) (A : Around) (outer : List Env) (q : Str), GivesS P w K mg base A outer Ng x sg g cdv bg a q TT) (hd : (a == ("__debug__" : Str)) = false := by decide) (hcd : (a == ("__classdict__" : Str)) = false := by decide) : CalleeA P w K mg base x TT := by
  have b := FunD.bindsN (ps := [a]) F hb
  obtain ⟨oc, od, dV, kV, doc, pm, an, cdv, ct, osl, rfl, lk, hcg, _, _⟩ := F.ex
  exact ⟨g, a, Ng, pg, bg, sg, dV, kV, doc, pm, cdv, ct, oc, an, od, osl, hm, F.kp, lk, hcg, b, Sg, hNg, hva, hd, hcd, hG cdv⟩
/-- as FunD.ok; the code object is told -/
theorem okC {P : Program} {w : World} {K : PySem.W.Frag} {mg : Str → Option Value} {base : Heap} {x qual : Str} {params : Arguments} {body : List Stmt} {scope : Scope} {dvs : List V} {kws : List (Str × V)} {p : He.Defn} {fd : FuncData} {CX : CXT} {N ps : List Str} {k : Nat} {sp : Sp} (F : FunD K x qual params body scope dvs kws (He.fAd K p) fd) (S : FnScope N ps scope) (len : ∀ vs H Q E, sp vs H Q E → vs.length = ps.length)
    (hbody : ∀ (A : Around) (outer : List Env) (s : Shared) (H : Hp) (vs : List V) (Q : VK) (E : XK), Room k (A.deeper (envOfC qual scope s.heap.objs.size (He.fAd K p) (.ref (He.cT K p).1))) → sp vs H Q E →
      ∃ t, PSs (cxOf CX P w K mg base N qual scope (He.fAd K p) (.ref (He.cT K p).1) A outer s H E) body t ∧ t { nx := fun _ H' => Q .non H', rt := Q } (start N vs) H) : FnOk P w K mg base CX (k + 1) (He.fAd K p) fd ps sp := by
  obtain ⟨oc, od, dV, kV, doc, pm, an, cdv, ct, osl, rfl, lk, hcd, _, _⟩ := F.ex
  obtain ⟨c, rfl⟩ := He.codeIn_ref hcd
  have e : He.codeOf K p = c := He.codeOf_eq lk rfl
  subst e
  exact fn_of lk hcd S len fun A outer s H vs Q E hr hsp => hbody A outer s H vs Q E hr hsp
/-! ## heaps behind a lambda -/
section
variable {K : PySem.W.Frag} {H H' : Hp} {a : Addr} {xs : List V} {T : List (Addr × Str)}
theorem k_lam {σ : L2.St} {Q : VK} {TT : (XK → Hp → VK → Prop) → Hp → VK → Prop} {t : XK → TE} (hT : Tabs T H) (h : ∀ H1, ExtN H H1 → Tabs T H1 → TT (fun E H' Q' => t E σ H' Q') H1 Q) : tLam T TT t σ H Q := ⟨hT, h⟩
theorem tabs_sm (s : Same H H') (t : Tabs T H) : Tabs T H' := t.ext s
theorem ext_rd {u : HO} (e : ExtN H H') (n : ∀ ps, u ≠ .tbl ps) (n2 : ∀ o, (HO.frz o u) = (HO.frz o u)) (h : Rd H a u) : Rd H' a u := by
  rcases h with h | ⟨o, h⟩
  · exact Or.inl (e a _ h n)
  · exact Or.inr ⟨o, e a _ h fun ps z => by cases z⟩
theorem ext_l (e : ExtN H H') (h : SqL K H a xs) : SqL K H' a xs := h.elim (fun h => .inl (ext_rd e (fun _ z => by cases z) (fun _ => rfl) h)) .inr
theorem ext_t (e : ExtN H H') (h : SqT K H a xs) : SqT K H' a xs := h.elim (fun h => .inl (ext_rd e (fun _ z => by cases z) (fun _ => rfl) h)) .inr
theorem same_ext (s : Same H H') : ExtN H H' := fun b o h _ => s b o h
end
end Gk
namespace Gk
open PySem PySem.Spec PyProof.Rows L2 LamX
theorem BagOk.ext {H H' : Hp} {b : Addr} (e : ExtN H H') (h : BagOk H b) : BagOk H' b := by
  obtain ⟨c, ns, h1, h2⟩ := h
  exact ⟨c, ns, e _ _ h1 (fun ps z => by unfold bagO at z; cases z), e _ _ h2 fun ps z => by cases z⟩
theorem ext_lst {H H' : Hp} {a : Addr} {xs : List V} (e : ExtN H H') (h : H a = some (.lst xs)) : H' a = some (.lst xs) := e _ _ h fun ps z => by cases z
end Gk
set_option Elab.async false
set_option autoImplicit false
set_option linter.all false
set_option maxRecDepth 100000
set_option maxHeartbeats 4000000
/-! # several clauses `except x as n` -/
namespace Gk
open PySem PySem.Spec PyProof.Rows L2
def wManyAs (K : PySem.W.Frag) (Wout : WX) (D : Ends) : List (Value × Nat × (Addr → Value → Option Addr → TS)) → WX
  | [] => Wout
  | (c, i, ts) :: r => fun cls d σ H => ∃ b, PySem.W.exmOne K cls c = some b ∧ (b = true → ∀ a, H a = none → ts a cls d { nx := fun σ' H' => D.nx (σ'.set i none) H', rt := D.rt, bk := fun σ' H' => D.bk (σ'.set i none) H', ct := fun σ' H' => D.ct (σ'.set i none) H' } (σ.set i (some (.ref a))) H) ∧ (b = false → wManyAs K Wout D r cls d σ H)
inductive HdsAs (X : Cx) : List ExceptHandler → List (Value × Nat × (Addr → Value → Option Addr → TS)) → Prop
  | nil : HdsAs X [] []
  | cons {x n : Str} {c : Value} {i : Nat} {ts : Addr → Value → Option Addr → TS} {b₀ : Stmt} {suite : List Stmt} {np pos' : Pos} {hds : List ExceptHandler} {l : List (Value × Nat × (Addr → Value → Option Addr → TS))} (hi : X.N[i]? = some n) (hln : X.env.kindOf n = some .local) (hc : Names X x c)
      (hsu : ∀ (a : Addr) (oe : Obj) (cls : Value) (d : Option Addr) (pn : List (Addr × Obj)), Zc cls d oe → (∃ vs, oe.data = .fields vs) → PSs (X.suite a ((a, oe) :: pn)) (b₀ :: suite) (ts a cls d)) (r : HdsAs X hds l) :
      HdsAs X (.ExceptHandler (some (.Name x np)) (some n) (b₀ :: suite) pos' :: hds) ((c, i, ts) :: l)
section
variable {X : Cx} {body : List Stmt} {h₀ : ExceptHandler} {hds : List ExceptHandler} {l : List (Value × Nat × (Addr → Value → Option Addr → TS))} {pos : Pos} {tb : WX → TS} {Wout : WX}
theorem ps_try_manyAs (hs : X.stack = X.env :: X.outer) (hf : X.env.frame = some X.env.locals) (hN : X.N.Nodup) (tk : Takes X Wout)
    (hb : ∀ (W : WX) (pn : List (Addr × Obj)) (xe : Value → Shared → Prop), Takes (X.tr pn xe) W → PassesOwn (model X.prog X.w) X.A X.env xe → PSs (X.tr pn xe) body (tb W))
    (hh : HdsAs X (h₀ :: hds) l) : PS X (.Try body (h₀ :: hds) [] [] pos) (fun D σ H => tb (wManyAs X.K Wout D l) D σ H) := by
  refine ⟨fun pins s σ H D I h => ?_⟩
  have ok := I.ok
  have hfr : X.A.frames = some (X.env :: X.outer) := by rw [ok.frames, hs]
  refine wpAny_Try_except ?_
  refine wpAny_mono ((hb (wManyAs X.K Wout D l) (X.pn ++ pins) (fun e s₁ => wpAny (model X.prog X.w) X.A (noteFrame e X.env) (fun _ s₂ => wpAny (model X.prog X.w) X.A (setFlight e none) (fun _ s₃ =>
    wpAny (model X.prog X.w) X.A (handleBy e X.env (h₀ :: hds)) (SP X pins D) X.xe s₃) X.xe s₂) X.xe s₁) (fun u s' xx => ?_) PassesOwn.looking).run [] s σ H D (I.toTry _) h) (fun f s1 hsp => ?_) (fun e s1 he => he)
  · -- the catch
    obtain ⟨a, B, sI, pins', σ', H', cls, d, rfl, J', nb, up, sky, na, os, ag, w⟩ := xx
    have J : Inv X pins σ' H' sI := J'.ofTry ok
    have sky' : Sky B (X.env :: X.outer) a (Zc cls d) X.env.locals s'.heap := by rw [← hs]; exact sky
    show wpAny (model X.prog X.w) X.A (noteFrame (.ref a) X.env) _ _ _
    refine Sky.land Zc.steady hfr hf sky' fun h3 fl3 up3 => ?_
    have J3 : Inv X pins σ' H' { s' with heap := h3 } := J.landed nb fl3.1 (up.trans up3) os ag
    obtain ⟨oe3, vs3, he3, hz3, hd3⟩ := fl3.there
    have notFr : ∀ {h : Heap} {o : Obj} {vs : Array Value}, h.FunFrames B (X.env :: X.outer) → h.get? a = some o → o.data = .fields vs → a ∉ frs (X.env :: X.outer) := fun {h o vs} ff e dd hm => by
      obtain ⟨_, o', e', hnf⟩ := ff.mem hm
      rw [e] at e'; cases e'
      exact hnf _ dd
    have nfr := notFr fl3.2.2.1 he3 hd3
    have nL : a ≠ X.env.locals := fun z => nfr (List.mem_filterMap.mpr ⟨X.env, List.mem_cons_self, by rw [hf, z]⟩)
    have nF : a ∉ X.fs := fun hm => by
      obtain ⟨e, he, q⟩ := List.mem_filterMap.mp hm
      exact nfr (List.mem_filterMap.mpr ⟨e, List.mem_cons_of_mem _ he, q⟩)
    have S3 := J3.suite he3 hd3 na nL nF
    have go : ∀ {hds' : List ExceptHandler} {l' : List (Value × Nat × (Addr → Value → Option Addr → TS))}, HdsAs X hds' l' → wManyAs X.K Wout D l' cls d σ' H' →
        wpAny (model X.prog X.w) X.A (handleBy (.ref a) X.env hds') (SP X pins D) X.xe { s' with heap := h3 } := by
      intro hds' l' hk
      induction hk with
      | nil =>
        intro w
        refine wpAny_handleBy_nil ?_
        obtain ⟨k1, k2, k3, oe, vs, T, oT, ts', he, hz, hd, h1, hr⟩ := id fl3
        unfold PySem.passOn
        refine wpAny_bind (wpAny_field he hd h1 ?_)
        rw [if_neg (show ¬ ((Value.ref T == Value.none) = true) from by simp)]
        have fin : wpAny (model X.prog X.w) X.A (setFlight (.ref a) X.env.frame) (fun _ s4 => wpAny (model X.prog X.w) X.A (throw (.ref a) : Sem Flow) (SP X pins D) X.xe s4) X.xe { s' with heap := h3 } := by
          rw [hf]
          refine HandSPX.setFlight_upZ fl3 fun h4 hh4 up4 => wpAny_throw (tk _ _ ?_)
          exact ⟨a, B, sI, pins, σ', H', cls, d, rfl, J, nb, (up.trans up3).trans up4, .inr (.inr (by rw [hs]; exact hh4)), na, os, ag, w⟩
        first
          | exact wpAny_bind (wpAny_pure (wpAny_bind fin))
          | exact wpAny_bind fin
      | @cons x n c i ts b₀ suite np pos' hds2 l2 hi hln hc hsu r ih =>
        intro w
        obtain ⟨b, hb1, hyes, hno⟩ := w
        refine wpAny_handleBy_cons (codeAny_handlers_test ?_) (by intro q; cases q)
        have LT : PySem.W.Looks (model X.prog X.w) h3 (typeOf (.ref a)) cls := fun A Q E s k q => wpAny_typeOf_ref (k _ _ he3) (by rw [hz3.1]; exact q)
        have LM := PySem.W.exm_one (M := model X.prog X.w) (J3.kIn) LT hb1
        have test : ∀ {Q : Value → Shared → Prop} {E : Value → Shared → Prop}, Q c { s' with heap := h3 } → wpAny (model X.prog X.w) (X.A.mark (some (.ref a))) (eval (.Name x np) X.env) Q E { s' with heap := h3 } := fun {Q E} q => by
          obtain ⟨hg, hdbg, hm | ⟨hm, hv, hnn⟩⟩ := hc
          · exact ld_glob (X := X.suite a ((a, oe3) :: (X.pn ++ pins))) S3 hg hm q hdbg
          · exact ld_blt (X := X.suite a ((a, oe3) :: (X.pn ++ pins))) S3 hg hm hv q hnn hdbg
        refine test (LM.here ?_)
        cases b with
        | true =>
          have hloc : Loc X.env.scope n := .inl hln
          refine codeAny_handlers_suite_as ?_
          refine HandSPX.lands_againZ fl3 fun h4 fl4 up4 => ?_
          have J4 : Inv X pins σ' H' { s' with heap := h4 } := J.landed nb fl4.1 ((up.trans up3).trans up4) os ag
          obtain ⟨oe4, vs4, he4, hz4, hd4⟩ := fl4.there
          have S4 := J4.suite he4 hd4 na nL nF
          refine store_ok (X := X.suite a ((a, oe4) :: (X.pn ++ pins))) (v := .ref a) S4 hN hi hloc rfl (fun s5 S5 => ?_) (.inr hln)
          refine wpAny_mono ((hsu a oe4 cls d (X.pn ++ pins) hz4 ⟨_, hd4⟩).run [] s5 _ H' _ S5 (hyes rfl a na)) (fun f s6 hsp => ?_) (fun _ _ z => False.elim z)
          have end_ : ∀ {σ6 : L2.St} {H6 : Hp} {Q : Shared → Prop}, Inv (X.suite a ((a, oe4) :: (X.pn ++ pins))) [] σ6 H6 s6 → (∀ s7, Inv X pins (σ6.set i none) H6 s7 → Q s7) →
              wpAny (model X.prog X.w) X.A (do bindName X.env n .none; unbindBehindTheSuite X.env n pos') (fun _ s7 => Q s7) X.xe s6 := fun {σ6 H6 Q} S6 hq => gone_ok (S6.unsuite ok) hN hi hln hq
          cases f with
          | next =>
            obtain ⟨σ6, H6, S6, q6⟩ := hsp
            exact end_ S6 fun s7 J7 => ⟨_, _, J7, q6⟩
          | brk =>
            obtain ⟨σ6, H6, S6, q6⟩ := hsp
            exact end_ S6 fun s7 J7 => ⟨_, _, J7, q6⟩
          | cont =>
            obtain ⟨σ6, H6, S6, q6⟩ := hsp
            exact end_ S6 fun s7 J7 => ⟨_, _, J7, q6⟩
          | ret u =>
            obtain ⟨v6, σ6, H6, S6, r6, q6⟩ := hsp
            exact end_ S6 fun s7 J7 => ⟨_, _, _, J7, r6, q6⟩
        | false =>
          show wpAny _ X.A (handleBy (.ref a) X.env hds2) _ _ _
          exact ih (hno rfl)
    exact go hh w
  · cases f with
    | next =>
      obtain ⟨σ', H', J', q⟩ := hsp
      exact wpAny_execs_nil ⟨σ', H', J'.ofTry ok, q⟩
    | brk =>
      obtain ⟨σ', H', J', q⟩ := hsp
      exact ⟨σ', H', J'.ofTry ok, q⟩
    | cont =>
      obtain ⟨σ', H', J', q⟩ := hsp
      exact ⟨σ', H', J'.ofTry ok, q⟩
    | ret u =>
      obtain ⟨v, σ', H', J', r, q⟩ := hsp
      exact ⟨v, σ', H', J'.ofTry ok, r, q⟩
end
end Gk
set_option Elab.async false
set_option autoImplicit false
set_option linter.all false
set_option maxRecDepth 100000
set_option maxHeartbeats 4000000
/-! # dicts: their values summed, comprehensions that make them -/
namespace Gk
open PySem PySem.Spec PyProof.Rows L2
section
variable {X : Cx}
end
section
variable {prog : Program} {w : World} {A : Around} {E : Value → Shared → Prop} {s : Shared} {T : String} {r d : Addr} {n : Nat} {P : Nat → Value → Prop} {OK : Heap → Prop} {Q : Value → Shared → Prop}
end
section
variable {X : Cx}
end
section
variable {X : Cx} {K : PySem.W.Frag} {H : Hp} {Q : VK} {σ : L2.St}
theorem k_dnewT (h : ∀ p H', H p = none → Same H H' → H' p = some (.dT []) → Q (.ref p) H') : tDNewT σ H Q := fun p hp => h p _ hp (sm_new hp) upd_same
end
/-! ## an own class made by place alone -/
structure OwnP (P : Program) (w : World) (K : PySem.W.Frag) (mg : Str → Option Value) (base : Heap) (CX : CXT) (C : Str) (k : Nat) (sp : Sp) : Prop where
  gC : mg C = some (.ref (He.ga K C))
  mkr : Mk K (He.ga K C) (He.ma K (He.ga K C) "__init__")
  ex : ∃ fd ps, FnOk P w K mg base CX k (He.ma K (He.ga K C) "__init__") fd ps sp ∧ Binds K fd ps []
section
variable {X : Cx} {K : PySem.W.Frag} {CX : CXT} {k j : Nat} {sp : Sp} {x : Str} {p pos : Pos} {e : Expr} {es : List Expr} {t : TA} {E : XK}
theorem pe_mkP (c : OwnP X.prog X.w K X.mg X.base CX x k sp) (hr : Room j X.A) (ha : PA X (e :: es) t) (hx : Passes CX X E) (hK : X.K = K := by rfl) (hj : k + 1 ≤ j := by first | decide | omega) (hg : Gl X x := by rfl) (hdb : (x == ("__debug__" : Str)) = false := by decide)
    (he : starEach (e :: es) X.env = (false, eval e X.env) :: starEach es X.env := by rfl) (hpl : (backTo pos (starEach es X.env)).any (·.1) = false := by rfl) : PE X (.Call (.Name x p) (e :: es) [] pos) (tMake (He.ga K x) sp [] E t) := by
  subst hK
  obtain ⟨fd, ps, F, hb⟩ := c.ex
  exact pe_make c.mkr F (hr.mono hj) hg c.gC hb .nil hx ha hdb he hpl
def nMkP (C : Addr) (sp : Sp) (vs : List V) (H1 : Hp) (Q : VK) (E : XK) : Prop := ∀ x dx, H1 x = none → H1 dx = none → dx ≠ x → sp (.ref x :: (vs ++ [])) (upd (upd H1 dx (.own x)) x (.ins C dx [])) (fun v H2 => v = .non ∧ Q (.ref x) H2) E
theorem k_mkP {C : Addr} {σ : L2.St} {H : Hp} {Q : VK} (h : t σ H fun vs H1 => nMkP C sp vs H1 Q E) : tMake C sp [] E t σ H Q := h
end
theorem pe_fldK {X : Cx} (K : PySem.W.Frag) {e : Expr} {f : Str} {ta : TE} {pos : Pos} (he : PE X e ta) (hb : attributeBase e f X.env (eval e X.env) = eval e X.env) (hK : X.K = K := by rfl) : PE X (.Attribute e f pos) (tFld K ta f) := by
  subst hK
  exact pe_fld he hb
/-! ## dict(pairs); walks over a dict's keys, the dict held meanwhile -/
section
variable {κ : Type} [DecidableEq κ]
end
section
variable {K : PySem.W.Frag} {H : Hp} {Q : VK} {σ : L2.St} {a d : Addr}
end
/-! ## range with a step -/
end Gk
set_option Elab.async false
set_option autoImplicit false
set_option linter.all false
set_option maxRecDepth 100000
set_option maxHeartbeats 4000000
/-! # the order of data; list.index -/
namespace Gk
open PySem PySem.Spec PyProof.Rows L2
open PySem.W (dataLt alike)
end Gk
set_option Elab.async false
set_option autoImplicit false
set_option linter.all false
set_option maxRecDepth 100000
set_option maxHeartbeats 4000000
/-! # x, *xs = tuple -/
namespace Gk
open PySem PySem.Spec PyProof.Rows L2 PySem.W
section
variable {prog : Program} {w : World} {A : Around} {E : Value → Shared → Prop} {s : Shared} {env : Env}
end
end Gk
set_option Elab.async false
set_option autoImplicit false
set_option linter.all false
set_option maxRecDepth 100000
set_option maxHeartbeats 4000000
/-! # list.pop(i); set(list of tuples); sorted(text); == by an own __eq__ -/
namespace Gk
open PySem PySem.Spec PyProof.Rows L2
open PySem.W (EachIs AllAlike Sortable dataLe dataLt alike keyToks sort_pairwise sortLe_total list_sort_data)
/-! ### l.pop(i), i from the front -/
/-! ### set(list of tuples of ints and texts) -/
section
variable {P : Program} {w : World} {A : Around} {E : Value → Shared → Prop} {s : Shared}
end
end Gk
namespace Gk
open PySem PySem.Spec PyProof.Rows L2
open PySem.W (EachIs AllAlike Sortable dataLe dataLt alike keyToks sort_pairwise sortLe_total list_sort_data)
/-! ### sorted(text) -/
section
variable {P : Program} {w : World} {A : Around} {E : Value → Shared → Prop} {s : Shared}
end
/-! ### == by the class's own __eq__, the answer True -/
end Gk
set_option Elab.async false
set_option autoImplicit false
set_option linter.all false
set_option maxRecDepth 100000
set_option maxHeartbeats 4000000
/-! # a dict of the module, texts to ints: the Hook that tells it, `in`, `[]` -/
namespace Gk
open PySem PySem.Spec PyProof.Rows L2 LamX
/-! ## the Hook -/
/-! ## the dict told -/
/-! ## rules -/
section
variable {X : Cx} {K : PySem.W.Frag} {w : World} {mg : Str → Option Value} {x : Str} {kvs : List (Str × Int)}
end
end Gk
namespace Gk
open PySem PySem.Spec PyProof.Rows L2 LamX
/-! ## isinstance(x, int), isinstance(x, bool) of data -/
section
variable {K : PySem.W.Frag} {H : Hp} {Q : VK} {x : V} {d : PyData}
end
/-! ## for over a list or a tuple -/
def ItB (K : PySem.W.Frag) (t : Bool) (a : Addr) : It := match t with
  | true => Itt K a
  | false => Itl K a
def nItB (K : PySem.W.Frag) (v : V) (R : It → Hp → Prop) (H : Hp) : Prop := ∃ t a xs, v = .ref a ∧ SqB K t H a xs ∧ R (ItB K t a) H
def iSqB (K : PySem.W.Frag) (tl : TE) : TI := fun σ H R => tl σ H fun v H1 => nItB K v R H1
theorem pi_anyK {X : Cx} (K : PySem.W.Frag) {tg l : Expr} {tl : TE} (hl : PE X l tl) (hK : X.K = K := by rfl) : PI X tg l (iSqB K tl) := by
  subst hK
  refine ⟨fun pins s σ H R I h => ?_⟩
  refine thn (hl.run pins s σ H _ I h) fun v s1 ⟨x, H1, I1, r1, q1⟩ => ?_
  obtain ⟨t, a, xs, e, hq, q⟩ := q1
  subst e
  cases r1
  cases t with
  | false =>
    obtain ⟨its, rv, p, hz⟩ := I1.list hq
    refine wpAny_pyIter_list p.isList ?_
    refine ⟨s1.heap.objs.size, [s1.heap.objs.size], _, _, H1, rfl, I1.kept (t' := s1.toks) fun b o e => Heap.get?_push_of_some _ e, turn_list a _, ⟨_, Heap.get?_push_size _ rfl, rfl, rfl⟩, fun b hb => ?_, q⟩
    have e : b = s1.heap.objs.size := by simpa using hb
    subst e
    exact I1.fpOk (Nat.le_refl _) (I1.hok.fresh (Nat.le_refl _))
  | true =>
    obtain ⟨its, rv, p, hz⟩ := I1.tuple hq
    refine wpAny_pyIter_tuple (show s1.heap.IsTuple a its.toArray from p) ?_
    refine ⟨s1.heap.objs.size, [s1.heap.objs.size], _, _, H1, rfl, I1.kept (t' := s1.toks) fun b o e => Heap.get?_push_of_some _ e, turn_tuple a _, ⟨_, Heap.get?_push_size _ rfl, rfl, rfl⟩, fun b hb => ?_, q⟩
    have e : b = s1.heap.objs.size := by simpa using hb
    subst e
    exact I1.fpOk (Nat.le_refl _) (I1.hok.fresh (Nat.le_refl _))
theorem k_itB {K : PySem.W.Frag} {tl : TE} {σ : L2.St} {H : Hp} {R : It → Hp → Prop} (h : tl σ H fun v H1 => nItB K v R H1) : iSqB K tl σ H R := h
theorem k_nItB {K : PySem.W.Frag} {t : Bool} {a : Addr} {xs : List V} {R : It → Hp → Prop} {H : Hp} (hx : SqB K t H a xs) (h : R (ItB K t a) H) : nItB K (.ref a) R H := ⟨t, a, xs, rfl, hx, h⟩
theorem walk_listB {K : PySem.W.Frag} {t : Bool} {a : Addr} {xs : List V} : Walk (ItB K t a) xs.length (fun H => SqB K t H a xs) (YAt xs) := match t with
  | true => walk_tup
  | false => walk_list
end Gk
set_option Elab.async false
set_option autoImplicit false
set_option linter.all false
set_option maxRecDepth 100000
set_option maxHeartbeats 4000000
/-! # dicts with tuple keys: a display of one pair, steps; list(text) -/
namespace Gk
open PySem PySem.Spec PyProof.Rows L2
/-- {k: v}, k a tuple of ints and texts -/
def tDisp1T (tk tv : TE) : TE := fun σ H Q => ∀ p, H p = none → tk σ (upd H p (.dT [])) fun x H1 => tv σ H1 fun y H2 => H2 p = some (.dT []) ∧ ∃ (b : Addr) (k : List Key), x = .ref b ∧ H2 b = some (.tup (k.map kV)) ∧ Q (.ref p) (upd H2 p (.dT [(k, y)]))
theorem pe_disp1T {X : Cx} {pos : Pos} {k v : Expr} {tk tv : TE} (hu : X.A.units + 64 < cLine) (hk : PE X k tk) (hv : PE X v tv) : PE X (.Dict [some k] [v] pos) (tDisp1T tk tv) := by
  refine ⟨fun pins s σ H Q I q => ?_⟩
  have hn := I.hok.fresh (Nat.le_refl s.heap.objs.size)
  have I1 := I.laid (a := s.heap.objs.size) (o := .dT []) (h' := s.heap.push { cls := .type "dict", data := .dict #[] }) (t' := s.toks) (fun _ _ q => Heap.get?_push_of_some _ q) (Nat.le_refl _) (dt_empty s.heap I.big)
  have hl : (pairTrees [some k] [v] X.env pos).length = 1 := rfl
  rw [arm_eval_Dict, zip_pairTrees [some k] [v] X.env pos rfl rfl, dictDisplay_pairs (pairTrees [some k] [v] X.env pos) (by intro z; cases z) (by rw [hl]; decide)]
  refine wpAny_bind (wpAny_standAt (wpAny_bind (wpAny_subDictH (knd := tupleKind (mixKind X.prog X.w)) (Q := fun d s' => wpAny (model X.prog X.w) X.A (pure (Value.ref d)) (EP X pins σ Q) X.xe s') (show X.A.units < cLine by omega) (by rw [hl]; decide) ?_)))
  have P := pps_cons (X := X) (pos := pos) hk hv pps_nil
  refine thn (P.run pins _ σ _ (fun ps H2 => match ps with
    | [(x, y)] => H2 s.heap.objs.size = some (.dT []) ∧ ∃ (b : Addr) (k : List Key), x = .ref b ∧ H2 b = some (.tup (k.map kV)) ∧ Q (.ref s.heap.objs.size) (upd H2 s.heap.objs.size (.dT [(k, y)]))
    | _ => False) I1 (q _ hn)) fun ws s2 ⟨ps, H2, I2, rel, qq⟩ => ?_
  match ps, rel, qq with
  | [], _, qq => exact False.elim qq
  | _ :: _ :: _, _, qq => exact False.elim qq
  | [(x, y)], rel, qq =>
    obtain ⟨e, b, kk, ex, eb, q2⟩ := qq
    subst ex
    cases rel with
    | @cons a qv as bs r rr =>
      cases rr
      obtain ⟨u, v'⟩ := qv
      obtain ⟨ru, rv⟩ := r
      have ru' : u = Value.ref b := ru
      subst ru'
      obtain ⟨z, hd, xs, rel, dd⟩ := dt_of I2.hok e
      cases rel
      refine ⟨[(kk, b, v')], ⟨rfl, rfl, key_of I2.hok eb, trivial⟩, dd, fun h' tk dd' hs => ?_⟩
      obtain ⟨o, es, ep, hq, h2, h3, h4, _, h5⟩ := dd'
      refine wpAny_pure ⟨.ref s.heap.objs.size, _, ?_, rfl, q2⟩
      refine d_write I2 (by rw [e]; exact True.intro) hs ⟨o, hq⟩ ⟨by show 1 ≤ sizeLine; decide, hd, _, .cons ⟨rfl, ?_, rv⟩ .nil, o, es, ep, hq, h2, h3, h4, h5⟩
      rw [upd_ne (ne_of eb e (fun z => nomatch z))]
      exact eb
end Gk
namespace Gk
open PySem PySem.Spec PyProof.Rows L2
section
variable {K : PySem.W.Frag} {σ : L2.St} {H : Hp} {Q : VK} {td ty te : TE} {a b : Addr} {kvs : List (List Key × V)} {k : List Key} {v : V} {R : Hp → Prop}
theorem k_disp1T {tk tv : TE} (h : ∀ p H1, H p = none → Same H H1 → H1 p = some (.dT []) → tk σ H1 fun x H2 => tv σ H2 fun y H3 => H3 p = some (.dT []) ∧ ∃ (b : Addr) (k : List Key), x = .ref b ∧ H3 b = some (.tup (k.map kV)) ∧ Q (.ref p) (upd H3 p (.dT [(k, y)]))) : tDisp1T tk tv σ H Q := fun p hp => h p _ hp (sm_new hp) upd_same
theorem k_nDgT (hp : H a = some (.dT kvs)) (hb : H b = some (.tup (k.map kV))) (hl : valV kvs k = some v) (h : Q v H) : nDg (.ref a) (.ref b) H Q := ⟨a, v, rfl, by rw [← hl]; exact DGet.t hp hb, h⟩
def nDi (neg : Bool) (x y : V) (H : Hp) (Q : VK) : Prop := ∃ a o, x = .ref a ∧ DGet H a y o ∧ Q (.bl (if neg then !o.isSome else o.isSome)) H
theorem k_din (h : ty σ H fun y H1 => td σ H1 fun x H2 => nDi false x y H2 Q) : tDIn ty td σ H Q := h
theorem k_dni (h : ty σ H fun y H1 => td σ H1 fun x H2 => nDi true x y H2 Q) : tDNotIn ty td σ H Q := h
theorem k_nDiT {neg : Bool} (hp : H a = some (.dT kvs)) (hb : H b = some (.tup (k.map kV))) (h : Q (.bl (if neg then !(valV kvs k).isSome else (valV kvs k).isSome)) H) : nDi neg (.ref a) (.ref b) H Q := ⟨a, _, rfl, DGet.t hp hb, h⟩
theorem k_revL {K : PySem.W.Frag} (h : te σ H fun x H1 => ∃ a xs, x = .ref a ∧ SqL K H1 a xs ∧ ∀ p, H1 p = none → Q (.ref p) (upd H1 p (.lst xs.reverse))) : tRevL K te σ H Q := h
end
theorem pe_revLK {X : Cx} (K : PySem.W.Frag) {e : Expr} {te : TE} {k : Nat} {p1 p2 p3 pos : Pos} (he : PE X e te) (hK : X.K = K := by rfl) : PE X (.Subscript e (.Slice none none (some (.UnaryOp .USub (.Constant (.int 1) k p1) p2)) p3) pos) (tRevL K te) := by
  subst hK
  exact pe_revL he
/-! ### list(text) -/
end Gk
set_option Elab.async false
set_option autoImplicit false
set_option linter.all false
set_option maxRecDepth 100000
set_option maxHeartbeats 4000000
/-! # sorted(xs, key=f), f a def of the module or a lambda, over the reading layer; keys may hold lists -/
namespace Gk
open PySem PySem.Spec PyProof.Rows L2 LamX NdefX
open PySem.W (EachIs AllAlike Sortable dataLe KeyedOut KeepsBut sortVals dataKind SortsAt)
section
variable {X : Cx} {pins : List (Addr × Obj)} {σ : L2.St} {H H' : Hp} {s : Shared} {a : Addr}
end
section
variable {X : Cx} {pins : List (Addr × Obj)} {σ : L2.St} {H : Hp} {s : Shared} {a kS : Addr} {f : Value} {n : Nat} {C : Hp → Shared → Prop} {sp : V → Hp → VK → Prop} {xs : List V} {vs : List Value} {kz : List PyData} {E : Value → Shared → Prop}
end
/-! ## x(lambda: ..) where several tables are known -/
/-! ## the rules -/
section
variable {X : Cx} {k j : Nat} {sp : Sp} {x : Str} {e : Expr} {te : TE} {p p2 p3 pos : Pos}
end
/-! ### a lambda with one parameter as the key -/
section
variable {X : Cx} {k j n : Nat} {e body : Expr} {te tb : TE} {p p3 lpos pos : Pos} {c Pt : Addr} {T : List (Addr × Str)} {params : Arguments} {scope : Scope} {a : Str} {N fr : List Str} {js : List Nat}
end
/-! ## steps -/
section
variable {K : PySem.W.Frag} {T : List (Addr × Str)} {σ : L2.St} {H : Hp} {Q : VK} {te tb : TE} {sp : Sp} {spk : V → Hp → VK → Prop} {N : List Str} {js : List Nat}
end
/-! ## dicts with tuple keys: len, list; long lists and dicts -/
section
variable {K : PySem.W.Frag} {H : Hp} {Q : VK} {a b : Addr} {kvs : List (List Key × V)} {k : List Key} {v : V} {R : Hp → Prop} {xs : List V}
theorem k_lenT (h : H a = some (.dT kvs)) (q : Q (.int ((kvs.length : Nat) : Int)) H) : rLenT [.ref a] H Q := ⟨a, kvs, rfl, h, q⟩
theorem k_nDpTz (hp : H a = some (.dT kvs)) (hb : H b = some (.tup (k.map kV))) (hl : kvs.length < 16000000) (h : R (upd H a (.dT (putK kvs k v)))) : nDp (.ref a) (.ref b) v H R := ⟨a, _, rfl, DPut.t hp hb (Nat.lt_trans hl (by decide)), h⟩
theorem k_appendZ {y : V} (hp : H a = some (.lst xs)) (hl : xs.length < 16000000) (h : Q .non (upd H a (.lst (xs ++ [y])))) : rAppend (.ref a) [y] H Q := ⟨a, xs, y, rfl, rfl, hp, Nat.lt_trans hl (by decide), h⟩
end
end Gk
set_option Elab.async false
set_option autoImplicit false
set_option linter.all false
set_option maxRecDepth 100000
set_option maxHeartbeats 4000000
/-! # {k: v for ..} whose keys are tuples of ints and texts -/
namespace Gk
open PySem PySem.Spec PyProof.Rows L2
section
variable {X : Cx}
end
section
variable {K : PySem.W.Frag} {σ : L2.St} {H : Hp} {Q : VK}
end
/-! ## a new dict sealed for good: gone through where it was made -/
section
variable {K : PySem.W.Frag} {σ : L2.St} {H : Hp} {Q : VK}
end
end Gk
set_option Elab.async false
set_option autoImplicit false
set_option linter.all false
set_option maxRecDepth 100000
set_option maxHeartbeats 4000000
/-! # max(list of ints, default=d) -/
namespace Gk
open PySem PySem.Spec PyProof.Rows L2
theorem maxOf_ok : ∀ (ys : List Int) (y : Int), PySem.W.maxOf y ys ∈ y :: ys ∧ ∀ z ∈ y :: ys, z ≤ PySem.W.maxOf y ys
  | [], y => ⟨List.mem_singleton.mpr rfl, fun z hz => by rw [List.mem_singleton.mp hz]; exact Int.le_refl _⟩
  | x :: xs, y => by
    have e : PySem.W.maxOf y (x :: xs) = PySem.W.maxOf (if PySem.W.DatumOrd.lt y x = true then x else y) xs := rfl
    have lt : PySem.W.DatumOrd.lt y x = decide (y < x) := rfl
    obtain ⟨h1, h2⟩ := maxOf_ok xs (if PySem.W.DatumOrd.lt y x = true then x else y)
    rw [e]
    rw [lt] at h1 h2 ⊢
    by_cases c : y < x
    · rw [if_pos (decide_eq_true c)] at h1 h2 ⊢
      refine ⟨List.mem_cons_of_mem _ h1, fun z hz => ?_⟩
      rcases List.mem_cons.mp hz with rfl | hz
      · have := h2 x (List.mem_cons_self ..)
        omega
      · exact h2 z hz
    · rw [if_neg (fun z => c (of_decide_eq_true z))] at h1 h2 ⊢
      refine ⟨?_, fun z hz => ?_⟩
      · rcases List.mem_cons.mp h1 with h | h
        · rw [h]; exact List.mem_cons_self ..
        · exact List.mem_cons_of_mem _ (List.mem_cons_of_mem _ h)
      · rcases List.mem_cons.mp hz with rfl | hz
        · exact h2 z (List.mem_cons_self ..)
        rcases List.mem_cons.mp hz with rfl | hz
        · have := h2 y (List.mem_cons_self ..)
          omega
        · exact h2 z (List.mem_cons_of_mem _ hz)
def nMaxD (K : PySem.W.Frag) (x y : V) (H : Hp) (Q : VK) : Prop := ∃ (a : Addr) (ns : List Int), x = .ref a ∧ SqL K H a (ns.map V.int) ∧ (ns = [] → Q y H) ∧ ∀ m, m ∈ ns → (∀ z ∈ ns, z ≤ m) → Q (.int m) H
def tMaxD (K : PySem.W.Frag) (te td : TE) : TE := fun σ H Q => te σ H fun x H1 => td σ H1 fun y H2 => nMaxD K x y H2 Q
section
variable {X : Cx} {e d : Expr} {te td : TE} {p p3 pos : Pos}
theorem pe_maxD (K : PySem.W.Frag) (hm : X.mg "max" = none) (he : PE X e te) (hd : PE X d td) (hu : X.A.units + 64 < cLine) (hc : X.calm = true := by rfl) (hK : X.K = K := by rfl) (hg : Gl X "max" := by rfl)
    (hs : starEach [e] X.env = [(false, eval e X.env)] := by rfl) : PE X (.Call (.Name "max" p) [e] [⟨some "default", d, p3⟩] pos) (tMaxD K te td) := by
  subst hK
  refine ⟨fun pins s σ H Q I h => ?_⟩
  refine wpAny_Call_Name_kw (ld_blt I hg hm (by rfl) ?_)
  refine PyProof.Rows.callWith_kw (thn ((pa_cons he pa_nil hs).run pos pins s σ H (fun vs H1 => match vs with
    | [v] => td σ H1 fun y H2 => nMaxD X.K v y H2 Q
    | _ => False) I h) fun us s1 ⟨vs, H1, I1, r1, q1⟩ => ?_) (by rw [hs]; rfl) (by rw [hs]; rfl)
  cases vs with
  | nil => exact False.elim q1
  | cons v vs =>
    cases vs with
    | cons _ _ => exact False.elim q1
    | nil =>
      refine thn ((pk_cons (nm := some "default") (kpos := p3) hd pk_nil).run pos pins s1 σ H1 (fun zs H2 => match zs with
        | [y] => nMaxD X.K v y H2 Q
        | _ => False) I1 q1) fun ws s2 ⟨zs, H2, I2, r2, q2⟩ => ?_
      cases zs with
      | nil => exact False.elim q2
      | cons y zs =>
        cases zs with
        | cons _ _ => exact False.elim q2
        | nil =>
          obtain ⟨u, rfl, ru⟩ := vals1 r1
          obtain ⟨w, rfl, rw'⟩ := vals1 r2
          obtain ⟨a, ns, rfl, hx, q0, qm⟩ := q2
          cases ru
          obtain ⟨its, rv, hl, _⟩ := I2.list hx
          refine PySem.W.max_list_datum_default (α := Int) (xs := ns) (I2.ok.hd hc) hl.isList (PySem.W.HoldAll.of_ints rv.ints) (by show X.A.units + 1 + 0 < cLine; omega) (fun e h' tk hk => ?_) (fun z zs i v h' tk e hi hr hk => ?_)
          · exact ⟨y, H2, I2.kept hk, rw', q0 e⟩
          · obtain ⟨as, hr⟩ := hr
            obtain ⟨m1, m2⟩ := maxOf_ok zs z
            rw [← e] at m1 m2
            have hr' : PySem.Reads h' v (.int (PySem.W.maxOf z zs)) as := hr
            cases hr' with
            | int i t => exact ⟨.int _, H2, I2.kept hk, ⟨t, rfl⟩, qm _ m1 m2⟩
end
theorem k_maxD {K : PySem.W.Frag} {te td : TE} {σ : L2.St} {H : Hp} {Q : VK} (h : te σ H fun x H1 => td σ H1 fun y H2 => nMaxD K x y H2 Q) : tMaxD K te td σ H Q := h
theorem k_nMaxD {K : PySem.W.Frag} {H : Hp} {Q : VK} {a : Addr} {ns : List Int} {y : V} (h : SqL K H a (ns.map V.int)) (h0 : ns = [] → Q y H) (hm : ∀ m, m ∈ ns → (∀ z ∈ ns, z ≤ m) → Q (.int m) H) : nMaxD K (.ref a) y H Q := ⟨a, ns, rfl, h, h0, hm⟩
end Gk
set_option Elab.async false
set_option autoImplicit false
set_option linter.all false
set_option maxRecDepth 100000
set_option maxHeartbeats 4000000
/-! # sorted(list of data), min and max of two data, a dict comprehension of two fors with tuple keys -/
namespace Gk
open PySem PySem.Spec PyProof.Rows L2
open PySem.W (EachIs AllAlike Sortable dataLe dataLt alike SortsAt dataKind sortingHeap copyHeap)
/-! ## sorted(l), the items data -/
section
variable {X : Cx} {pins : List (Addr × Obj)} {σ : L2.St} {H : Hp} {s : Shared}
end
section
variable {K : PySem.W.Frag} {H : Hp} {Q : VK} {l : Addr}
end
/-! ## min, max of two data -/
section
variable {prog : Program} {w : World} {A : Around} {E : Value → Shared → Prop} {s : Shared}
end
end Gk
namespace Gk
open PySem PySem.Spec PyProof.Rows L2
/-! ## {k: v for .. for ..} whose keys are tuples of ints and texts -/
section
variable {prog : Program} {w : World} {A : Around} {R : Result → Shared → Prop} {s : Shared} {kx vx t0 i0 t1 i1 : Expr} {fs0 fs1 : List Expr} {sc : Scope} {ps : Pos} {x : Value} {D : Addr} {e : Env}
end
section
variable {X : Cx}
end
section
variable {σ : L2.St} {H Hb : Hp} {Q : VK}
end
end Gk
set_option Elab.async false
set_option autoImplicit false
set_option linter.all false
set_option maxRecDepth 100000
set_option maxHeartbeats 4000000
/-! # dict(d), d[k] = v as a target, lists of unlike lengths by != -/
namespace Gk
open PySem PySem.Spec PyProof.Rows L2
section
variable {K : PySem.W.Frag} {H : Hp} {Q : VK} {a b : Addr} {xs ys : List V}
end
end Gk
set_option Elab.async false
set_option autoImplicit false
set_option linter.all false
set_option maxRecDepth 100000
set_option maxHeartbeats 4000000
/-! # a tuple * int, once or more often -/
namespace Gk
open PySem PySem.Spec PyProof.Rows L2
end Gk
set_option Elab.async false
set_option autoImplicit false
set_option linter.all false
set_option maxRecDepth 100000
set_option maxHeartbeats 4000000
/-! # t[::-1] of a tuple; list.index of data; list.pop() -/
namespace Gk
open PySem PySem.Spec PyProof.Rows L2
section
variable {prog : Program} {w : World} {A : Around} {E : Value → Shared → Prop} {s : Shared}
end
section
variable {X : Cx}
end
/-! ### list.pop() -/
theorem k_pop0 {l : Addr} {xs : List V} {y : V} {H : Hp} {Q : VK} (hH : H l = some (.lst (xs ++ [y]))) (h : Q y (upd H l (.lst xs))) : L2.rPop (.ref l) [] H Q := by
  refine ⟨l, xs ++ [y], y, rfl, rfl, hH, by simp, ?_⟩
  rw [List.dropLast_concat]
  exact h
end Gk
set_option autoImplicit true
set_option pp.maxSteps 1200
set_option Elab.async false
set_option linter.all false
set_option maxRecDepth 100000
set_option maxHeartbeats 1000000
namespace Lw
open PySem PySem.Spec PyProof.Rows L2 Gk

abbrev FnP (K : PySem.W.Frag) (x : Str) (st : Stmt) (f : Addr) (fd : FuncData) : Prop := FunD K x x (defArgs st) (defBody st) (defScope st) [] [] f fd

local macro_rules | `(tactic| walk_at "hp") => `(tactic| first | assumption | exact upd_same | (refine' (upd_ne ?n).trans ?h; (case n => assumption); (case h => walk_at "hp")) | (refine' sm_get ?s ?h; (case s => assumption); (case h => walk_at "hp")))
local macro_rules | `(tactic| walk_at "sq") => `(tactic| first | assumption | (refine' sq_l ?h; (case h => walk_at "hp")) | (refine' sm_l ?s ?h; (case s => assumption); (case h => walk_at "sq")))
local macro_rules | `(tactic| walk_at "st") => `(tactic| first | assumption | (refine' sq_t ?h; (case h => walk_at "hp")) | (refine' sm_t ?s ?h; (case s => assumption); (case h => walk_at "st")))
local macro_rules | `(tactic| walk_at "bg") => `(tactic| first | assumption | (refine' BagOk.sm ?s ?h; (case s => assumption); (case h => walk_at "bg")))
local macro_rules | `(tactic| walk_at "sm") => `(tactic| first | assumption | exact Same.refl _ | (refine' Same.trans ?h ?s; (case s => assumption); (case h => walk_at "sm")))
local macro_rules | `(tactic| walk_at "hs") => `(tactic| first | assumption | (refine' HsAt.sm ?s ?h; (case s => assumption); (case h => walk_at "hs")))
local macro_rules | `(tactic| walk_at "ms") => `(tactic| first | assumption | (refine' MAt.sm ?s ?h; (case s => assumption); (case h => walk_at "ms")))
local macro_rules | `(tactic| walk_at "md") => `(tactic| first | assumption | (refine' MDk.sm ?s ?h; (case s => assumption); (case h => walk_at "md")))
local macro_rules | `(tactic| walk_at "dp") => `(tactic| first | assumption | (refine' dp_sm ?s ?h; (case s => assumption); (case h => walk_at "dp")))
local macro_rules | `(tactic| walk_at "sz") => `(tactic| first | decide | assumption | omega | (simp only [List.length_cons, List.length_nil, List.length_map, List.length_append]; omega))
local macro_rules | `(tactic| walk_at "g1") => `(tactic| first
  | with_reducible refine k_seq ?_
  | with_reducible refine k_itB ?_
  | with_reducible refine k_next ?_
  | with_reducible refine k_asg ?_
  | with_reducible refine k_name ?_
  | with_reducible refine k_ret ?_
  | with_reducible refine k_retN ?_
  | with_reducible refine k_drop ?_
  | with_reducible refine k_ifs ?_
  | with_reducible refine k_brk ?_
  | with_reducible refine k_cont ?_
  | with_reducible refine k_ipI ?_
  | with_reducible refine k_test ?_
  | with_reducible refine k_tB ?_
  | with_reducible refine k_bl ?_
  | with_reducible refine k_not ?_
  | with_reducible refine k_and ?_
  | with_reducible refine k_or ?_
  | with_reducible refine k_yes ?_
  | with_reducible refine k_true ?_
  | with_reducible refine k_false ?_
  | with_reducible refine k_nt ?_
  | with_reducible refine k_c ?_
  | with_reducible refine k_op ?_
  | with_reducible refine k_un ?_
  | with_reducible refine k_if ?_
  | with_reducible refine k_chain ?_
  | with_reducible refine k_nil ?_
  | with_reducible refine k_cons ?_
  | with_reducible refine k_cb ?_
  | with_reducible refine k_call ?_
  | with_reducible refine k_callS ?_
  | with_reducible refine k_andV ?_
  | with_reducible refine k_orV ?_
  | with_reducible refine k_notV ?_
  | with_reducible refine k_lst ?_
  | with_reducible refine k_tup ?_
  | with_reducible refine k_nopart ?_
  | with_reducible refine k_part ?_
  | with_reducible refine k_nInt ?_
  | with_reducible refine k_sl ?_
  | with_reducible refine k_bm ?_
  | with_reducible refine k_bm0 ?_
  | with_reducible refine k_nTyS ?_
  | with_reducible refine k_m1 ?_
  | with_reducible refine k_m0 ?_
  | with_reducible refine k_nStr ?_
  | with_reducible refine k_I0 ?_
  | with_reducible refine k_U ?_
  | with_reducible refine k_add_i ?_
  | with_reducible refine k_eq_i ?_
  | with_reducible refine k_eq_s ?_
  | with_reducible refine k_eq_b ?_
  | with_reducible refine k_ne_i ?_
  | with_reducible refine k_ne_s ?_
  | with_reducible refine k_ne_b ?_
  | with_reducible refine k_le_i ?_
  | with_reducible refine k_le_s ?_
  | with_reducible refine k_gnil ?_
  | with_reducible refine k_gcons ?_
  | with_reducible refine k_gsub ?_
  | with_reducible refine k_for ?_
  | with_reducible refine k_lc ?_
  | with_reducible refine k_rng1 ?_
  | with_reducible refine k_rng2 ?_
  | with_reducible refine k_itl ?_
  | with_reducible refine k_itt ?_
  | with_reducible refine k_its ?_
  | with_reducible refine k_ite ?_
  | with_reducible refine k_iteB ?_
  | with_reducible refine k_lrg2 ?_
  | with_reducible refine k_itz ?_
  | with_reducible refine k_nIts ?_
  | with_reducible refine k_inS ?_
  | with_reducible refine k_niS ?_
  | with_reducible refine k_mk ?_
  | with_reducible refine k_meth ?_
  | with_reducible refine k_fld ?_
  | with_reducible refine k_sfld ?_
  | with_reducible refine k_dg ?_
  | with_reducible refine k_dp ?_
  | with_reducible refine k_pr ?_
  | with_reducible refine k_pr0 ?_
  | with_reducible refine k_sg ?_
  | with_reducible refine k_lc2 ?_
  | with_reducible refine k_callN ?_
  | with_reducible refine k_callNS ?_
  | with_reducible refine k_par ?_
  | with_reducible refine k_nPar ?_
  | with_reducible refine k_isNn ?_
  | with_reducible refine k_isNr ?_
  | with_reducible refine k_ntNn ?_
  | with_reducible refine k_ntNr ?_
  | with_reducible refine k_min2 ?_
  | with_reducible refine k_max2 ?_
  | with_reducible refine k_intB ?_
  | with_reducible refine k_intI ?_
  | with_reducible refine k_isBl ?_
  | with_reducible refine k_ntBl ?_
  | ((with_reducible refine' k_var ?kv ?_); (case kv => exact rfl))
  | ((with_reducible refine' k_aug ?kv ?_); (case kv => exact rfl))
  | ((with_reducible refine' k_ix_l ?ks ?ki ?_); (case ks => walk_at "sq"); (case ki => exact rfl))
  | ((with_reducible refine' k_ix_t ?ks ?ki ?_); (case ks => walk_at "st"); (case ki => exact rfl))
  | ((with_reducible refine' k_len_l ?ks ?_); (case ks => walk_at "sq"))
  | ((with_reducible refine' k_len_t ?ks ?_); (case ks => walk_at "st"))
  | ((with_reducible refine' k_setL ?ks ?ki ?_); (case ks => walk_at "hp"); (case ki => exact rfl))
  | ((with_reducible refine' k_nTyL ?ks ?_); (case ks => walk_at "sq"))
  | ((with_reducible refine' k_nItl ?ks ?_); (case ks => walk_at "sq"))
  | ((with_reducible refine' k_nItt ?ks ?_); (case ks => walk_at "st"))
  | ((with_reducible refine' k_nIte ?ks ?_); (case ks => walk_at "sq"))
  | ((with_reducible refine' k_mul ?km ?_); (case km => first | exact Or.inr ⟨by decide, by decide⟩ | exact Or.inl ⟨by decide, by decide⟩))
  | ((with_reducible refine' k_I ?km ?_); (case km => first | assumption | decide | exact ⟨by decide, by decide +kernel⟩ | exact ⟨by decide, by decide, by decide⟩))
  | ((with_reducible refine' k_nMeth ?kp ?kl ?_); (case kp => walk_at "hp"); (case kl => exact rfl))
  | ((with_reducible refine' k_nFld ?kp ?kc ?kn ?kl ?_); (case kp => walk_at "hp"); (case kc => assumption); (case kn => assumption); (case kl => exact rfl))
  | ((with_reducible refine' k_nSFld ?kp ?kc ?kn ?kl ?_); (case kp => walk_at "hp"); (case kc => assumption); (case kn => assumption); (case kl => exact of_decide_eq_true rfl))
  | ((with_reducible refine' k_nDg ?kp ?kl ?_); (case kp => walk_at "hp"); (case kl => exact rfl))
  | ((with_reducible refine' k_nRng1 ?k1 ?k2 ?_); (case k1 => omega); (case k2 => omega))
  | ((with_reducible refine' k_nKw ?k1 ?k2 ?_); (case k1 => exact rfl); (case k2 => exact rfl))
  | ((with_reducible refine' k_hsm ?kh ?_); (case kh => walk_at "hs"))
  | ((with_reducible refine' k_nMethH ?kh ?kl ?_); (case kh => walk_at "hs"); (case kl => exact fun _ _ => rfl))
  | ((with_reducible refine' k_mLet ?kh ?_); (case kh => walk_at "ms"))
  | ((with_reducible refine' k_mChew ?kh ?_); (case kh => walk_at "ms"))
  | ((with_reducible refine' k_mPut ?kh ?_); (case kh => walk_at "ms"))
  | ((with_reducible refine' k_mMost ?kh ?_); (case kh => walk_at "ms"))
  | ((with_reducible refine' k_mCut ?kh ?_); (case kh => walk_at "ms"))
  | ((with_reducible refine' k_mTab ?kh ?_); (case kh => walk_at "md"))
  | ((with_reducible refine' k_mEats ?kh ?_); (case kh => walk_at "md"))
  | ((with_reducible refine' k_gtup ?ks ?kl ?_); (case ks => walk_at "st"); (case kl => exact rfl)))
local macro_rules | `(tactic| walk_at "g") => `(tactic| repeat (walk_at "g1"))
local macro_rules | `(tactic| walk_at "w1") => `(tactic| first
  | walk_at "g1"
  | ((with_reducible refine' k_decT ?kp ?_); (case kp => omega))
  | ((with_reducible refine' k_decF ?kp ?_); (case kp => omega))
  | ((with_reducible refine' k_decNT ?kp ?_); (case kp => omega))
  | ((with_reducible refine' k_decNF ?kp ?_); (case kp => omega)))
local macro_rules | `(tactic| walk_at "w") => `(tactic| repeat (walk_at "w1"))


section
variable {P : Program} {w : World} {K : PySem.W.Frag} {mg : Str → Option Value} {base : Heap} {f : Addr} {fd : FuncData}
/-! ### the bag is made -/
def spBag (K : PySem.W.Frag) : Sp := fun vs H Q _ => ∃ (a : Addr) (ns : List Int), vs = [.ref a] ∧ SqL K H a (ns.map V.int) ∧ ns.length ≤ 63 ∧ ∀ b H', Same H H' → BagOk H' b → Q (.ref b) H'
theorem cut_int (ns : List Int) (lo hi : Option Int) : ∃ ms : List Int, cutV (ns.map V.int) lo hi = ms.map V.int ∧ ms.length ≤ ns.length := by
  refine ⟨(ns.drop (HT.sIx (ns.map V.int).length 0 lo)).take (HT.sIx (ns.map V.int).length (ns.map V.int).length hi - HT.sIx (ns.map V.int).length 0 lo), ?_, ?_⟩
  · unfold cutV
    rw [List.map_take, List.map_drop]
  · rw [List.length_take, List.length_drop]
    omega
theorem ok_Lbag (F : FnP K "_law_bag" s_Lbag f fd) (hm : mg "_law_bag" = some (.ref f)) (f_len : mg "len" = none) (f_list : mg "list" = none) : Callee P w K mg base CX0 "_law_bag" 1 [] (spBag K) := by
  refine ⟨f, fd, _, [], F.ok sc_Lbag (fun vs H Q E h => ?hl) (fun cdv A outer s H vs Q E hr h => ⟨_, PSs.nox (pss_seal (pss_cons (ps_set (i := 1) sc_Lbag.nd rfl (by first | exact Or.inl rfl | exact Or.inr rfl) (pe_callTy (call_listK K) (by rfl) f_list (by decide +kernel) (pa_cons (pe_slice (sl_k K) (pv 0) po_none (po_some pe_int)) pa_nil)))
      (pss_cons (ps_set (i := 2) sc_Lbag.nd rfl (by first | exact Or.inl rfl | exact Or.inr rfl) (pe_op (op_addK K) pe_int (pe_callB (call_lenK K) (by rfl) f_len PySem.boot_len (pa_cons (pv 1) pa_nil))))
      (pss_cons (ps_for PassesOwn.never rfl (pi_listK K (pv 1)) (pg_name (i := 3) sc_Lbag.nd rfl (by first | exact Or.inl rfl | exact Or.inr rfl)) (pss_one (ps_set (i := 2) sc_Lbag.nd rfl (by first | exact Or.inl rfl | exact Or.inr rfl) (pe_op op_mod (pe_op (op_addK K) (pe_op op_mul (pv 2) pe_int) (pv 3)) pe_int))))
      (pss_one (ps_ret (pe_lst (pa_cons (pv 1) (pa_cons pe_int (pa_cons pe_int (pa_cons (pv 2) pa_nil))))))))))), ?rd⟩), hm, F.kp, F.bindsN fun _ _ _ _ _ _ us hl => match us, hl with | [_], _ => rfl, .nil⟩
  case hl =>
    obtain ⟨b, u, rfl, _⟩ := h
    rfl
  case rd =>
    obtain ⟨a, ns, rfl, hS, hn, q⟩ := h
    refine k_start (σ' := [some _, none, none, none]) rfl ?_
    unfold tSeal
    walk_at "g"
    obtain ⟨ms, em, lm⟩ := cut_int ns none (some 63)
    refine k_sl_l hS (fun p1 H1 n1 s1 e1 => ?_)
    rw [em] at e1
    walk_at "g"
    refine k_list_l (sq_l e1) (fun p2 H2 n2 s2 e2 => ?_)
    walk_at "g"
    refine k_nFor (walk_list (xs := ms.map V.int)) (fun i σ H' => ∃ (k : Int) (y : Option V), σ = [some (.ref a), some (.ref p2), some (.int k), y] ∧ H' = H2) ⟨_, none, rfl, rfl⟩ (fun i σ H' _ h => ?_) (fun i x σ Ha Hb hi h hy => ?_) (fun σ H' h => ?_)
    · obtain ⟨k, y, rfl, rfl⟩ := h
      exact sq_l e2
    · obtain ⟨k, y, rfl, rfl⟩ := h
      obtain ⟨rfl, hx⟩ := hy
      obtain ⟨m, rfl⟩ : ∃ m, x = V.int m := by
        rw [List.getElem?_map] at hx
        cases e : ms[i]? with
        | none => rw [e] at hx; cases hx
        | some m => rw [e] at hx; exact ⟨m, (Option.some.inj hx).symm⟩
      walk_at "g"
      exact ⟨_, _, rfl, rfl⟩
    · obtain ⟨k, y, rfl, rfl⟩ := h
      walk_at "g"
      refine k_nLst (by walk_at "sz") (fun p3 H3 n3 s3 e3 => ?_)
      refine ⟨p3, p2, 0, 0, k, rfl, by decide, e3, q p3 _ (sm_mut (s1.trans (s2.trans s3)) ((s1.trans s2).free n3)) ⟨p2, ms, upd_same, ?_⟩⟩
      rw [upd_ne (ne_of_none e2 n3)]
      exact s3 _ _ e2
/-! ### a draw -/
def spPull : Sp := fun vs H Q _ => ∃ (b : Addr) (u : Int), vs = [.ref b, .int u] ∧ BagOk H b ∧ 0 < u ∧ u.natAbs.log2 < 9000 ∧ ∀ n, 0 ≤ n → n < u → Q (.int n) H
theorem ok_Lpull (F : FnP K "_law_pull" s_Lpull f fd) (hm : mg "_law_pull" = some (.ref f)) (f_len : mg "len" = none) : Callee P w K mg base CX0 "_law_pull" 1 [] spPull := by
  refine ⟨f, fd, _, [], F.ok sc_Lpull (fun vs H Q E h => ?hl) (fun cdv A outer s H vs Q E hr h => ⟨_, PSs.nox (pss_bag (pss_cons (ps_if (pt_cmpR op_lt (pe_ix (ix_k K) (pv 0) pe_int (fun _ _ => rfl)) pe_int (nomark _)) (pss_cons (ps_asg (pe_op (op_addK K) (pe_ix (ix_k K) (pv 0) pe_int (fun _ _ => rfl)) pe_int) (pg_sub (pv 0) pe_int set_list))
      (pss_cons (ps_set (i := 3) sc_Lpull.nd rfl (by first | exact Or.inl rfl | exact Or.inr rfl) (pe_op (op_addK K) (pe_ix (ix_k K) (pv 0) pe_int (fun _ _ => rfl)) (pe_op op_mul (pe_ix (ix_k K) (pv 0) pe_int (fun _ _ => rfl)) pe_int)))
      (pss_cons (ps_if (pt_cmpR op_leU (pe_ix (ix_k K) (pv 0) pe_int (fun _ _ => rfl)) (pe_callB (call_lenK K) (by rfl) f_len PySem.boot_len (pa_cons (pe_ix (ix_k K) (pv 0) pe_int (fun _ _ => rfl)) pa_nil)) (nomark _)) (pss_one (ps_set (i := 3) sc_Lpull.nd rfl (by first | exact Or.inl rfl | exact Or.inr rfl) (pe_ix (ix_k K) (pe_ix (ix_k K) (pv 0) pe_int (fun _ _ => rfl)) (pe_op op_sub (pe_ix (ix_k K) (pv 0) pe_int (fun _ _ => rfl)) pe_int) (fun _ _ => rfl)))) pss_nil)
      (pss_cons (ps_if (PW.pt (pw_or (pt_cmpR op_gt (pe_ix (ix_k K) (pv 0) pe_int (fun _ _ => rfl)) (pe_callB (call_lenK K) (by rfl) f_len PySem.boot_len (pa_cons (pe_ix (ix_k K) (pv 0) pe_int (fun _ _ => rfl)) pa_nil)) (nomark _)) (pw_or1 (pt_cmpR op_lt (pv 3) (pe_op op_pow pe_int pe_int) (nomark _))))) (pss_cons (ps_set (i := 4) sc_Lpull.nd rfl (by first | exact Or.inl rfl | exact Or.inr rfl) (pe_op op_mod (pe_op (op_addK K) (pe_op (op_addK K) (pe_op op_mul (pv 3) pe_int) (pe_op op_mul (pe_ix (ix_k K) (pv 0) pe_int (fun _ _ => rfl)) pe_int)) (pe_ix (ix_k K) (pv 0) pe_int (fun _ _ => rfl))) pe_int))
      (pss_cons (ps_set (i := 5) sc_Lpull.nd rfl (by first | exact Or.inl rfl | exact Or.inr rfl) (pe_op op_mod (pe_op (op_addK K) (pe_op op_mul (pv 4) (pv 4)) (pe_ix (ix_k K) (pv 0) pe_int (fun _ _ => rfl))) pe_int))
      (pss_one (ps_ret (pe_op op_mod (pe_op op_fdivW (pe_op op_mod (pe_op (op_addK K) (pe_op op_mul (pv 5) pe_int) (pv 4)) pe_int) pe_int) (pv 1)))))) pss_nil)
      (pss_one (ps_asg (pv 3) (pg_sub (pv 0) pe_int set_list))))))) pss_nil)
      (pss_cons (ps_set (i := 2) sc_Lpull.nd rfl (by first | exact Or.inl rfl | exact Or.inr rfl) (pe_op op_mod (pe_ix (ix_k K) (pv 0) pe_int (fun _ _ => rfl)) (pv 1)))
      (pss_cons (ps_asg (pe_op op_fdivW (pe_ix (ix_k K) (pv 0) pe_int (fun _ _ => rfl)) (pv 1)) (pg_sub (pv 0) pe_int set_list))
      (pss_one (ps_ret (pv 2))))))), ?rd⟩), hm, F.kp, F.bindsN fun _ _ _ _ _ _ us hl => match us, hl with | [_, _], _ => rfl, .nil⟩
  case hl =>
    obtain ⟨b, u, rfl, _⟩ := h
    rfl
  case rd =>
    obtain ⟨b, u, rfl, ⟨c, ns, hb, hc⟩, hu, hu2, q⟩ := h
    refine ⟨b, c, hb, fun i1 i2 i3 hi => ?_⟩
    have hcb : c ≠ b := ne_of hc hb (fun z => by cases z)
    refine k_start (σ' := [some _, some _, none, none, none, none]) rfl ?_
    walk_at "g"
    have m0 : ∀ n : Int, 0 ≤ n % u := fun n => Int.emod_nonneg n (by omega)
    have m1 : ∀ n : Int, n % u < u := fun n => Int.emod_lt_of_pos n hu
    have hdv : ∀ n : Int, CDivW n u := fun n => ⟨hu, hu2⟩
    have fin : ∀ (j1 j2 j3 n : Int) (Hx : Hp), 0 ≤ j1 → 0 ≤ n → n < u → Hx b = some (.lst (bagL c j1 j2 j3)) → upd Hx b (bagO b c) = H → ∃ j1 j2 j3, 0 ≤ j1 ∧ Hx b = some (.lst (bagL c j1 j2 j3)) ∧ Q (.int n) (upd Hx b (bagO b c)) := by
      intro j1 j2 j3 n Hx hj hn0 hn1 hx hh
      refine ⟨j1, j2, j3, hj, hx, ?_⟩
      rw [hh]
      exact q n hn0 hn1
    refine k_dec (fun h2 => ?_) (fun h2 => ?_)
    · walk_at "g"
      refine k_dec (fun h3 => ?_) (fun h3 => ?_)
      · walk_at "g"
        have hl : (ns.map V.int).length = ns.length := List.length_map _
        rw [hl] at h3
        have hk : (i1 + 1 - 1).toNat < ns.length := by omega
        refine k_ix_l (xs := ns.map V.int) (v := .int (ns[(i1 + 1 - 1).toNat])) (by walk_at "sq") (at_of (j := (i1 + 1 - 1).toNat) (by omega) (by rw [List.getElem?_map, List.getElem?_eq_getElem hk]; rfl)) ?_
        walk_at "g"
        refine k_dec (fun h4 => absurd h4 (by rw [hl]; omega)) (fun h4 => ?_)
        walk_at "g"
        refine k_dec (fun h5 => ?_) (fun h5 => ?_)
        · walk_at "g"
          refine k_mul (.inl ⟨by omega, by omega⟩) ?_
          walk_at "g"
          exact fin (i1 + 1) i2 i3 _ _ (by omega) (m0 _) (m1 _) upd_same (by simp only [upd_upd, upd_id hb])
        · walk_at "g"
          refine k_I (hdv _) ?_
          walk_at "g"
          exact fin (i1 + 1) _ i3 _ _ (by omega) (m0 _) (m1 _) upd_same (by simp only [upd_upd, upd_id hb])
      · walk_at "g"
        refine k_dec (fun h4 => ?_) (fun h4 => absurd h4 (by omega))
        walk_at "g"
        refine k_mul (.inl ⟨by omega, by omega⟩) ?_
        walk_at "g"
        exact fin (i1 + 1) i2 i3 _ _ (by omega) (m0 _) (m1 _) upd_same (by simp only [upd_upd, upd_id hb])
    · walk_at "g"
      refine k_I (hdv _) ?_
      walk_at "g"
      exact fin i1 _ i3 _ _ hi (m0 _) (m1 _) upd_same (by simp only [upd_upd, upd_id hb])
theorem log_lt {u : Int} (h : u < 2 ^ 250) (h0 : 0 < u) : u.natAbs.log2 < 9000 := by
  have h1 : u.natAbs < 2 ^ 250 := by
    have e : ((u.natAbs : Nat) : Int) = u := Int.natAbs_of_nonneg (by omega)
    have h2 : ((u.natAbs : Nat) : Int) < ((2 ^ 250 : Nat) : Int) := by
      rw [e]
      exact h
    exact Int.ofNat_lt.mp h2
  exact Nat.lt_of_lt_of_le ((Nat.log2_lt (by omega)).mpr h1) (by decide)
theorem k_pull {H : Hp} {Q : VK} {E : XK} {b : Addr} {u : Int} (hb : BagOk H b) (h0 : 0 < u) (h1 : u < 2 ^ 250) (q : ∀ n, 0 ≤ n → n < u → Q (.int n) H) : spPull ([.ref b, .int u] ++ []) H Q E := ⟨b, u, rfl, hb, h0, log_lt h1 h0, q⟩
/-! ### one of a row -/
def spOne (K : PySem.W.Frag) : Sp := fun vs H Q _ => ∃ (b : Addr) (r : V), vs = [.ref b, r] ∧ BagOk H b ∧
  ((∃ a xs, r = .ref a ∧ SqL K H a xs ∧ 0 < xs.length ∧ xs.length ≤ 100000 ∧ ∀ x ∈ xs, Q x H) ∨ (∃ z : Str, r = .str z ∧ 0 < z.length ∧ z.length ≤ 100000 ∧ ∀ c ∈ z.cps.toList, Q (.str ⟨#[c]⟩) H))
theorem ok_Lone (F : FnP K "_law_one" s_Lone f fd) (hm : mg "_law_one" = some (.ref f)) (f_len : mg "len" = none) (c_Lpull : Callee P w K mg base CX0 "_law_pull" 1 [] spPull) : Callee P w K mg base CX0 "_law_one" 2 [] (spOne K) := by
  refine ⟨f, fd, _, [], F.ok sc_Lone (fun vs H Q E h => ?hl) (fun cdv A outer s H vs Q E hr h => ⟨_, PSs.nox (pss_one (ps_ret (pe_ix (ix_k K) (pv 1) (pe_cl c_Lpull hr (pa_cons (pv 0) (pa_cons (pe_callB (call_lenK K) (by rfl) f_len PySem.boot_len (pa_cons (pv 1) pa_nil)) pa_nil)) pass0) (fun _ _ => rfl)))), ?rd⟩), hm, F.kp, F.bindsN fun _ _ _ _ _ _ us hl => match us, hl with | [_, _], _ => rfl, .nil⟩
  case hl =>
    obtain ⟨b, u, rfl, _⟩ := h
    rfl
  case rd =>
    obtain ⟨b, r, rfl, hb, h⟩ := h
    refine k_start (σ' := [some _, some _]) rfl ?_
    rcases h with ⟨a, xs, rfl, hx, h0, h1, q⟩ | ⟨z, rfl, h0, h1, q⟩
    · walk_at "g"
      refine k_pull hb (by omega) (by omega) (fun n n0 n1 => ?_)
      have hk : n.toNat < xs.length := by omega
      exact k_ix_l hx (at_of (j := n.toNat) (by omega) (List.getElem?_eq_getElem hk)) (q _ (List.getElem_mem hk))
    · walk_at "g"
      refine k_len_s h1 ?_
      walk_at "g"
      have hz : z.length = z.cps.toList.length := by
        show z.cps.size = _
        simp
      refine k_pull hb (by omega) (by omega) (fun n n0 n1 => ?_)
      have hk : n.toNat < z.cps.toList.length := by omega
      refine k_ix_s h1 (c := z.cps.toList[n.toNat]) ?_ (q _ (List.getElem_mem hk))
      unfold atI ixN
      rw [if_pos n0, if_pos (by omega)]
      exact List.getElem?_eq_getElem hk
/-! ### told alike -/
def spSame (K : PySem.W.Frag) (j : Nat) : Sp := fun vs H Q _ => ∃ (x y : V) (d : PyData), vs = [x, y] ∧ Dp K H x d ∧ Dp K H y d ∧ Fit j d ∧ ∀ H', Same H H' → Q (.bl true) H'
theorem step_Lsame {j : Nat} (F : FnP K "_law_same" s_Lsame f fd) (hm : mg "_law_same" = some (.ref f)) (f_len : mg "len" = none) (f_isinstance : mg "isinstance" = none) (f_list : mg "list" = none) (f_tuple : mg "tuple" = none) (f_repr : mg "repr" = none) (f_zip : mg "zip" = none) (f_all : mg "all" = none)
    (c_Lsame : Callee P w K mg base CX0 "_law_same" j [] (spSame K j)) : Callee P w K mg base CX0 "_law_same" (j + 1) [] (spSame K (j + 1)) := by
  refine ⟨f, fd, _, [], F.ok sc_Lsame (fun vs H Q E h => ?hl) (fun cdv A outer s H vs Q E hr h => ⟨_, PSs.nox (pss_cons (ps_if (pt_not (pt_val (pe_callB (call_isiK K) (by rfl) f_isinstance (by decide +kernel) (pa_cons (pv 1) (pa_cons (pe_tup (pa_cons (pe_bltn (v := .ty "list") (by rfl) f_list (by decide +kernel) rfl) (pa_cons (pe_bltn (v := .ty "tuple") (by rfl) f_tuple (by decide +kernel) rfl) pa_nil))) pa_nil))))) (pss_one (ps_ret (pe_cmpR (op_eqK K hr.units) (pe_callB call_reprU (by rfl) f_repr (by decide +kernel) (pa_cons (pv 0) pa_nil)) (pe_callB call_reprU (by rfl) f_repr (by decide +kernel) (pa_cons (pv 1) pa_nil)) (nomark _)))) pss_nil)
      (pss_cons (ps_if (PW.pt (pw_or (pt_cmpR (op_neK K hr.units) (pe_callB (call_isiK K) (by rfl) f_isinstance (by decide +kernel) (pa_cons (pv 1) (pa_cons (pe_bltn (v := .ty "list") (by rfl) f_list (by decide +kernel) rfl) pa_nil))) (pe_callB (call_isiK K) (by rfl) f_isinstance (by decide +kernel) (pa_cons (pv 0) (pa_cons (pe_bltn (v := .ty "list") (by rfl) f_list (by decide +kernel) rfl) pa_nil))) (nomark _)) (pw_or1 (pt_cmpR (op_neK K hr.units) (pe_callB (call_isiK K) (by rfl) f_isinstance (by decide +kernel) (pa_cons (pv 1) (pa_cons (pe_bltn (v := .ty "tuple") (by rfl) f_tuple (by decide +kernel) rfl) pa_nil))) (pe_callB (call_isiK K) (by rfl) f_isinstance (by decide +kernel) (pa_cons (pv 0) (pa_cons (pe_bltn (v := .ty "tuple") (by rfl) f_tuple (by decide +kernel) rfl) pa_nil))) (nomark _))))) (pss_one (ps_ret pe_bl)) pss_nil)
      (pss_cons (ps_setLc (i := 2) (own := [("_law_one_here", 3), ("_law_other", 4)]) rfl sc_Lsame.nd rfl rfl (sw_true rfl rfl rfl (by decide +kernel)) (pi_zipK K (by rfl) f_zip (pa_cons (pv 0) (pa_cons (pv 1) pa_nil))) (blkOk_by (N := ["_law_found", "_law_due", "_law_same_here", "_law_one_here", "_law_other"]) (sc := defScope s_Lsame) (by decide +kernel)) (fun _ _ _ _ _ => (pg_tupK K 2 (by rfl) (pgs_cons (pg_name (i := 3) sc_Lsame.nd rfl (by first | exact Or.inl rfl | exact Or.inr rfl)) (pgs_cons (pg_name (i := 4) sc_Lsame.nd rfl (by first | exact Or.inl rfl | exact Or.inr rfl)) pgs_nil)))) (fun _ _ _ _ _ => pts_nil) (fun _ _ _ _ _ => (pe_cl c_Lsame hr (pa_cons (pv 3) (pa_cons (pv 4) pa_nil)) pass0)))
      (pss_one (ps_ret (pe_and (pe_cmpR (op_eqK K hr.units) (pe_callB (call_lenK K) (by rfl) f_len PySem.boot_len (pa_cons (pv 0) pa_nil)) (pe_callB (call_lenK K) (by rfl) f_len PySem.boot_len (pa_cons (pv 1) pa_nil)) (nomark _)) (pe_one (pe_callB (cr_allK K) (by rfl) f_all (by decide +kernel) (pa_cons (pv 2) pa_nil))))))))), ?rd⟩), hm, F.kp, F.bindsN fun _ _ _ _ _ _ us hl => match us, hl with | [_, _], _ => rfl, .nil⟩
  case hl =>
    obtain ⟨b, u, d, rfl, _⟩ := h
    rfl
  case rd =>
    obtain ⟨x, y, d, rfl, hx, hy, fit, q⟩ := h
    refine k_start (σ' := [some _, some _, none, none, none]) rfl ?_
    walk_at "g"
    refine k_nTup (by walk_at "sz") (fun p1 H1 n1 s1 e1 => ?_)
    refine k_isiLT (dp_sm s1 hy) e1 ?_
    walk_at "g"
    cases hs : isSeqD d with
    | false =>
      refine k_false ?_
      obtain ⟨z, hz⟩ := repr_of_dp hx fit hs
      have exy := dp_scal hx hy hs
      subst exy
      walk_at "g"
      refine k_repr hz ?_
      walk_at "g"
      refine k_repr hz ?_
      walk_at "g"
      rw [decide_eq_true rfl]
      exact q _ s1
    | true =>
      refine k_true ?_
      walk_at "g"
      refine k_isiL (dp_sm s1 hy) ?_
      walk_at "g"
      refine k_isiL (dp_sm s1 hx) ?_
      walk_at "g"
      rw [decide_eq_true rfl]
      refine k_true ?_
      walk_at "g"
      refine k_isiTu (dp_sm s1 hy) ?_
      walk_at "g"
      refine k_isiTu (dp_sm s1 hx) ?_
      walk_at "g"
      rw [decide_eq_true rfl]
      refine k_true ?_
      walk_at "g"
      cases hx with
      | non => cases hs
      | bl b => cases hs
      | int i => cases hs
      | str z => cases hs
      | @lst a xs ds hxs rx =>
        cases hy with
        | @lst b ys _ hys ry =>
        refine k_nItzL (sm_l s1 hxs) (sm_l s1 hys) ?_
        refine k_nLc (walk_zip (xs := xs) (ys := ys) rfl) (fun H' s2 => ⟨sm_l (s1.trans s2) hxs, sm_l (s1.trans s2) hys⟩) (fun i ws => ws = List.replicate i (.bl true)) rfl (fun i ws hi hw => ?hz) (fun i v Ha Hb ws Kp Ks hi sa hws hy2 hKp hKs => ?ht) (fun p Hp ws np sp ep hws => ?he)
        case hz =>
          rw [hw, List.length_replicate]
          have := dpall_len rx
          have := fit.1
          omega
        case ht =>
          obtain ⟨T, xi, yi, rfl, nT, rfl, ex, ey⟩ := hy2
          have sT : Same Ha (upd Ha T (.tup [xi, yi])) := sm_new nT
          have eT : (upd Ha T (.tup [xi, yi])) T = some (.tup [xi, yi]) := upd_same
          generalize upd Ha T (.tup [xi, yi]) = Hb at sT eT
          obtain ⟨di, e1, h1⟩ := dpall_get rx ex
          obtain ⟨dj, e2, h2⟩ := dpall_get ry ey
          rw [e1] at e2
          cases e2
          walk_at "g"
          refine ⟨rfl, ?_⟩
          walk_at "g"
          exact ⟨xi, yi, di, rfl, dp_sm ((s1.trans sa).trans sT) h1, dp_sm ((s1.trans sa).trans sT) h2, fit.2 _ (List.mem_of_getElem? e1), fun H' s' => hKp _ _ (sT.trans s') (by rw [hws, List.replicate_succ'])⟩
        case he =>
          walk_at "g"
          rw [dpall_len rx, dpall_len ry, decide_eq_true rfl]
          walk_at "g"
          rw [hws] at ep
          refine k_all (bs := List.replicate (min xs.length ys.length) true) (sq_l (by rw [ep, List.map_replicate])) ?_
          have et : (List.replicate (min xs.length ys.length) true).all id = true := by simp
          rw [et]
          walk_at "g"
          exact q _ (s1.trans sp)
      | @tup a xs ds hxs rx =>
        cases hy with
        | @tup b ys _ hys ry =>
        refine k_nItzT (sm_t s1 hxs) (sm_t s1 hys) ?_
        refine k_nLc (walk_zipT (xs := xs) (ys := ys) rfl) (fun H' s2 => ⟨sm_t (s1.trans s2) hxs, sm_t (s1.trans s2) hys⟩) (fun i ws => ws = List.replicate i (.bl true)) rfl (fun i ws hi hw => ?hz) (fun i v Ha Hb ws Kp Ks hi sa hws hy2 hKp hKs => ?ht) (fun p Hp ws np sp ep hws => ?he)
        case hz =>
          rw [hw, List.length_replicate]
          have := dpall_len rx
          have := fit.1
          omega
        case ht =>
          obtain ⟨T, xi, yi, rfl, nT, rfl, ex, ey⟩ := hy2
          have sT : Same Ha (upd Ha T (.tup [xi, yi])) := sm_new nT
          have eT : (upd Ha T (.tup [xi, yi])) T = some (.tup [xi, yi]) := upd_same
          generalize upd Ha T (.tup [xi, yi]) = Hb at sT eT
          obtain ⟨di, e1, h1⟩ := dpall_get rx ex
          obtain ⟨dj, e2, h2⟩ := dpall_get ry ey
          rw [e1] at e2
          cases e2
          walk_at "g"
          refine ⟨rfl, ?_⟩
          walk_at "g"
          exact ⟨xi, yi, di, rfl, dp_sm ((s1.trans sa).trans sT) h1, dp_sm ((s1.trans sa).trans sT) h2, fit.2 _ (List.mem_of_getElem? e1), fun H' s' => hKp _ _ (sT.trans s') (by rw [hws, List.replicate_succ'])⟩
        case he =>
          walk_at "g"
          rw [dpall_len rx, dpall_len ry, decide_eq_true rfl]
          walk_at "g"
          rw [hws] at ep
          refine k_all (bs := List.replicate (min xs.length ys.length) true) (sq_l (by rw [ep, List.map_replicate])) ?_
          have et : (List.replicate (min xs.length ys.length) true).all id = true := by simp
          rw [et]
          walk_at "g"
          exact q _ (s1.trans sp)
theorem base_Lsame (F : FnP K "_law_same" s_Lsame f fd) (hm : mg "_law_same" = some (.ref f)) : Callee P w K mg base CX0 "_law_same" 0 [] (spSame K 0) := by
  refine ⟨f, fd, ["_law_found", "_law_due"], [], ⟨fun vs H Q E h => ?_, fun A outer s H args us vs Q E hr e0 hb r h => ?_⟩, hm, F.kp, F.bindsN fun _ _ _ _ _ _ us hl => match us, hl with | [_, _], _ => rfl, .nil⟩
  · obtain ⟨x, y, d, _, _, _, fit, _⟩ := h
    exact fit.elim
  · obtain ⟨x, y, d, _, _, _, fit, _⟩ := h
    exact fit.elim
theorem ok_Lsame (F : FnP K "_law_same" s_Lsame f fd) (hm : mg "_law_same" = some (.ref f)) (f_len : mg "len" = none) (f_isinstance : mg "isinstance" = none) (f_list : mg "list" = none) (f_tuple : mg "tuple" = none) (f_repr : mg "repr" = none) (f_zip : mg "zip" = none) (f_all : mg "all" = none) :
    ∀ j, Callee P w K mg base CX0 "_law_same" j [] (spSame K j)
  | 0 => base_Lsame F hm
  | j + 1 => step_Lsame F hm f_len f_isinstance f_list f_tuple f_repr f_zip f_all (ok_Lsame F hm f_len f_isinstance f_list f_tuple f_repr f_zip f_all j)
/-! ### letters -/
def small (c : Nat) : Prop := 97 ≤ c ∧ c ≤ 122
/-- a rising text of small letters -/
def Rise (cs : List Nat) : Prop := cs.Pairwise (· < ·) ∧ ∀ c ∈ cs, small c
def spLetters : Sp := fun vs H Q _ => ∃ (b : Addr) (m : Nat), vs = [.ref b, .int (m : Nat)] ∧ BagOk H b ∧ m ≤ 3 ∧ ∀ (cs : List Nat) H', Rise cs → cs.length = m → Same H H' → Q (.str (tx cs)) H'
theorem abc_at : ∀ n : Fin 26, (Str.ofString "abcdefghijklmnopqrstuvwxyz").cps.toList[n.val]? = some (97 + n.val) := by decide +kernel
theorem abc_len : (Str.ofString "abcdefghijklmnopqrstuvwxyz").length = 26 := by decide +kernel
def lcode (sp st : Int) (k : Nat) : Nat := 97 + ((sp + st * (k : Int)) % 26).toNat
theorem lcode_inj {sp st : Int} {i j : Nat} (h0 : 1 ≤ st) (h1 : st ≤ 8) (hi : i < j) (hj : j < 3) : lcode sp st i ≠ lcode sp st j := by
  unfold lcode
  have : (i = 0 ∧ j = 1) ∨ (i = 0 ∧ j = 2) ∨ (i = 1 ∧ j = 2) := by omega
  rcases this with ⟨rfl, rfl⟩ | ⟨rfl, rfl⟩ | ⟨rfl, rfl⟩ <;> omega
theorem lcodes_nodup {sp st : Int} {m : Nat} (h0 : 1 ≤ st) (h1 : st ≤ 8) (hm : m ≤ 3) : ((List.range m).map (lcode sp st)).Nodup := by
  have : m = 0 ∨ m = 1 ∨ m = 2 ∨ m = 3 := by omega
  have e01 := lcode_inj (sp := sp) h0 h1 (i := 0) (j := 1) (by omega) (by omega)
  have e02 := lcode_inj (sp := sp) h0 h1 (i := 0) (j := 2) (by omega) (by omega)
  have e12 := lcode_inj (sp := sp) h0 h1 (i := 1) (j := 2) (by omega) (by omega)
  rcases this with rfl | rfl | rfl | rfl
  · simp
  · simp [List.range_succ]
  · simp [List.range_succ, e01]
  · simp [List.range_succ, e01, e02, e12]
theorem ok_Lletters (F : FnP K "_law_letters" s_Lletters f fd) (hm : mg "_law_letters" = some (.ref f)) (f_range : mg "range" = none) (f_sorted : mg "sorted" = none) (c_Lpull : Callee P w K mg base CX0 "_law_pull" 1 [] spPull) : Callee P w K mg base CX0 "_law_letters" 2 [] spLetters := by
  refine ⟨f, fd, _, [], F.ok sc_Lletters (fun vs H Q E h => ?hl) (fun cdv A outer s H vs Q E hr h => ⟨_, PSs.nox (pss_cons (ps_set (i := 2) sc_Lletters.nd rfl (by first | exact Or.inl rfl | exact Or.inr rfl) (pe_cl c_Lpull hr (pa_cons (pv 0) (pa_cons pe_int pa_nil)) pass0))
      (pss_cons (ps_set (i := 3) sc_Lletters.nd rfl (by first | exact Or.inl rfl | exact Or.inr rfl) (pe_op (op_addK K) pe_int (pe_cl c_Lpull hr (pa_cons (pv 0) (pa_cons pe_int pa_nil)) pass0)))
      (pss_one (ps_ret (pe_joinK K pe_str (pe_callB (cr_sortedSK K) (by rfl) f_sorted (by decide +kernel) (pa_cons (pe_lc (own := [("_law_k", 4)]) rfl sc_Lletters.nd (pi_range1 (by rfl) f_range (pa_cons (pv 1) pa_nil)) (blkOk_by (N := ["_law_bag_here", "_law_many", "_law_spot", "_law_step", "_law_k"]) (sc := defScope s_Lletters) (by decide +kernel)) (fun _ _ _ _ _ => (pg_name (i := 4) sc_Lletters.nd rfl (by first | exact Or.inl rfl | exact Or.inr rfl))) (fun _ _ _ _ _ => pts_nil) (fun _ _ _ _ _ => (pe_ix (ix_k K) pe_str (pe_op op_mod (pe_op (op_addK K) (pv 2) (pe_op op_mul (pv 3) (pv 4))) pe_int) (fun _ _ => rfl)))) pa_nil))))))), ?rd⟩), hm, F.kp, F.bindsN fun _ _ _ _ _ _ us hl => match us, hl with | [_, _], _ => rfl, .nil⟩
  case hl =>
    obtain ⟨b, u, rfl, _⟩ := h
    rfl
  case rd =>
    obtain ⟨b, m, rfl, hb, hm3, q⟩ := h
    refine k_start (σ' := [some _, some _, none, none, none]) rfl ?_
    walk_at "g"
    refine k_pull hb (by omega) (by omega) (fun s0 p0 p1 => ?_)
    walk_at "g"
    refine k_pull hb (by omega) (by omega) (fun st q0 q1 => ?_)
    walk_at "g"
    refine k_nLc walk_range (fun _ _ => trivial) (fun i ws => ws = (List.range i).map fun k => V.str (sg (lcode s0 (1 + st) k))) rfl (fun i ws hi hw => ?hz) (fun i v Ha Hb ws Kp Ks hi sa hws hy2 hKp hKs => ?ht) (fun p Hp ws np sp ep hws => ?he)
    case hz =>
      rw [hw, List.length_map, List.length_range]
      omega
    case ht =>
      obtain ⟨rfl, rfl⟩ := hy2
      walk_at "g"
      refine ⟨rfl, ?_⟩
      walk_at "g"
      refine k_mul (.inl ⟨by omega, by omega⟩) ?_
      walk_at "g"
      have m0 : 0 ≤ (s0 + (1 + st) * (0 + (i : Int))) % 26 := Int.emod_nonneg _ (by decide)
      have m1 : (s0 + (1 + st) * (0 + (i : Int))) % 26 < 26 := Int.emod_lt_of_pos _ (by decide)
      refine k_ix_s (c := lcode s0 (1 + st) i) (by rw [abc_len]; decide) ?_ (hKp _ _ (Same.refl _) ?_)
      · have h26 := abc_at ⟨((s0 + (1 + st) * (0 + (i : Int))) % 26).toNat, by omega⟩
        refine at_n (j := ((s0 + (1 + st) * (0 + (i : Int))) % 26).toNat) (by omega) ?_
        rw [h26]
        show some (97 + ((s0 + (1 + st) * (0 + (i : Int))) % 26).toNat) = some (97 + ((s0 + (1 + st) * (i : Int)) % 26).toNat)
        rw [Int.zero_add]
      · rw [hws, List.range_succ, List.map_append]
        rfl
    case he =>
      walk_at "g"
      refine k_sortedS (xs := (List.range m).map fun k => sg (lcode s0 (1 + st) k)) (sq_l (by rw [ep, hws, List.map_map]; rfl)) (by rw [List.length_map, List.length_range]; omega) (fun ys p2 H2 pe so n2 s2 e2 => ?_)
      have pe2 : ys.Perm (((List.range m).map (lcode s0 (1 + st))).map sg) := by
        rw [List.map_map]
        exact pe
      obtain ⟨ds, rfl, pd⟩ := perm_sgs pe2
      have le := pd.length_eq
      rw [List.length_map, List.length_range] at le
      have nd := pd.nodup_iff.mpr (lcodes_nodup (sp := s0) (st := 1 + st) (by omega) (by omega) hm3)
      walk_at "g"
      refine k_join (ys := ds.map sg) (sq_l e2) ?_ ?_
      · rw [List.map_map, List.length_map, show (Str.length ∘ sg) = fun _ => 1 from rfl, show (Str.ofString "").length = 0 by decide +kernel]
        have : (ds.map fun _ => 1).sum = ds.length := by
          clear pd nd so e2 pe pe2 le
          induction ds with
          | nil => rfl
          | cons c r ih => rw [List.map_cons, List.sum_cons, ih, List.length_cons]; omega
        rw [this]
        omega
      · rw [join_sgs]
        refine q ds _ ⟨lt_of_le_nodup (sortedS_sgs so) nd, fun c hc => ?_⟩ le (sp.trans s2)
        obtain ⟨k, _, rfl⟩ := List.mem_map.mp (pd.mem_iff.mp hc)
        unfold small lcode
        omega
end
end Lw
set_option autoImplicit true
set_option pp.maxSteps 1200
set_option Elab.async false
set_option linter.all false
set_option maxRecDepth 100000
set_option maxHeartbeats 1000000
namespace Lw
open PySem PySem.Spec PyProof.Rows L2 Gk
open PySem.W (EachIs AllAlike Sortable dataLe dataLt alike keyToks)

local macro_rules | `(tactic| walk_at "hp") => `(tactic| first | assumption | exact upd_same | (refine' (upd_ne ?n).trans ?h; (case n => assumption); (case h => walk_at "hp")) | (refine' sm_get ?s ?h; (case s => assumption); (case h => walk_at "hp")))
local macro_rules | `(tactic| walk_at "sq") => `(tactic| first | assumption | (refine' sq_l ?h; (case h => walk_at "hp")) | (refine' sm_l ?s ?h; (case s => assumption); (case h => walk_at "sq")))
local macro_rules | `(tactic| walk_at "st") => `(tactic| first | assumption | (refine' sq_t ?h; (case h => walk_at "hp")) | (refine' sm_t ?s ?h; (case s => assumption); (case h => walk_at "st")))
local macro_rules | `(tactic| walk_at "bg") => `(tactic| first | assumption | (refine' BagOk.sm ?s ?h; (case s => assumption); (case h => walk_at "bg")))
local macro_rules | `(tactic| walk_at "sm") => `(tactic| first | assumption | exact Same.refl _ | (refine' Same.trans ?h ?s; (case s => assumption); (case h => walk_at "sm")))
local macro_rules | `(tactic| walk_at "hs") => `(tactic| first | assumption | (refine' HsAt.sm ?s ?h; (case s => assumption); (case h => walk_at "hs")))
local macro_rules | `(tactic| walk_at "ms") => `(tactic| first | assumption | (refine' MAt.sm ?s ?h; (case s => assumption); (case h => walk_at "ms")))
local macro_rules | `(tactic| walk_at "md") => `(tactic| first | assumption | (refine' MDk.sm ?s ?h; (case s => assumption); (case h => walk_at "md")))
local macro_rules | `(tactic| walk_at "dp") => `(tactic| first | assumption | (refine' dp_sm ?s ?h; (case s => assumption); (case h => walk_at "dp")))
local macro_rules | `(tactic| walk_at "sz") => `(tactic| first | decide | assumption | omega | (simp only [List.length_cons, List.length_nil, List.length_map, List.length_append]; omega))
local macro_rules | `(tactic| walk_at "g1") => `(tactic| first
  | with_reducible refine k_seq ?_
  | with_reducible refine k_itB ?_
  | with_reducible refine k_next ?_
  | with_reducible refine k_asg ?_
  | with_reducible refine k_name ?_
  | with_reducible refine k_ret ?_
  | with_reducible refine k_retN ?_
  | with_reducible refine k_drop ?_
  | with_reducible refine k_ifs ?_
  | with_reducible refine k_brk ?_
  | with_reducible refine k_cont ?_
  | with_reducible refine k_ipI ?_
  | with_reducible refine k_test ?_
  | with_reducible refine k_tB ?_
  | with_reducible refine k_bl ?_
  | with_reducible refine k_not ?_
  | with_reducible refine k_and ?_
  | with_reducible refine k_or ?_
  | with_reducible refine k_yes ?_
  | with_reducible refine k_true ?_
  | with_reducible refine k_false ?_
  | with_reducible refine k_nt ?_
  | with_reducible refine k_c ?_
  | with_reducible refine k_op ?_
  | with_reducible refine k_un ?_
  | with_reducible refine k_if ?_
  | with_reducible refine k_chain ?_
  | with_reducible refine k_nil ?_
  | with_reducible refine k_cons ?_
  | with_reducible refine k_cb ?_
  | with_reducible refine k_call ?_
  | with_reducible refine k_callS ?_
  | with_reducible refine k_andV ?_
  | with_reducible refine k_orV ?_
  | with_reducible refine k_notV ?_
  | with_reducible refine k_lst ?_
  | with_reducible refine k_tup ?_
  | with_reducible refine k_nopart ?_
  | with_reducible refine k_part ?_
  | with_reducible refine k_nInt ?_
  | with_reducible refine k_sl ?_
  | with_reducible refine k_bm ?_
  | with_reducible refine k_bm0 ?_
  | with_reducible refine k_nTyS ?_
  | with_reducible refine k_m1 ?_
  | with_reducible refine k_m0 ?_
  | with_reducible refine k_nStr ?_
  | with_reducible refine k_I0 ?_
  | with_reducible refine k_U ?_
  | with_reducible refine k_add_i ?_
  | with_reducible refine k_eq_i ?_
  | with_reducible refine k_eq_s ?_
  | with_reducible refine k_eq_b ?_
  | with_reducible refine k_ne_i ?_
  | with_reducible refine k_ne_s ?_
  | with_reducible refine k_ne_b ?_
  | with_reducible refine k_le_i ?_
  | with_reducible refine k_le_s ?_
  | with_reducible refine k_gnil ?_
  | with_reducible refine k_gcons ?_
  | with_reducible refine k_gsub ?_
  | with_reducible refine k_for ?_
  | with_reducible refine k_lc ?_
  | with_reducible refine k_rng1 ?_
  | with_reducible refine k_rng2 ?_
  | with_reducible refine k_itl ?_
  | with_reducible refine k_itt ?_
  | with_reducible refine k_its ?_
  | with_reducible refine k_ite ?_
  | with_reducible refine k_iteB ?_
  | with_reducible refine k_lrg2 ?_
  | with_reducible refine k_itz ?_
  | with_reducible refine k_nIts ?_
  | with_reducible refine k_inS ?_
  | with_reducible refine k_niS ?_
  | with_reducible refine k_mk ?_
  | with_reducible refine k_meth ?_
  | with_reducible refine k_fld ?_
  | with_reducible refine k_sfld ?_
  | with_reducible refine k_dg ?_
  | with_reducible refine k_dp ?_
  | with_reducible refine k_pr ?_
  | with_reducible refine k_pr0 ?_
  | with_reducible refine k_sg ?_
  | with_reducible refine k_lc2 ?_
  | with_reducible refine k_callN ?_
  | with_reducible refine k_callNS ?_
  | with_reducible refine k_par ?_
  | with_reducible refine k_nPar ?_
  | with_reducible refine k_isNn ?_
  | with_reducible refine k_isNr ?_
  | with_reducible refine k_ntNn ?_
  | with_reducible refine k_ntNr ?_
  | with_reducible refine k_min2 ?_
  | with_reducible refine k_max2 ?_
  | with_reducible refine k_intB ?_
  | with_reducible refine k_intI ?_
  | with_reducible refine k_isBl ?_
  | with_reducible refine k_ntBl ?_
  | ((with_reducible refine' k_var ?kv ?_); (case kv => exact rfl))
  | ((with_reducible refine' k_aug ?kv ?_); (case kv => exact rfl))
  | ((with_reducible refine' k_ix_l ?ks ?ki ?_); (case ks => walk_at "sq"); (case ki => exact rfl))
  | ((with_reducible refine' k_ix_t ?ks ?ki ?_); (case ks => walk_at "st"); (case ki => exact rfl))
  | ((with_reducible refine' k_len_l ?ks ?_); (case ks => walk_at "sq"))
  | ((with_reducible refine' k_len_t ?ks ?_); (case ks => walk_at "st"))
  | ((with_reducible refine' k_setL ?ks ?ki ?_); (case ks => walk_at "hp"); (case ki => exact rfl))
  | ((with_reducible refine' k_nTyL ?ks ?_); (case ks => walk_at "sq"))
  | ((with_reducible refine' k_nItl ?ks ?_); (case ks => walk_at "sq"))
  | ((with_reducible refine' k_nItt ?ks ?_); (case ks => walk_at "st"))
  | ((with_reducible refine' k_nIte ?ks ?_); (case ks => walk_at "sq"))
  | ((with_reducible refine' k_mul ?km ?_); (case km => first | exact Or.inr ⟨by decide, by decide⟩ | exact Or.inl ⟨by decide, by decide⟩))
  | ((with_reducible refine' k_I ?km ?_); (case km => first | assumption | decide | exact ⟨by decide, by decide +kernel⟩ | exact ⟨by decide, by decide, by decide⟩))
  | ((with_reducible refine' k_nMeth ?kp ?kl ?_); (case kp => walk_at "hp"); (case kl => exact rfl))
  | ((with_reducible refine' k_nFld ?kp ?kc ?kn ?kl ?_); (case kp => walk_at "hp"); (case kc => assumption); (case kn => assumption); (case kl => exact rfl))
  | ((with_reducible refine' k_nSFld ?kp ?kc ?kn ?kl ?_); (case kp => walk_at "hp"); (case kc => assumption); (case kn => assumption); (case kl => exact of_decide_eq_true rfl))
  | ((with_reducible refine' k_nDg ?kp ?kl ?_); (case kp => walk_at "hp"); (case kl => exact rfl))
  | ((with_reducible refine' k_nRng1 ?k1 ?k2 ?_); (case k1 => omega); (case k2 => omega))
  | ((with_reducible refine' k_nKw ?k1 ?k2 ?_); (case k1 => exact rfl); (case k2 => exact rfl))
  | ((with_reducible refine' k_hsm ?kh ?_); (case kh => walk_at "hs"))
  | ((with_reducible refine' k_nMethH ?kh ?kl ?_); (case kh => walk_at "hs"); (case kl => exact fun _ _ => rfl))
  | ((with_reducible refine' k_mLet ?kh ?_); (case kh => walk_at "ms"))
  | ((with_reducible refine' k_mChew ?kh ?_); (case kh => walk_at "ms"))
  | ((with_reducible refine' k_mPut ?kh ?_); (case kh => walk_at "ms"))
  | ((with_reducible refine' k_mMost ?kh ?_); (case kh => walk_at "ms"))
  | ((with_reducible refine' k_mCut ?kh ?_); (case kh => walk_at "ms"))
  | ((with_reducible refine' k_mTab ?kh ?_); (case kh => walk_at "md"))
  | ((with_reducible refine' k_mEats ?kh ?_); (case kh => walk_at "md"))
  | ((with_reducible refine' k_gtup ?ks ?kl ?_); (case ks => walk_at "st"); (case kl => exact rfl)))
local macro_rules | `(tactic| walk_at "g") => `(tactic| repeat (walk_at "g1"))
local macro_rules | `(tactic| walk_at "w1") => `(tactic| first
  | walk_at "g1"
  | ((with_reducible refine' k_decT ?kp ?_); (case kp => omega))
  | ((with_reducible refine' k_decF ?kp ?_); (case kp => omega))
  | ((with_reducible refine' k_decNT ?kp ?_); (case kp => omega))
  | ((with_reducible refine' k_decNF ?kp ?_); (case kp => omega)))
local macro_rules | `(tactic| walk_at "w") => `(tactic| repeat (walk_at "w1"))

--! have hC : HsC K := ⟨He.cls_ok a_House, He.noat_ok n1, He.noat_ok n2, He.noat_ok n3, He.noat_ok n4, He.noat_ok n5, He.noat_ok n6, He.noat_ok n7⟩

abbrev FnM (K : PySem.W.Frag) (x q : Str) (st : Stmt) (f : Addr) (fd : FuncData) : Prop := FunD K x q (defArgs st) (defBody st) (defScope st) [] [] f fd
section
variable {P : Program} {w : World} {K : PySem.W.Frag} {mg : Str → Option Value} {base : Heap} {f : Addr} {fd : FuncData}
/-! ### houses as data -/
structure HsD where
  ls : List Nat
  tb : List (List Int)
  tr : List (List Key)
  ch : Int
  pt : List Nat
  mo : Int
  cu : Int
def kEat (side : Bool) (a b : Int) : List Key := [.inr (if side = true then Str.ofString "right" else Str.ofString "left"), .inl a, .inl b]
def wcount (n m : Nat) : Int := (([(n : Int) ^ 1, (n : Int) ^ 2, (n : Int) ^ 3].take m)).sum
structure HsOk (S : HsD) : Prop where
  rise : Rise S.ls
  l1 : 1 ≤ S.ls.length
  l3 : S.ls.length ≤ 3
  t1 : 1 ≤ S.tb.length
  t4 : S.tb.length ≤ 4
  tw : ∀ r ∈ S.tb, r.length = S.ls.length ∧ ∀ x ∈ r, 0 ≤ x ∧ x < S.tb.length
  e7 : S.tr.length ≤ 12
  ev : ∀ k ∈ S.tr, ∃ s a b, k = kEat s a b ∧ 0 ≤ a ∧ a < S.tb.length ∧ 0 ≤ b ∧ b < S.tb.length
  c0 : 0 ≤ S.ch
  c2 : S.ch ≤ 2
  p2 : S.pt.length ≤ 2
  pl : ∀ c ∈ S.pt, c ∈ S.ls
  m1 : 1 ≤ S.mo
  m3 : S.mo ≤ 3
  mw : wcount S.ls.length S.mo.toNat ≤ 14
  k1 : 1 ≤ S.cu
  km : S.cu ≤ S.mo
/-! ### what a house must be -/
def spWc : Sp := fun vs H Q _ => ∃ (n m : Nat), vs = [.int n, .int m] ∧ 1 ≤ n ∧ n ≤ 3 ∧ 1 ≤ m ∧ m ≤ 3 ∧ ∀ H', Same H H' → Q (.int (wcount n m)) H'
theorem ok_word_count (F : FnP K "word_count" s_word_count f fd) (hm : mg "word_count" = some (.ref f)) (f_sum : mg "sum" = none) : Callee P w K mg base CX0 "word_count" 1 [] spWc := by
  refine ⟨f, fd, _, [], F.ok sc_word_count (fun vs H Q E h => ?hl) (fun cdv A outer s H vs Q E hr h => ⟨_, PSs.nox (pss_one (ps_ret (pe_callB (cr_sumK K) (by rfl) f_sum (by decide +kernel) (pa_cons (pe_slice (sl_k K) (pe_lst (pa_cons (pe_op op_pow (pv 0) pe_int) (pa_cons (pe_op op_pow (pv 0) pe_int) (pa_cons (pe_op op_pow (pv 0) pe_int) pa_nil)))) po_none (po_some (pv 1))) pa_nil)))), ?rd⟩), hm, F.kp, F.bindsN fun _ _ _ _ _ _ us hl => match us, hl with | [_, _], _ => rfl, .nil⟩
  case hl =>
    obtain ⟨n, m, rfl, _⟩ := h
    rfl
  case rd =>
    obtain ⟨n, m, rfl, h1, h2, h3, h4, q⟩ := h
    refine k_start (σ' := [some _, some _]) rfl ?_
    have hb : ∀ j : Int, 0 ≤ j → j ≤ 3 → CPow n j := fun j a b => ⟨a, by omega, by omega⟩
    walk_at "g"
    refine k_I (hb 1 (by decide) (by decide)) ?_
    walk_at "g"
    refine k_I (hb 2 (by decide) (by decide)) ?_
    walk_at "g"
    refine k_I (hb 3 (by decide) (by decide)) ?_
    walk_at "g"
    refine k_nLst (by walk_at "sz") (fun p1 H1 n1 s1 e1 => ?_)
    walk_at "g"
    refine k_sl_l (sq_l e1) (fun p2 H2 n2 s2 e2 => ?_)
    rw [cutV_to] at e2
    walk_at "g"
    refine k_sum (ns := [(n : Int) ^ 1, (n : Int) ^ 2, (n : Int) ^ 3].take m) (sq_l (by rw [e2, List.map_take]; rfl)) (q _ (s1.trans s2))
theorem mem_abc (c : Nat) (h : small c) : decide (c ∈ (Str.ofString "abcdefghijklmnopqrstuvwxyz").cps.toList) = true := by
  have e : (Str.ofString "abcdefghijklmnopqrstuvwxyz").cps.toList = (List.range 26).map (97 + ·) := by decide +kernel
  rw [e, decide_eq_true_eq]
  unfold small at h
  exact List.mem_map.mpr ⟨c - 97, List.mem_range.mpr (by omega), by omega⟩
/-- all([test of each sign]), the tests all true -/
theorem rise_pl2 {cs : List Nat} (h : Rise cs) : Pl (tx cs) := fun c hc => by
  have := h.2 c hc
  unfold small at this
  omega
theorem sum_one : ∀ cs : List Nat, (cs.map fun _ => 1).sum = cs.length
  | [] => rfl
  | c :: r => by rw [List.map_cons, List.sum_cons, sum_one r, List.length_cons]; omega
def spNl : Sp := fun vs H Q _ => ∃ cs : List Nat, vs = [.str (tx cs)] ∧ Rise cs ∧ 1 ≤ cs.length ∧ cs.length ≤ 3 ∧ ∀ H', Same H H' → Q .non H'
theorem ok_need_letters (F : FnP K "need_letters" s_need_letters f fd) (hm : mg "need_letters" = some (.ref f)) (f_len : mg "len" = none) (f_all : mg "all" = none) (f_sorted : mg "sorted" = none) (f_set : mg "set" = none) (c_SMALL : ∃ t, mg "SMALL" = some (.str (Str.ofString "abcdefghijklmnopqrstuvwxyz") t)) : Callee P w K mg base CX0 "need_letters" 1 [] spNl := by
  refine ⟨f, fd, _, [], F.ok sc_need_letters (fun vs H Q E h => ?hl) (fun cdv A outer s H vs Q E hr h => ⟨_, PSs.nox (pss_cons (ps_if (PW.pt (pw_or (pt_not (pt_chain op_leU op_leU pe_int (pe_callB (call_lenK K) (by rfl) f_len PySem.boot_len (pa_cons (pv 0) pa_nil)) pe_int)) (pw_or1 (pt_not (pt_val (pe_callB (cr_allK K) (by rfl) f_all (by decide +kernel) (pa_cons (pe_lc (own := [("sign", 1)]) rfl sc_need_letters.nd (pi_str (pv 0)) (blkOk_by (N := ["letters", "sign"]) (sc := defScope s_need_letters) (by decide +kernel)) (fun _ _ _ _ _ => (pg_name (i := 1) sc_need_letters.nd rfl (by first | exact Or.inl rfl | exact Or.inr rfl))) (fun _ _ _ _ _ => pts_nil) (fun _ _ _ _ _ => (pe_cmpR op_inS (pv 1) (pe_gs c_SMALL) (by rfl)))) pa_nil))))))) (pss_one ps_never) pss_nil)
      (pss_one (ps_if (pt_cmpR (op_neK K hr.units) (pv 0) (pe_joinK K pe_str (pe_callB (cr_sortedA K P w hr.units) (by rfl) f_sorted (by decide +kernel) (pa_cons (pe_callTy (cr_setA K P w) (by rfl) f_set (by decide +kernel) (pa_cons (pv 0) pa_nil)) pa_nil))) (nomark _)) (pss_one ps_never) pss_nil))), ?rd⟩), hm, F.kp, F.bindsN fun _ _ _ _ _ _ us hl => match us, hl with | [_], _ => rfl, .nil⟩
  case hl =>
    obtain ⟨n, rfl, _⟩ := h
    rfl
  case rd =>
    obtain ⟨cs, rfl, rise, h1, h3, q⟩ := h
    refine k_start (σ' := [some _, none]) rfl ?_
    have ll := len_tx cs
    walk_at "g"
    refine k_len_s (by omega) ?_
    rw [ll]
    walk_at "w"
    have sz : (tx cs).cps.size = cs.length := ll
    refine k_nLcT (walk_str (z := tx cs)) (by omega) (fun _ _ => trivial) (fun i v Ha Hb Kp hi sa hy hKp => ?ht) (fun p Hp np sp ep => ?he)
    case ht =>
      obtain ⟨rfl, c, hc, rfl⟩ := hy
      walk_at "g"
      refine ⟨rfl, ?_⟩
      walk_at "g"
      rw [mem_abc c (rise.2 c (by
        have h : cs[i]? = some c := by
          rw [← hc]
          exact Array.getElem?_toList (xs := cs.toArray)
        exact List.mem_of_getElem? h))]
      exact hKp _ (Same.refl _)
    case he =>
      walk_at "g"
      refine k_allT _ rfl ep ?_
      walk_at "g"
      have nd : cs.Nodup := rise.1.imp fun h => Nat.ne_of_lt h
      refine k_setX (rise_pl2 rise) nd (by omega) (fun p2 H2 n2 s2 e2 => ?_)
      walk_at "g"
      refine k_sortX e2 ?_ ?_ (fun ys p3 H3 pm so n3 s3 e3 => ?_)
      · exact (List.reverse_perm _).nodup_iff.mpr (List.pairwise_map.mpr (nd.imp fun h e => h (by injection e with e; injection e with e; injection e)))
      · rw [List.length_reverse, List.length_map]
        exact Nat.le_trans h3 (by decide)
      have ey := sorted_sgs pm so rise.1
      subst ey
      walk_at "g"
      refine k_join (ys := cs.map sg) (sq_l e3) ?_ ?_
      · rw [show (Str.ofString "").length = 0 by decide +kernel, List.map_map, show (Str.length ∘ sg) = fun _ => 1 from rfl, List.length_map, sum_one]
        omega
      rw [join_sgs]
      walk_at "g"
      rw [decide_eq_true rfl]
      walk_at "g"
      exact q _ ((sp.trans s2).trans s3)
abbrev RwI : Type := Addr × List Int
def spNt (K : PySem.W.Frag) : Sp := fun vs H Q _ => ∃ (a : Addr) (n : Nat) (R : List RwI) (tr : Bool), vs = [.ref a, .int n] ∧ SqL K H a (R.map fun r => V.ref r.1) ∧ (∀ r ∈ R, SqB K tr H r.1 (r.2.map V.int) ∧ r.2.length = n ∧ ∀ x ∈ r.2, 0 ≤ x ∧ x < R.length) ∧ n ≤ 3 ∧ 1 ≤ R.length ∧ R.length ≤ 4 ∧ ∀ H', Same H H' → Q .non H'
theorem ok_need_table (F : FnP K "need_table" s_need_table f fd) (hm : mg "need_table" = some (.ref f)) (f_len : mg "len" = none) (f_all : mg "all" = none) (f_enumerate : mg "enumerate" = none) (c_MOST_TASTES : ∃ t, mg "MOST_TASTES" = some (.int 4 t)) : Callee P w K mg base CX0 "need_table" 1 [] (spNt K) := by
  refine ⟨f, fd, _, [], F.ok sc_need_table (fun vs H Q E h => ?hl) (fun cdv A outer s H vs Q E hr h => ⟨_, PSs.nox (pss_cons (ps_if (pt_not (pt_chain op_leU op_leU pe_int (pe_callB (call_lenK K) (by rfl) f_len PySem.boot_len (pa_cons (pv 0) pa_nil)) (pe_gi c_MOST_TASTES))) (pss_one ps_never) pss_nil)
      (pss_one (ps_for PassesOwn.never rfl (pi_enumK K (by rfl) f_enumerate (pa_cons (pv 0) pa_nil)) (pg_tupK K 2 (by rfl) (pgs_cons (pg_name (i := 2) sc_need_table.nd rfl (by first | exact Or.inl rfl | exact Or.inr rfl)) (pgs_cons (pg_name (i := 3) sc_need_table.nd rfl (by first | exact Or.inl rfl | exact Or.inr rfl)) pgs_nil))) (pss_one (ps_if (PW.pt (pw_or (pt_cmpR (op_neK K hr.units) (pe_callB (call_lenK K) (by rfl) f_len PySem.boot_len (pa_cons (pv 3) pa_nil)) (pv 1) (nomark _)) (pw_or1 (pt_not (pt_val (pe_callB (cr_allK K) (by rfl) f_all (by decide +kernel) (pa_cons (pe_lc (own := [("to", 4)]) rfl sc_need_table.nd (pi_anyK K (pv 3)) (blkOk_by (N := ["table", "many", "at", "row", "to"]) (sc := defScope s_need_table) (by decide +kernel)) (fun _ _ _ _ _ => (pg_name (i := 4) sc_need_table.nd rfl (by first | exact Or.inl rfl | exact Or.inr rfl))) (fun _ _ _ _ _ => pts_nil) (fun _ _ _ _ _ => (pe_chain op_leU op_lt pe_int (pv 4) (pe_callB (call_lenK K) (by rfl) f_len PySem.boot_len (pa_cons (pv 0) pa_nil))))) pa_nil))))))) (pss_one ps_never) pss_nil))))), ?rd⟩), hm, F.kp, F.bindsN fun _ _ _ _ _ _ us hl => match us, hl with | [_, _], _ => rfl, .nil⟩
  case hl =>
    obtain ⟨a, n, R, tr, rfl, _⟩ := h
    rfl
  case rd =>
    obtain ⟨a, n, R, tr, rfl, hx, hR, h3, l1, l4, q⟩ := h
    refine k_start (σ' := [some _, some _, none, none, none]) rfl ?_
    have lR : (R.map fun r => V.ref r.1).length = R.length := List.length_map _
    walk_at "g"
    rw [lR]
    walk_at "w"
    refine k_nFor (walk_enum (xs := R.map fun r => V.ref r.1)) (fun i σ H' => (∃ y2 y3, σ = [some (.ref a), some (.int n), y2, y3, none]) ∧ Same H H') ⟨⟨_, _, rfl⟩, Same.refl _⟩ (fun i σ H' _ h => sm_l h.2 hx) (fun i x σ Ha Hb hi h hy => ?ht) (fun σ H' h => ?he)
    case he =>
      obtain ⟨⟨y2, y3, rfl⟩, sa⟩ := h
      walk_at "g"
      exact q _ sa
    case ht =>
      obtain ⟨⟨y2, y3, rfl⟩, sa⟩ := h
      obtain ⟨T, xi, yi, rfl, nT, rfl, ex, ey⟩ := hy
      have sT : Same Ha (upd Ha T (.tup [xi, yi])) := sm_new nT
      have eT : (upd Ha T (.tup [xi, yi])) T = some (.tup [xi, yi]) := upd_same
      generalize upd Ha T (.tup [xi, yi]) = Hb at sT eT
      cases ex
      obtain ⟨r, hr0, rfl⟩ := map_get ey
      obtain ⟨hr1, hr2, hr3⟩ := hR r (List.mem_of_getElem? hr0)
      have sx := sa.trans sT
      have hrL := sm_b sx hr1
      have hxL := sm_l sx hx
      have lr : (r.2.map V.int).length = r.2.length := List.length_map _
      walk_at "g"
      refine k_len_b hrL ?_
      walk_at "g"
      rw [lr]
      walk_at "w"
      refine k_nItB hrL ?_
      refine k_nLcT (walk_listB (xs := r.2.map V.int)) (by rw [lr]; omega) (fun H' s2 => sm_b s2 hrL) (fun j v Hc Hd Kp hj sc hy hKp => ?ht2) (fun p Hp np sp ep => ?he2)
      case ht2 =>
        obtain ⟨rfl, hv⟩ := hy
        obtain ⟨x, hx0, rfl⟩ := map_get hv
        obtain ⟨b1, b2⟩ := hr3 x (List.mem_of_getElem? hx0)
        have hxM := sm_l sc hxL
        walk_at "g"
        refine ⟨rfl, ?_⟩
        walk_at "w"
        rw [lR]
        walk_at "w"
        rw [decide_eq_true b2]
        exact hKp _ (Same.refl _)
      case he2 =>
        walk_at "g"
        refine k_allT _ rfl ep ?_
        walk_at "g"
        exact ⟨⟨_, _, rfl⟩, sx.trans sp⟩
theorem sides_in (s : Bool) : inV (V.str (if s = true then Str.ofString "right" else Str.ofString "left")) [V.str (Str.ofString "left"), V.str (Str.ofString "right")] = true := by
  cases s <;> decide +kernel
/-- three in a tuple: side, eater, eaten -/
def spNe (K : PySem.W.Frag) : Sp := fun vs H Q _ => ∃ (a : Addr) (n : Nat) (R : List RwM), vs = [.ref a, .int n] ∧ SqL K H a (R.map fun r => V.ref r.1) ∧ (∀ r ∈ R, SqT K H r.1 (r.2.map kV) ∧ ∃ s x y, r.2 = kEat s x y ∧ 0 ≤ x ∧ x < n ∧ 0 ≤ y ∧ y < n) ∧ R.length ≤ 100 ∧ ∀ H', Same H H' → Q .non H'
theorem ok_need_eats (F : FnP K "need_eats" s_need_eats f fd) (hm : mg "need_eats" = some (.ref f)) (f_enumerate : mg "enumerate" = none) (c_SIDES : GloT K mg "SIDES" [V.str (Str.ofString "left"), V.str (Str.ofString "right")]) : Callee P w K mg base CX0 "need_eats" 1 [] (spNe K) := by
  refine ⟨f, fd, _, [], F.ok sc_need_eats (fun vs H Q E h => ?hl) (fun cdv A outer s H vs Q E hr h => ⟨_, PSs.nox (pss_one (ps_for PassesOwn.never rfl (pi_enumK K (by rfl) f_enumerate (pa_cons (pv 0) pa_nil)) (pg_tupK K 2 (by rfl) (pgs_cons (pg_name (i := 2) sc_need_eats.nd rfl (by first | exact Or.inl rfl | exact Or.inr rfl)) (pgs_cons (pg_tupK K 3 (by rfl) (pgs_cons (pg_name (i := 3) sc_need_eats.nd rfl (by first | exact Or.inl rfl | exact Or.inr rfl)) (pgs_cons (pg_name (i := 4) sc_need_eats.nd rfl (by first | exact Or.inl rfl | exact Or.inr rfl)) (pgs_cons (pg_name (i := 5) sc_need_eats.nd rfl (by first | exact Or.inl rfl | exact Or.inr rfl)) pgs_nil)))) pgs_nil))) (pss_one (ps_if (PW.pt (pw_or (pt_cmpR (op_niK K) (pv 3) (pe_gt c_SIDES) (by rfl)) (pw_or (pt_not (pt_chain op_leU op_lt pe_int (pv 4) (pv 1))) (pw_or1 (pt_not (pt_chain op_leU op_lt pe_int (pv 5) (pv 1))))))) (pss_one ps_never) pss_nil)))), ?rd⟩), hm, F.kp, F.bindsN fun _ _ _ _ _ _ us hl => match us, hl with | [_, _], _ => rfl, .nil⟩
  case hl =>
    obtain ⟨a, n, R, rfl, _⟩ := h
    rfl
  case rd =>
    obtain ⟨a, n, R, rfl, hx, hR, h3, q⟩ := h
    refine k_start (σ' := [some _, some _, none, none, none, none]) rfl ?_
    walk_at "g"
    refine k_nFor (walk_enum (xs := R.map fun r => V.ref r.1)) (fun i σ H' => (∃ y2 y3 y4 y5, σ = [some (.ref a), some (.int n), y2, y3, y4, y5]) ∧ Same H H') ⟨⟨_, _, _, _, rfl⟩, Same.refl _⟩ (fun i σ H' _ h => sm_l h.2 hx) (fun i x σ Ha Hb hi h hy => ?ht) (fun σ H' h => ?he)
    case he =>
      obtain ⟨⟨y2, y3, y4, y5, rfl⟩, sa⟩ := h
      walk_at "g"
      exact q _ sa
    case ht =>
      obtain ⟨⟨y2, y3, y4, y5, rfl⟩, sa⟩ := h
      obtain ⟨T, xi, yi, rfl, nT, rfl, ex, ey⟩ := hy
      have sT : Same Ha (upd Ha T (.tup [xi, yi])) := sm_new nT
      have eT : (upd Ha T (.tup [xi, yi])) T = some (.tup [xi, yi]) := upd_same
      generalize upd Ha T (.tup [xi, yi]) = Hb at sT eT
      cases ex
      obtain ⟨r, hr0, rfl⟩ := map_get ey
      obtain ⟨hr1, s, x, y, er, b1, b2, b3, b4⟩ := hR r (List.mem_of_getElem? hr0)
      have sx := sa.trans sT
      have hrT : SqT K Hb r.1 [V.str (if s = true then Str.ofString "right" else Str.ofString "left"), .int x, .int y] := by
        have h := sm_t sx hr1
        rw [er] at h
        exact h
      walk_at "g"
      refine k_niT (c_SIDES.t _) rfl rfl (b := false) (by rw [sides_in]; rfl) ?_
      walk_at "w"
      exact ⟨⟨_, _, _, _, rfl⟩, sx⟩
/-! ### a house as it stands -/
def HsAt (K : PySem.W.Frag) (H : Hp) (a : Addr) (S : HsD) : Prop := ∃ (dx r t : Addr) (R : List RwI) (L : List RwM),
  H a = some (.ins (He.ga K "House") dx [("signs", .str (tx S.ls)), ("rooms", .ref r), ("triples", .ref t), ("chewed", .int S.ch), ("putting", .str (tx S.pt)), ("span", .int S.mo), ("cutting", .int S.cu)]) ∧
  SqT K H r (R.map fun q => V.ref q.1) ∧ (∀ q ∈ R, SqT K H q.1 (q.2.map V.int)) ∧ R.map (·.2) = S.tb ∧
  SqT K H t (L.map fun q => V.ref q.1) ∧ (∀ q ∈ L, SqT K H q.1 (q.2.map kV)) ∧ (L.map (·.2)).Nodup ∧ (∀ k, k ∈ L.map (·.2) ↔ k ∈ S.tr) ∧ L.Pairwise fun x y => dataLe false encM x y = true
theorem HsAt.sm {H H' : Hp} {a : Addr} {S : HsD} (s : Same H H') (h : HsAt K H a S) : HsAt K H' a S := by
  obtain ⟨dx, r, t, R, L, h1, h2, h3, h4, h5, h6, h7, h8, h9⟩ := h
  exact ⟨dx, r, t, R, L, s _ _ h1, sm_t s h2, fun q hq => sm_t s (h3 q hq), h4, sm_t s h5, fun q hq => sm_t s (h6 q hq), h7, h8, h9⟩
def spInit (K : PySem.W.Frag) : Sp := fun vs H Q _ => ∃ (S : HsD) (a dx tb ev : Addr) (R : List RwI) (L : List RwM) (tr : Bool), vs = [.ref a, .str (tx S.ls), .ref tb, .ref ev, .int S.ch, .str (tx S.pt), .int S.mo, .int S.cu] ∧ HsOk S ∧
  H a = some (.ins (He.ga K "House") dx []) ∧ SqL K H tb (R.map fun q => V.ref q.1) ∧ (∀ q ∈ R, SqB K tr H q.1 (q.2.map V.int)) ∧ R.map (·.2) = S.tb ∧ SqL K H ev (L.map fun q => V.ref q.1) ∧ (∀ q ∈ L, SqT K H q.1 (q.2.map kV)) ∧ L.map (·.2) = S.tr ∧
  ∀ H', (∀ b u, b ≠ a → H b = some u → H' b = some u) → HsAt K H' a S → Q .non H'
structure HsC (K : PySem.W.Frag) : Prop where
  c : Cls K (He.ga K "House")
  n1 : NoAttr K (He.ga K "House") "signs"
  n2 : NoAttr K (He.ga K "House") "rooms"
  n3 : NoAttr K (He.ga K "House") "triples"
  n4 : NoAttr K (He.ga K "House") "chewed"
  n5 : NoAttr K (He.ga K "House") "putting"
  n6 : NoAttr K (He.ga K "House") "span"
  n7 : NoAttr K (He.ga K "House") "cutting"
theorem b_ins {tr : Bool} {H : Hp} {p b C dx : Addr} {fs : List (Str × V)} {o : HO} {xs : List V} (hp : H p = some (.ins C dx fs)) (h : SqB K tr H b xs) : SqB K tr (upd H p o) b xs := match tr, h with
  | true, h => t_ins hp h
  | false, h => l_ins hp h
theorem k_tup_sb {tr : Bool} {H : Hp} {Q : VK} {a : Addr} {xs : List V} (hx : SqB K tr H a xs) (h : ∀ p H2, Same H H2 → SqT K H2 p xs → Q (.ref p) H2) : rTupU K [.ref a] H Q := match tr, hx with
  | false, hx => k_tup_l hx fun p H2 _ s e => h p H2 s (sq_t e)
  | true, hx => k_tup_t hx (h a H (Same.refl _) hx)
theorem ok_House_init {f : Addr} (F : FunD K "__init__" "House.__init__" (defArgs s_House_init) (defBody s_House_init) (defScope s_House_init) [] [("chew", .int 0)] f fd) (hC : HsC K) (f_tuple : mg "tuple" = none) (f_sorted : mg "sorted" = none) (f_all : mg "all" = none) (f_len : mg "len" = none) (c_MOST_WORDS : ∃ t, mg "MOST_WORDS" = some (.int 14 t))
    (c_need_eats : Callee P w K mg base CX0 "need_eats" 1 [] (spNe K)) (c_need_table : Callee P w K mg base CX0 "need_table" 1 [] (spNt K)) (c_word_count : Callee P w K mg base CX0 "word_count" 1 [] spWc) (c_need_letters : Callee P w K mg base CX0 "need_letters" 1 [] spNl) :
    FnOk P w K mg base CX0 2 f fd ["self", "letters", "table", "eats", "chew", "put", "most", "cut"] (spInit K) := by
  refine F.ok sc_House_init (fun vs H Q E h => ?hl) (fun cdv A outer s H vs Q E hr h => ⟨_, PSs.nox (pss_cons (ps_expr (pe_cl c_need_letters hr (pa_cons (pv 1) pa_nil) pass0))
      (pss_cons (ps_if (PW.pt (pw_or (pt_not (pt_chain op_leU op_leU pe_int (pv 6) pe_int)) (pw_or1 (pt_cmpR op_gt (pe_cl c_word_count hr (pa_cons (pe_callB (call_lenK K) (by rfl) f_len PySem.boot_len (pa_cons (pv 1) pa_nil)) (pa_cons (pv 6) pa_nil)) pass0) (pe_gi c_MOST_WORDS) (nomark _))))) (pss_one ps_never) pss_nil)
      (pss_cons (ps_expr (pe_cl c_need_table hr (pa_cons (pv 2) (pa_cons (pe_callB (call_lenK K) (by rfl) f_len PySem.boot_len (pa_cons (pv 1) pa_nil)) pa_nil)) pass0))
      (pss_cons (ps_expr (pe_cl c_need_eats hr (pa_cons (pv 3) (pa_cons (pe_callB (call_lenK K) (by rfl) f_len PySem.boot_len (pa_cons (pv 2) pa_nil)) pa_nil)) pass0))
      (pss_cons (ps_if (pt_not (pt_chain op_leU op_leU pe_int (pv 4) pe_int)) (pss_one ps_never) pss_nil)
      (pss_cons (ps_if (PW.pt (pw_or (pt_cmpR op_gt (pe_callB (call_lenK K) (by rfl) f_len PySem.boot_len (pa_cons (pv 5) pa_nil)) pe_int (nomark _)) (pw_or1 (pt_not (pt_val (pe_callB (cr_allK K) (by rfl) f_all (by decide +kernel) (pa_cons (pe_lc (own := [("sign", 12)]) rfl sc_House_init.nd (pi_str (pv 5)) (blkOk_by (N := ["self", "letters", "table", "eats", "chew", "put", "most", "cut", "row", "side", "one", "other", "sign"]) (sc := defScope s_House_init) (by decide +kernel)) (fun _ _ _ _ _ => (pg_name (i := 12) sc_House_init.nd rfl (by first | exact Or.inl rfl | exact Or.inr rfl))) (fun _ _ _ _ _ => pts_nil) (fun _ _ _ _ _ => (pe_cmpR op_inS (pv 12) (pv 1) (by rfl)))) pa_nil))))))) (pss_one ps_never) pss_nil)
      (pss_cons (ps_if (pt_not (pt_chain op_leU op_leU pe_int (pv 7) (pv 6))) (pss_one ps_never) pss_nil)
      (pss_cons (ps_fld (pv 0) (pv 1) rfl)
      (pss_cons (ps_fld (pv 0) (pe_callTy (call_tupK K) (by rfl) f_tuple (by decide +kernel) (pa_cons (pe_lc (own := [("row", 8)]) rfl sc_House_init.nd (pi_listK K (pv 2)) (blkOk_by (N := ["self", "letters", "table", "eats", "chew", "put", "most", "cut", "row", "side", "one", "other", "sign"]) (sc := defScope s_House_init) (by decide +kernel)) (fun _ _ _ _ _ => (pg_name (i := 8) sc_House_init.nd rfl (by first | exact Or.inl rfl | exact Or.inr rfl))) (fun _ _ _ _ _ => pts_nil) (fun _ _ _ _ _ => (pe_callTy (call_tupK K) (by rfl) f_tuple (by decide +kernel) (pa_cons (pv 8) pa_nil)))) pa_nil)) rfl)
      (pss_cons (ps_fld (pv 0) (pe_callTy (call_tupK K) (by rfl) f_tuple (by decide +kernel) (pa_cons (pe_callB (cr_sortedA K P w hr.units) (by rfl) f_sorted (by decide +kernel) (pa_cons (pe_sgM K P w hr.units (own := [("side", 9), ("one", 10), ("other", 11)]) sc_House_init.nd (pi_listK K (pv 3)) (blkOk_by (N := ["self", "letters", "table", "eats", "chew", "put", "most", "cut", "row", "side", "one", "other", "sign"]) (sc := defScope s_House_init) (by decide +kernel)) (fun _ _ _ _ _ => (pg_tupK K 3 (by rfl) (pgs_cons (pg_name (i := 9) sc_House_init.nd rfl (by first | exact Or.inl rfl | exact Or.inr rfl)) (pgs_cons (pg_name (i := 10) sc_House_init.nd rfl (by first | exact Or.inl rfl | exact Or.inr rfl)) (pgs_cons (pg_name (i := 11) sc_House_init.nd rfl (by first | exact Or.inl rfl | exact Or.inr rfl)) pgs_nil))))) (fun _ _ _ _ _ => pts_nil) (fun _ _ _ _ _ => (pe_tup (pa_cons (pv 9) (pa_cons (pv 10) (pa_cons (pv 11) pa_nil)))))) pa_nil)) pa_nil)) rfl)
      (pss_cons (ps_fld (pv 0) (pv 4) rfl)
      (pss_cons (ps_fld (pv 0) (pv 5) rfl)
      (pss_cons (ps_fld (pv 0) (pv 6) rfl)
      (pss_one (ps_fld (pv 0) (pv 7) rfl))))))))))))))), ?rd⟩)
  case hl =>
    obtain ⟨S, a, dx, tb, ev, R, L, tr, rfl, _⟩ := h
    rfl
  case rd =>
    obtain ⟨S, a, dx, tb, ev, R, L, tq, rfl, ok, ha, hT, hR, eR, hE, hL, eL, q⟩ := h
    obtain ⟨hc, n1, n2, n3, n4, n5, n6, n7⟩ := hC
    refine k_start (σ' := [some _, some _, some _, some _, some _, some _, some _, some _, none, none, none, none, none]) rfl ?_
    have l1 := ok.l1
    have l3 := ok.l3
    have t1 := ok.t1
    have t4 := ok.t4
    have m1 := ok.m1
    have m3 := ok.m3
    have c0 := ok.c0
    have c2 := ok.c2
    have p2 := ok.p2
    have k1 := ok.k1
    have km := ok.km
    have lls := len_tx S.ls
    have lpt := len_tx S.pt
    walk_at "w"
    refine ⟨S.ls, rfl, ok.rise, l1, l3, fun H1 s1 => ?_⟩
    walk_at "w"
    refine k_len_s (by omega) ?_
    walk_at "g"
    have hmo : S.mo = ((S.mo.toNat : Nat) : Int) := by omega
    refine ⟨S.ls.length, S.mo.toNat, by rw [lls, ← hmo]; rfl, l1, l3, by omega, by omega, fun H2 s2 => ?_⟩
    have mw := ok.mw
    walk_at "w"
    refine k_len_s (by omega) ?_
    rw [lls]
    walk_at "g"
    have lR : R.length = S.tb.length := by rw [← eR, List.length_map]
    refine ⟨tb, S.ls.length, R, tq, rfl, sm_l (s1.trans s2) hT, fun r hr0 => ?_, l3, by omega, by omega, fun H3 s3 => ?_⟩
    · obtain ⟨w1, w2⟩ := ok.tw r.2 (by rw [← eR]; exact List.mem_map.mpr ⟨r, hr0, rfl⟩)
      exact ⟨sm_b (s1.trans s2) (hR r hr0), w1, fun x hx => by rw [lR]; exact w2 x hx⟩
    have s03 := (s1.trans s2).trans s3
    have hT3 := sm_l s03 hT
    have lRV : (R.map fun q => V.ref q.1).length = S.tb.length := by rw [List.length_map, lR]
    walk_at "g"
    rw [lRV]
    have e7 := ok.e7
    have lL : L.length = S.tr.length := by rw [← eL, List.length_map]
    refine ⟨ev, S.tb.length, L, rfl, sm_l s03 hE, fun r hr0 => ?_, by omega, fun H4 s4 => ?_⟩
    · obtain ⟨s, x, y, e, b1, b2, b3, b4⟩ := ok.ev r.2 (by rw [← eL]; exact List.mem_map.mpr ⟨r, hr0, rfl⟩)
      exact ⟨sm_t s03 (hL r hr0), s, x, y, e, b1, b2, b3, b4⟩
    walk_at "w"
    refine k_len_s (by omega) ?_
    rw [lpt]
    walk_at "w"
    have szp : (tx S.pt).cps.size = S.pt.length := lpt
    refine k_nLcT (walk_str (z := tx S.pt)) (by omega) (fun _ _ => trivial) (fun i v Ha Hb Kp hi sa hy hKp => ?ht) (fun p Hp np sp ep => ?he)
    case ht =>
      obtain ⟨rfl, c, hc', rfl⟩ := hy
      walk_at "g"
      refine ⟨rfl, ?_⟩
      walk_at "g"
      have hm : c ∈ S.pt := List.mem_of_getElem? (show S.pt[i]? = some c by rw [← hc']; exact Array.getElem?_toList (xs := S.pt.toArray))
      rw [show decide (c ∈ (tx S.ls).cps.toList) = true from decide_eq_true (ok.pl c hm)]
      exact hKp _ (Same.refl _)
    case he =>
      walk_at "g"
      refine k_allT _ rfl ep ?_
      have s05 := (s03.trans s4).trans sp
      have ha5 := s05 _ _ ha
      walk_at "w"
      -- the rooms
      have hT5 := l_ins (o := .ins (He.ga K "House") dx (putF "signs" (.str (tx S.ls)) [])) ha5 (sm_l ((s4.trans sp)) hT3)
      have hR5 : ∀ r ∈ R, SqB K tq (upd Hp a (.ins (He.ga K "House") dx (putF "signs" (.str (tx S.ls)) []))) r.1 (r.2.map V.int) := fun r hr0 => b_ins ha5 (sm_b s05 (hR r hr0))
      have hE5 := l_ins (o := .ins (He.ga K "House") dx (putF "signs" (.str (tx S.ls)) [])) ha5 (sm_l s05 hE)
      have hL5 : ∀ r ∈ L, SqT K (upd Hp a (.ins (He.ga K "House") dx (putF "signs" (.str (tx S.ls)) []))) r.1 (r.2.map kV) := fun r hr0 => t_ins ha5 (sm_t s05 (hL r hr0))
      have hb5 : ∀ b u, b ≠ a → H b = some u → (upd Hp a (.ins (He.ga K "House") dx (putF "signs" (.str (tx S.ls)) []))) b = some u := fun b u hb e => by rw [upd_ne hb]; exact s05 b u e
      have haA : (upd Hp a (.ins (He.ga K "House") dx (putF "signs" (.str (tx S.ls)) []))) a = some (.ins (He.ga K "House") dx (putF "signs" (.str (tx S.ls)) [])) := upd_same
      generalize upd Hp a (.ins (He.ga K "House") dx (putF "signs" (.str (tx S.ls)) [])) = G at *
      walk_at "g"
      refine k_nLcD (walk_list (xs := R.map fun q => V.ref q.1)) (fun H' s2 => sm_l s2 hT5) (fun i ws H1 => ∃ R' : List RwI, ws = R'.map (fun q => V.ref q.1) ∧ R'.map (·.2) = (R.take i).map (·.2) ∧ ∀ q ∈ R', SqT K H1 q.1 (q.2.map V.int)) (fun i ws H1 H2 s h => ?hm) ⟨[], rfl, rfl, fun q hq => nomatch hq⟩ (fun i ws H1 hi h => ?hz) (fun i v p H1 H2 ws Kp Ks hi hp s1 e1 hws hy hKp hKs => ?ht2) (fun pr Hr ws nr sr er hws => ?he2)
      case hm =>
        obtain ⟨R', e1, e2, h3⟩ := h
        exact ⟨R', e1, e2, fun q hq => sm_t s (h3 q hq)⟩
      case hz =>
        obtain ⟨R', e1, e2, h3⟩ := h
        have := congrArg List.length e2
        rw [List.length_map, List.length_map, List.length_take] at this
        rw [e1, List.length_map]
        omega
      case ht2 =>
        obtain ⟨rfl, hv⟩ := hy
        obtain ⟨r, hr0, rfl⟩ := map_get hv
        obtain ⟨R', e2, e3, h3⟩ := hws
        have hr1 := sm_b s1 (hR5 r (List.mem_of_getElem? hr0))
        walk_at "g"
        refine ⟨rfl, ?_⟩
        walk_at "g"
        refine k_tup_sb hr1 (fun t H6 s6 e6 => hKp _ _ s6 ⟨R' ++ [(t, r.2)], by rw [e2, List.map_append]; rfl, by rw [List.map_append, e3, take_more hr0, List.map_append]; rfl, fun q hq => ?_⟩)
        rcases List.mem_append.mp hq with hq | hq
        · exact sm_t (del_mono s6) (h3 q hq)
        · cases List.mem_singleton.mp hq
          exact del_t (s6 _ _ e1) e6
      case he2 =>
        obtain ⟨R', e2, e3, h3⟩ := hws
        subst e2
        have lRm : (R.map fun q => V.ref q.1).length = R.length := List.length_map _
        rw [lRm, List.take_length, eR] at e3
        have haR := sr _ _ haA
        walk_at "g"
        refine k_tup_l (sq_l er) (fun tr H6 n6 s6 e6 => ?_)
        have ha6 := s6 _ _ haR
        walk_at "g"
        have sR6 := sr.trans s6
        have hE6 := l_ins (o := .ins (He.ga K "House") dx (putF "rooms" (.ref tr) (putF "signs" (.str (tx S.ls)) []))) ha6 (sm_l sR6 hE5)
        have hL6 : ∀ r ∈ L, SqT K (upd H6 a (.ins (He.ga K "House") dx (putF "rooms" (.ref tr) (putF "signs" (.str (tx S.ls)) [])))) r.1 (r.2.map kV) := fun r hr0 => t_ins ha6 (sm_t sR6 (hL5 r hr0))
        have hb6 : ∀ b u, b ≠ a → H b = some u → (upd H6 a (.ins (He.ga K "House") dx (putF "rooms" (.ref tr) (putF "signs" (.str (tx S.ls)) [])))) b = some u := fun b u hb e => by rw [upd_ne hb]; exact sR6 b u (hb5 b u hb e)
        have hA6 : (upd H6 a (.ins (He.ga K "House") dx (putF "rooms" (.ref tr) (putF "signs" (.str (tx S.ls)) [])))) a = some (.ins (He.ga K "House") dx (putF "rooms" (.ref tr) (putF "signs" (.str (tx S.ls)) []))) := upd_same
        have hr6 : SqT K (upd H6 a (.ins (He.ga K "House") dx (putF "rooms" (.ref tr) (putF "signs" (.str (tx S.ls)) [])))) tr (R'.map fun q => V.ref q.1) := t_ins ha6 (sq_t e6)
        have hq6 : ∀ q ∈ R', SqT K (upd H6 a (.ins (He.ga K "House") dx (putF "rooms" (.ref tr) (putF "signs" (.str (tx S.ls)) [])))) q.1 (q.2.map V.int) := fun q hq => t_ins ha6 (sm_t s6 (h3 q hq))
        generalize upd H6 a (.ins (He.ga K "House") dx (putF "rooms" (.ref tr) (putF "signs" (.str (tx S.ls)) []))) = G2 at *
        walk_at "g"
        refine k_nSgM (walk_list (xs := L.map fun q => V.ref q.1)) (fun H' s2 => sm_l s2 hE6) (by rw [List.length_map]; omega) (fun i ms => ms = (L.take i).map (·.2)) rfl (fun i v H1 H2 ms Kp Ks hi s1 hms hy hKp hKs => ?ht3) (fun ps Hs ms L' ns ss es tL iL lL' hms => ?he3)
        case ht3 =>
          obtain ⟨rfl, hv⟩ := hy
          obtain ⟨r, hr0, rfl⟩ := map_get hv
          have hm0 := List.mem_of_getElem? hr0
          obtain ⟨s, x, y, ek, b1, b2, b3, b4⟩ := ok.ev r.2 (by rw [← eL]; exact List.mem_map.mpr ⟨r, hm0, rfl⟩)
          have hrT : SqT K H2 r.1 [V.str (if s = true then Str.ofString "right" else Str.ofString "left"), .int x, .int y] := by
            have h := sm_t s1 (hL6 r hm0)
            rw [ek] at h
            exact h
          walk_at "g"
          refine ⟨rfl, ?_⟩
          walk_at "g"
          refine k_nTup (by walk_at "sz") (fun T H5 n5 s5 e5 => hKp (kEat s x y) T H5 s5 (sq_t e5) ?_)
          rw [hms, take_more hr0, List.map_append, ← ek]
          rfl
        case he3 =>
          have lLm : (L.map fun q => V.ref q.1).length = L.length := List.length_map _
          rw [lLm, List.take_length, eL] at hms
          subst hms
          have kn : ∀ q ∈ L', ∃ s x y, q.2 = kEat s x y := fun q hq => by
            obtain ⟨s, x, y, e, _⟩ := ok.ev q.2 ((iL q.2).mp (List.mem_map.mpr ⟨q, hq, rfl⟩))
            exact ⟨s, x, y, e⟩
          walk_at "g"
          refine k_sortM es tL (fun d hd d' hd' => ?_) (fun q hq => ?_) (fun L2 p2 H7 pm nd pw n7 s7 e7' => ?_)
          · obtain ⟨q, hq, rfl⟩ := List.mem_map.mp hd
            obtain ⟨q', hq', rfl⟩ := List.mem_map.mp hd'
            obtain ⟨s, x, y, e⟩ := kn q hq
            obtain ⟨s', x', y', e'⟩ := kn q' hq'
            unfold Gk.encM
            rw [e, e']
            rfl
          · obtain ⟨s, x, y, e⟩ := kn q hq
            rw [e]
            exact fun z => by cases z
          walk_at "g"
          refine k_tup_l (sq_l e7') (fun p8 H8 n8 s8 e8 => ?_)
          have s68 := (ss.trans s7).trans s8
          have ha8 := s68 _ _ hA6
          have hr8 := sm_t s68 hr6
          have hq8 : ∀ q ∈ R', SqT K H8 q.1 (q.2.map V.int) := fun q hq => sm_t s68 (hq6 q hq)
          have hL8 : ∀ q ∈ L2, SqT K H8 q.1 (q.2.map kV) := fun q hq => sm_t (s7.trans s8) (tL q (pm.mem_iff.mp hq))
          walk_at "g"
          simp only [upd_upd]
          refine q _ (fun b u hb e => by rw [upd_ne hb]; exact s68 b u (hb6 b u hb e)) ⟨dx, tr, p8, R', L2, upd_same, t_ins ha8 hr8, fun q hq => t_ins ha8 (hq8 q hq), e3, t_ins ha8 (sq_t e8), fun q hq => t_ins ha8 (hL8 q hq), (pm.map _).nodup_iff.mpr nd, fun k => ?_, pw⟩
          rw [(pm.map (·.2)).mem_iff]
          exact iL k
/-! ### what a house tells -/
def spHsM (K : PySem.W.Frag) (g : HsD → V) : Sp := fun vs H Q _ => ∃ (a : Addr) (S : HsD), vs = [.ref a] ∧ HsAt K H a S ∧ Q (g S) H
theorem ok_House_letters (F : FnM K "letters" "House.letters" s_House_letters (He.ma K (He.ga K "House") "letters") fd) (hC : HsC K) (me : Meth K (He.ga K "House") "letters" (He.ma K (He.ga K "House") "letters")) : CalleeM P w K mg base CX0 "House" "letters" 1 (spHsM K fun S => .str (tx S.ls)) := by
  refine ⟨hC.c, me, fd, ["self"], F.ok sc_House_letters (fun vs H Q E h => ?hl) (fun cdv A outer s H vs Q E hr h => ⟨_, PSs.nox (pss_one (ps_ret (pe_fldK K (pv 0) rfl))), ?rd⟩), F.bindsN fun _ _ _ _ _ _ us hl => match us, hl with | [_], _ => rfl⟩
  case hl =>
    obtain ⟨a, S, rfl, _⟩ := h
    rfl
  case rd =>
    obtain ⟨a, S, rfl, ⟨dx, r, t, R, L, h1, h2⟩, q⟩ := h
    obtain ⟨hc, n1, n2, n3, n4, n5, n6, n7⟩ := hC
    refine k_start (σ' := [some _]) rfl ?_
    walk_at "g"
    exact q
theorem ok_House_most (F : FnM K "most" "House.most" s_House_most (He.ma K (He.ga K "House") "most") fd) (hC : HsC K) (me : Meth K (He.ga K "House") "most" (He.ma K (He.ga K "House") "most")) : CalleeM P w K mg base CX0 "House" "most" 1 (spHsM K fun S => .int S.mo) := by
  refine ⟨hC.c, me, fd, ["self"], F.ok sc_House_most (fun vs H Q E h => ?hl) (fun cdv A outer s H vs Q E hr h => ⟨_, PSs.nox (pss_one (ps_ret (pe_fldK K (pv 0) rfl))), ?rd⟩), F.bindsN fun _ _ _ _ _ _ us hl => match us, hl with | [_], _ => rfl⟩
  case hl =>
    obtain ⟨a, S, rfl, _⟩ := h
    rfl
  case rd =>
    obtain ⟨a, S, rfl, ⟨dx, r, t, R, L, h1, h2⟩, q⟩ := h
    obtain ⟨hc, n1, n2, n3, n4, n5, n6, n7⟩ := hC
    refine k_start (σ' := [some _]) rfl ?_
    walk_at "g"
    exact q
/-! ### tastes -/
def pos (c : Nat) : List Nat → Nat
  | [] => 0
  | x :: r => if x = c then 0 else pos c r + 1
theorem pos_ok {c : Nat} : ∀ {l : List Nat}, c ∈ l → l[pos c l]? = some c ∧ ∀ j, j < pos c l → l[j]? ≠ some c
  | x :: r, h => by
    unfold pos
    by_cases e : x = c
    · rw [if_pos e]
      exact ⟨by rw [e]; rfl, fun j hj => absurd hj (Nat.not_lt_zero j)⟩
    · rw [if_neg e]
      obtain ⟨h1, h2⟩ := pos_ok (c := c) (l := r) ((List.mem_cons.mp h).resolve_left fun z => e z.symm)
      refine ⟨h1, fun j hj => ?_⟩
      cases j with
      | zero => exact fun z => e (Option.some.inj z)
      | succ j => exact h2 j (by omega)
def stepT (S : HsD) (here : Int) (c : Nat) : Int := (S.tb.getD here.toNat []).getD (pos c S.ls) 0
def tasteF (S : HsD) (cs : List Nat) : Int := cs.foldl (stepT S) 0
theorem stepT_ok {S : HsD} (ok : HsOk S) {here : Int} {c : Nat} (h0 : 0 ≤ here) (h1 : here < S.tb.length) (hc : c ∈ S.ls) :
    ∃ r, S.tb[here.toNat]? = some r ∧ r[pos c S.ls]? = some (stepT S here c) ∧ 0 ≤ stepT S here c ∧ stepT S here c < S.tb.length := by
  have hk : here.toNat < S.tb.length := by omega
  have e : S.tb[here.toNat]? = some S.tb[here.toNat] := List.getElem?_eq_getElem hk
  obtain ⟨w1, w2⟩ := ok.tw S.tb[here.toNat] (List.getElem_mem hk)
  have hp : pos c S.ls < S.tb[here.toNat].length := by
    rw [w1]
    exact (List.getElem?_eq_some_iff.mp (pos_ok hc).1).1
  have g : S.tb.getD here.toNat [] = S.tb[here.toNat] := by
    rw [List.getD_eq_getElem?_getD, e]
    rfl
  have e2 : stepT S here c = S.tb[here.toNat][pos c S.ls] := by
    unfold stepT
    rw [g, List.getD_eq_getElem?_getD, List.getElem?_eq_getElem hp]
    rfl
  refine ⟨_, e, by rw [e2, List.getElem?_eq_getElem hp], ?_⟩
  rw [e2]
  exact w2 _ (List.getElem_mem hp)
theorem taste_in {S : HsD} (ok : HsOk S) : ∀ (cs : List Nat) (here : Int), 0 ≤ here → here < S.tb.length → (∀ c ∈ cs, c ∈ S.ls) → 0 ≤ cs.foldl (stepT S) here ∧ cs.foldl (stepT S) here < S.tb.length
  | [], _, h0, h1, _ => ⟨h0, h1⟩
  | c :: cs, here, h0, h1, hc => by
    obtain ⟨r, _, _, a, b⟩ := stepT_ok ok h0 h1 (hc c (List.mem_cons_self ..))
    exact taste_in ok cs _ a b fun d hd => hc d (List.mem_cons_of_mem _ hd)
theorem at_pos {α : Type} {xs : List α} {z : Int} {v : α} (h0 : 0 ≤ z) (h : xs[z.toNat]? = some v) : atI xs z = some v := at_n (j := z.toNat) (by omega) h
def spTasted (K : PySem.W.Frag) : Sp := fun vs H Q _ => ∃ (a : Addr) (S : HsD) (cs : List Nat), vs = [.ref a, .str (tx cs)] ∧ HsAt K H a S ∧ HsOk S ∧ (∀ c ∈ cs, c ∈ S.ls) ∧ Q (.int (tasteF S cs)) H
theorem ok_House_tasted (F : FnM K "tasted" "House.tasted" s_House_tasted (He.ma K (He.ga K "House") "tasted") fd) (hC : HsC K) (me : Meth K (He.ga K "House") "tasted" (He.ma K (He.ga K "House") "tasted")) : CalleeM P w K mg base CX0 "House" "tasted" 1 (spTasted K) := by
  refine ⟨hC.c, me, fd, ["self", "word"], F.ok sc_House_tasted (fun vs H Q E h => ?hl) (fun cdv A outer s H vs Q E hr h => ⟨_, PSs.nox (pss_cons (ps_set (i := 2) sc_House_tasted.nd rfl (by first | exact Or.inl rfl | exact Or.inr rfl) pe_int)
      (pss_cons (ps_for PassesOwn.never rfl (pi_str (pv 1)) (pg_name (i := 3) sc_House_tasted.nd rfl (by first | exact Or.inl rfl | exact Or.inr rfl)) (pss_one (ps_set (i := 2) sc_House_tasted.nd rfl (by first | exact Or.inl rfl | exact Or.inr rfl) (pe_ix (ix_k K) (pe_ix (ix_k K) (pe_fldK K (pv 0) rfl) (pv 2) (fun _ _ => rfl)) (pe_bmK K PySem.F.plainAttrs_str PySem.F.slot_str_index PySem.F.type_str_index mt_sindex (pe_fldK K (pv 0) rfl) (pa_cons (pv 3) pa_nil)) (fun _ _ => rfl)))))
      (pss_one (ps_ret (pv 2))))), ?rd⟩), F.bindsN fun _ _ _ _ _ _ us hl => match us, hl with | [_, _], _ => rfl⟩
  case hl =>
    obtain ⟨a, S, cs, rfl, _⟩ := h
    rfl
  case rd =>
    obtain ⟨a, S, cs, rfl, ⟨dx, r, t, R, L, h1, h2, h3, h4, _⟩, ok, hcs, q⟩ := h
    obtain ⟨hc, n1, n2, n3, n4, n5, n6, n7⟩ := hC
    refine k_start (σ' := [some _, some _, none, none]) rfl ?_
    have t1 := ok.t1
    walk_at "g"
    refine k_nFor (walk_str (z := tx cs)) (fun i σ H' => (∃ y3, σ = [some (.ref a), some (.str (tx cs)), some (.int ((cs.take i).foldl (stepT S) 0)), y3]) ∧ H' = H) ⟨⟨_, rfl⟩, rfl⟩ (fun _ _ _ _ _ => trivial) (fun i x σ Ha Hb hi h hy => ?ht) (fun σ H' h => ?he)
    case he =>
      obtain ⟨⟨y3, rfl⟩, rfl⟩ := h
      have e : (tx cs).cps.size = cs.length := len_tx cs
      rw [e, List.take_length]
      walk_at "g"
      exact q
    case ht =>
      obtain ⟨⟨y3, rfl⟩, rfl⟩ := h
      obtain ⟨rfl, c, hc', rfl⟩ := hy
      have hci : cs[i]? = some c := by rw [← hc']; exact Array.getElem?_toList (xs := cs.toArray)
      have hcl := hcs c (List.mem_of_getElem? hci)
      obtain ⟨b0, b1⟩ := taste_in ok (cs.take i) 0 (Int.le_refl _) (by omega) fun d hd => hcs d (List.mem_of_mem_take hd)
      obtain ⟨row, er, es, _, _⟩ := stepT_ok ok b0 b1 hcl
      rw [take_more hci, List.foldl_append]
      generalize (cs.take i).foldl (stepT S) 0 = here at *
      have er2 := er
      rw [← h4, List.getElem?_map] at er2
      obtain ⟨q0, hq0, rfl⟩ := Option.map_eq_some_iff.mp er2
      walk_at "g"
      refine k_ix_t h2 (v := .ref q0.1) (at_pos b0 (by rw [List.getElem?_map, hq0]; rfl)) ?_
      walk_at "g"
      obtain ⟨rest, eo⟩ := occ_one (pos_ok hcl).1 (pos_ok hcl).2
      refine ⟨tx S.ls, ⟨#[c]⟩, pos c S.ls, rest, rfl, rfl, eo, ?_⟩
      refine k_ix_t (h3 q0 (List.mem_of_getElem? hq0)) (v := .int (stepT S here c)) (at_n (j := pos c S.ls) rfl (by rw [List.getElem?_map, es]; rfl)) ?_
      walk_at "g"
      exact ⟨⟨_, rfl⟩, rfl⟩
theorem ok_House_chew (F : FnM K "chew" "House.chew" s_House_chew (He.ma K (He.ga K "House") "chew") fd) (hC : HsC K) (me : Meth K (He.ga K "House") "chew" (He.ma K (He.ga K "House") "chew")) : CalleeM P w K mg base CX0 "House" "chew" 1 (spHsM K fun S => .int S.ch) := by
  refine ⟨hC.c, me, fd, ["self"], F.ok sc_House_chew (fun vs H Q E h => ?hl) (fun cdv A outer s H vs Q E hr h => ⟨_, PSs.nox (pss_one (ps_ret (pe_fldK K (pv 0) rfl))), ?rd⟩), F.bindsN fun _ _ _ _ _ _ us hl => match us, hl with | [_], _ => rfl⟩
  case hl =>
    obtain ⟨a, S, rfl, _⟩ := h
    rfl
  case rd =>
    obtain ⟨a, S, rfl, ⟨dx, r, t, R, L, h1, h2⟩, q⟩ := h
    obtain ⟨hc, n1, n2, n3, n4, n5, n6, n7⟩ := hC
    refine k_start (σ' := [some _]) rfl ?_
    walk_at "g"
    exact q
theorem ok_House_put (F : FnM K "put" "House.put" s_House_put (He.ma K (He.ga K "House") "put") fd) (hC : HsC K) (me : Meth K (He.ga K "House") "put" (He.ma K (He.ga K "House") "put")) : CalleeM P w K mg base CX0 "House" "put" 1 (spHsM K fun S => .str (tx S.pt)) := by
  refine ⟨hC.c, me, fd, ["self"], F.ok sc_House_put (fun vs H Q E h => ?hl) (fun cdv A outer s H vs Q E hr h => ⟨_, PSs.nox (pss_one (ps_ret (pe_fldK K (pv 0) rfl))), ?rd⟩), F.bindsN fun _ _ _ _ _ _ us hl => match us, hl with | [_], _ => rfl⟩
  case hl =>
    obtain ⟨a, S, rfl, _⟩ := h
    rfl
  case rd =>
    obtain ⟨a, S, rfl, ⟨dx, r, t, R, L, h1, h2⟩, q⟩ := h
    obtain ⟨hc, n1, n2, n3, n4, n5, n6, n7⟩ := hC
    refine k_start (σ' := [some _]) rfl ?_
    walk_at "g"
    exact q
theorem ok_House_cut (F : FnM K "cut" "House.cut" s_House_cut (He.ma K (He.ga K "House") "cut") fd) (hC : HsC K) (me : Meth K (He.ga K "House") "cut" (He.ma K (He.ga K "House") "cut")) : CalleeM P w K mg base CX0 "House" "cut" 1 (spHsM K fun S => .int S.cu) := by
  refine ⟨hC.c, me, fd, ["self"], F.ok sc_House_cut (fun vs H Q E h => ?hl) (fun cdv A outer s H vs Q E hr h => ⟨_, PSs.nox (pss_one (ps_ret (pe_fldK K (pv 0) rfl))), ?rd⟩), F.bindsN fun _ _ _ _ _ _ us hl => match us, hl with | [_], _ => rfl⟩
  case hl =>
    obtain ⟨a, S, rfl, _⟩ := h
    rfl
  case rd =>
    obtain ⟨a, S, rfl, ⟨dx, r, t, R, L, h1, h2⟩, q⟩ := h
    obtain ⟨hc, n1, n2, n3, n4, n5, n6, n7⟩ := hC
    refine k_start (σ' := [some _]) rfl ?_
    walk_at "g"
    exact q
/-! ### steps over a house -/
section
variable {H : Hp} {Q : VK} {a : Addr} {S : HsD} {m : Str} {A : Prop} {E : XK}
def hFs (S : HsD) (r t : Addr) : List (Str × V) := [("signs", .str (tx S.ls)), ("rooms", .ref r), ("triples", .ref t), ("chewed", .int S.ch), ("putting", .str (tx S.pt)), ("span", .int S.mo), ("cutting", .int S.cu)]
theorem k_hsm {g : HsD → V} (hs : HsAt K H a S) (h : Q (g S) H) : spHsM K g (.ref a :: ([] ++ [])) H Q E := ⟨a, S, rfl, hs, h⟩
theorem k_nMethH (hs : HsAt K H a S) (hl : ∀ r t, (hFs S r t).lookup m = none) (h : A) : nMeth (He.ga K "House") m (.ref a) H A := by
  obtain ⟨dx, r, t, R, L, h1, _⟩ := hs
  exact ⟨a, dx, hFs S r t, rfl, h1, hl r t, h⟩
end
end
end Lw
set_option autoImplicit true
set_option pp.maxSteps 1200
set_option Elab.async false
set_option linter.all false
set_option maxRecDepth 100000
set_option maxHeartbeats 1000000
namespace Lw
open PySem PySem.Spec PyProof.Rows L2 Gk

local macro_rules | `(tactic| walk_at "hp") => `(tactic| first | assumption | exact upd_same | (refine' (upd_ne ?n).trans ?h; (case n => assumption); (case h => walk_at "hp")) | (refine' sm_get ?s ?h; (case s => assumption); (case h => walk_at "hp")))
local macro_rules | `(tactic| walk_at "sq") => `(tactic| first | assumption | (refine' sq_l ?h; (case h => walk_at "hp")) | (refine' sm_l ?s ?h; (case s => assumption); (case h => walk_at "sq")))
local macro_rules | `(tactic| walk_at "st") => `(tactic| first | assumption | (refine' sq_t ?h; (case h => walk_at "hp")) | (refine' sm_t ?s ?h; (case s => assumption); (case h => walk_at "st")))
local macro_rules | `(tactic| walk_at "bg") => `(tactic| first | assumption | (refine' BagOk.sm ?s ?h; (case s => assumption); (case h => walk_at "bg")))
local macro_rules | `(tactic| walk_at "sm") => `(tactic| first | assumption | exact Same.refl _ | (refine' Same.trans ?h ?s; (case s => assumption); (case h => walk_at "sm")))
local macro_rules | `(tactic| walk_at "hs") => `(tactic| first | assumption | (refine' HsAt.sm ?s ?h; (case s => assumption); (case h => walk_at "hs")))
local macro_rules | `(tactic| walk_at "ms") => `(tactic| first | assumption | (refine' MAt.sm ?s ?h; (case s => assumption); (case h => walk_at "ms")))
local macro_rules | `(tactic| walk_at "md") => `(tactic| first | assumption | (refine' MDk.sm ?s ?h; (case s => assumption); (case h => walk_at "md")))
local macro_rules | `(tactic| walk_at "dp") => `(tactic| first | assumption | (refine' dp_sm ?s ?h; (case s => assumption); (case h => walk_at "dp")))
local macro_rules | `(tactic| walk_at "sz") => `(tactic| first | decide | assumption | omega | (simp only [List.length_cons, List.length_nil, List.length_map, List.length_append]; omega))
local macro_rules | `(tactic| walk_at "g1") => `(tactic| first
  | with_reducible refine k_seq ?_
  | with_reducible refine k_itB ?_
  | with_reducible refine k_next ?_
  | with_reducible refine k_asg ?_
  | with_reducible refine k_name ?_
  | with_reducible refine k_ret ?_
  | with_reducible refine k_retN ?_
  | with_reducible refine k_drop ?_
  | with_reducible refine k_ifs ?_
  | with_reducible refine k_brk ?_
  | with_reducible refine k_cont ?_
  | with_reducible refine k_ipI ?_
  | with_reducible refine k_test ?_
  | with_reducible refine k_tB ?_
  | with_reducible refine k_bl ?_
  | with_reducible refine k_not ?_
  | with_reducible refine k_and ?_
  | with_reducible refine k_or ?_
  | with_reducible refine k_yes ?_
  | with_reducible refine k_true ?_
  | with_reducible refine k_false ?_
  | with_reducible refine k_nt ?_
  | with_reducible refine k_c ?_
  | with_reducible refine k_op ?_
  | with_reducible refine k_un ?_
  | with_reducible refine k_if ?_
  | with_reducible refine k_chain ?_
  | with_reducible refine k_nil ?_
  | with_reducible refine k_cons ?_
  | with_reducible refine k_cb ?_
  | with_reducible refine k_call ?_
  | with_reducible refine k_callS ?_
  | with_reducible refine k_andV ?_
  | with_reducible refine k_orV ?_
  | with_reducible refine k_notV ?_
  | with_reducible refine k_lst ?_
  | with_reducible refine k_tup ?_
  | with_reducible refine k_nopart ?_
  | with_reducible refine k_part ?_
  | with_reducible refine k_nInt ?_
  | with_reducible refine k_sl ?_
  | with_reducible refine k_bm ?_
  | with_reducible refine k_bm0 ?_
  | with_reducible refine k_nTyS ?_
  | with_reducible refine k_m1 ?_
  | with_reducible refine k_m0 ?_
  | with_reducible refine k_nStr ?_
  | with_reducible refine k_I0 ?_
  | with_reducible refine k_U ?_
  | with_reducible refine k_add_i ?_
  | with_reducible refine k_eq_i ?_
  | with_reducible refine k_eq_s ?_
  | with_reducible refine k_eq_b ?_
  | with_reducible refine k_ne_i ?_
  | with_reducible refine k_ne_s ?_
  | with_reducible refine k_ne_b ?_
  | with_reducible refine k_le_i ?_
  | with_reducible refine k_le_s ?_
  | with_reducible refine k_gnil ?_
  | with_reducible refine k_gcons ?_
  | with_reducible refine k_gsub ?_
  | with_reducible refine k_for ?_
  | with_reducible refine k_lc ?_
  | with_reducible refine k_rng1 ?_
  | with_reducible refine k_rng2 ?_
  | with_reducible refine k_itl ?_
  | with_reducible refine k_itt ?_
  | with_reducible refine k_its ?_
  | with_reducible refine k_ite ?_
  | with_reducible refine k_iteB ?_
  | with_reducible refine k_lrg2 ?_
  | with_reducible refine k_itz ?_
  | with_reducible refine k_nIts ?_
  | with_reducible refine k_inS ?_
  | with_reducible refine k_niS ?_
  | with_reducible refine k_mk ?_
  | with_reducible refine k_meth ?_
  | with_reducible refine k_fld ?_
  | with_reducible refine k_sfld ?_
  | with_reducible refine k_dg ?_
  | with_reducible refine k_dp ?_
  | with_reducible refine k_pr ?_
  | with_reducible refine k_pr0 ?_
  | with_reducible refine k_sg ?_
  | with_reducible refine k_lc2 ?_
  | with_reducible refine k_callN ?_
  | with_reducible refine k_callNS ?_
  | with_reducible refine k_par ?_
  | with_reducible refine k_nPar ?_
  | with_reducible refine k_isNn ?_
  | with_reducible refine k_isNr ?_
  | with_reducible refine k_ntNn ?_
  | with_reducible refine k_ntNr ?_
  | with_reducible refine k_min2 ?_
  | with_reducible refine k_max2 ?_
  | with_reducible refine k_intB ?_
  | with_reducible refine k_intI ?_
  | with_reducible refine k_isBl ?_
  | with_reducible refine k_ntBl ?_
  | ((with_reducible refine' k_var ?kv ?_); (case kv => exact rfl))
  | ((with_reducible refine' k_aug ?kv ?_); (case kv => exact rfl))
  | ((with_reducible refine' k_ix_l ?ks ?ki ?_); (case ks => walk_at "sq"); (case ki => exact rfl))
  | ((with_reducible refine' k_ix_t ?ks ?ki ?_); (case ks => walk_at "st"); (case ki => exact rfl))
  | ((with_reducible refine' k_len_l ?ks ?_); (case ks => walk_at "sq"))
  | ((with_reducible refine' k_len_t ?ks ?_); (case ks => walk_at "st"))
  | ((with_reducible refine' k_setL ?ks ?ki ?_); (case ks => walk_at "hp"); (case ki => exact rfl))
  | ((with_reducible refine' k_nTyL ?ks ?_); (case ks => walk_at "sq"))
  | ((with_reducible refine' k_nItl ?ks ?_); (case ks => walk_at "sq"))
  | ((with_reducible refine' k_nItt ?ks ?_); (case ks => walk_at "st"))
  | ((with_reducible refine' k_nIte ?ks ?_); (case ks => walk_at "sq"))
  | ((with_reducible refine' k_mul ?km ?_); (case km => first | exact Or.inr ⟨by decide, by decide⟩ | exact Or.inl ⟨by decide, by decide⟩))
  | ((with_reducible refine' k_I ?km ?_); (case km => first | assumption | decide | exact ⟨by decide, by decide +kernel⟩ | exact ⟨by decide, by decide, by decide⟩))
  | ((with_reducible refine' k_nMeth ?kp ?kl ?_); (case kp => walk_at "hp"); (case kl => exact rfl))
  | ((with_reducible refine' k_nFld ?kp ?kc ?kn ?kl ?_); (case kp => walk_at "hp"); (case kc => assumption); (case kn => assumption); (case kl => exact rfl))
  | ((with_reducible refine' k_nSFld ?kp ?kc ?kn ?kl ?_); (case kp => walk_at "hp"); (case kc => assumption); (case kn => assumption); (case kl => exact of_decide_eq_true rfl))
  | ((with_reducible refine' k_nDg ?kp ?kl ?_); (case kp => walk_at "hp"); (case kl => exact rfl))
  | ((with_reducible refine' k_nRng1 ?k1 ?k2 ?_); (case k1 => omega); (case k2 => omega))
  | ((with_reducible refine' k_nKw ?k1 ?k2 ?_); (case k1 => exact rfl); (case k2 => exact rfl))
  | ((with_reducible refine' k_hsm ?kh ?_); (case kh => walk_at "hs"))
  | ((with_reducible refine' k_nMethH ?kh ?kl ?_); (case kh => walk_at "hs"); (case kl => exact fun _ _ => rfl))
  | ((with_reducible refine' k_mLet ?kh ?_); (case kh => walk_at "ms"))
  | ((with_reducible refine' k_mChew ?kh ?_); (case kh => walk_at "ms"))
  | ((with_reducible refine' k_mPut ?kh ?_); (case kh => walk_at "ms"))
  | ((with_reducible refine' k_mMost ?kh ?_); (case kh => walk_at "ms"))
  | ((with_reducible refine' k_mCut ?kh ?_); (case kh => walk_at "ms"))
  | ((with_reducible refine' k_mTab ?kh ?_); (case kh => walk_at "md"))
  | ((with_reducible refine' k_mEats ?kh ?_); (case kh => walk_at "md"))
  | ((with_reducible refine' k_gtup ?ks ?kl ?_); (case ks => walk_at "st"); (case kl => exact rfl)))
local macro_rules | `(tactic| walk_at "g") => `(tactic| repeat (walk_at "g1"))
local macro_rules | `(tactic| walk_at "w1") => `(tactic| first
  | walk_at "g1"
  | ((with_reducible refine' k_decT ?kp ?_); (case kp => omega))
  | ((with_reducible refine' k_decF ?kp ?_); (case kp => omega))
  | ((with_reducible refine' k_decNT ?kp ?_); (case kp => omega))
  | ((with_reducible refine' k_decNF ?kp ?_); (case kp => omega)))
local macro_rules | `(tactic| walk_at "w") => `(tactic| repeat (walk_at "w1"))


section
variable {P : Program} {w : World} {K : PySem.W.Frag} {mg : Str → Option Value} {base : Heap} {f : Addr} {fd : FuncData}
/-! ### words of a house -/
def isW (S : HsD) (z : Str) : Bool := decide (1 ≤ z.length) && (decide ((z.length : Int) ≤ S.mo) && (TL.tl z).all fun c => decide (c ∈ S.ls))
def spIsWord (K : PySem.W.Frag) : Sp := fun vs H Q _ => ∃ (a : Addr) (S : HsD) (z : Str), vs = [.ref a, .str z] ∧ HsAt K H a S ∧ z.length ≤ 1000 ∧ ∀ H', Same H H' → Q (.bl (isW S z)) H'
theorem ok_is_word (F : FnP K "is_word" s_is_word f fd) (hm : mg "is_word" = some (.ref f)) (f_len : mg "len" = none) (f_all : mg "all" = none) (c_House_letters : CalleeM P w K mg base CX0 "House" "letters" 1 (spHsM K fun S => .str (tx S.ls))) (c_House_most : CalleeM P w K mg base CX0 "House" "most" 1 (spHsM K fun S => .int S.mo)) : Callee P w K mg base CX0 "is_word" 2 [] (spIsWord K) := by
  refine ⟨f, fd, _, [], F.ok sc_is_word (fun vs H Q E h => ?hl) (fun cdv A outer s H vs Q E hr h => ⟨_, PSs.nox (pss_one (ps_ret (pe_and (pe_chain op_leU op_leU pe_int (pe_callB (call_lenK K) (by rfl) f_len PySem.boot_len (pa_cons (pv 1) pa_nil)) (pe_mt0 c_House_most hr (pv 0) pass0)) (pe_one (pe_callB (cr_allK K) (by rfl) f_all (by decide +kernel) (pa_cons (pe_lc (own := [("sign", 2)]) rfl sc_is_word.nd (pi_str (pv 1)) (blkOk_by (N := ["house", "text", "sign"]) (sc := defScope s_is_word) (by decide +kernel)) (fun _ _ _ _ _ => (pg_name (i := 2) sc_is_word.nd rfl (by first | exact Or.inl rfl | exact Or.inr rfl))) (fun _ _ _ _ _ => pts_nil) (fun _ _ _ _ _ => (pe_cmpR op_inS (pv 2) (pe_mt0 c_House_letters hr (pv 0) pass0) (by rfl)))) pa_nil)))))), ?rd⟩), hm, F.kp, F.bindsN fun _ _ _ _ _ _ us hl => match us, hl with | [_, _], _ => rfl, .nil⟩
  case hl =>
    obtain ⟨a, S, z, rfl, _⟩ := h
    rfl
  case rd =>
    obtain ⟨a, S, z, rfl, hs, lz, q⟩ := h
    have hs0 := hs
    obtain ⟨dx, r, t, R, L, h1, _⟩ := hs0
    refine k_start (σ' := [some _, some _, none]) rfl ?_
    unfold isW at q
    walk_at "g"
    refine k_len_s (by omega) ?_
    walk_at "g"
    refine k_dec (fun d1 => ?_) (fun d1 => ?_)
    · walk_at "g"
      rw [decide_eq_true (show 1 ≤ z.length by omega), Bool.true_and] at q
      refine k_dec (fun d2 => ?_) (fun d2 => ?_)
      · walk_at "g"
        rw [decide_eq_true d2, Bool.true_and] at q
        have sz : z.cps.size = z.length := rfl
        refine k_nLc (walk_str (z := z)) (fun _ _ => trivial) (fun i ws => ws = ((TL.tl z).take i).map fun c => V.bl (decide (c ∈ S.ls))) rfl (fun i vs hi hw => ?hz2) (fun i v Hc Hd vs Kp Ks hi sa2 hvs hy2 hKp hKs => ?ht2) (fun p Hp vs np sp ep hvs => ?he2)
        case hz2 =>
          rw [hw, List.length_map, List.length_take]
          omega
        case ht2 =>
          obtain ⟨rfl, c, hc, rfl⟩ := hy2
          have hsD := hs.sm sa2
          obtain ⟨dx2, r2, t2, R2, L2, h12, _⟩ := id hsD
          walk_at "g"
          refine ⟨rfl, ?_⟩
          walk_at "g"
          have hc' : (TL.tl z)[i]? = some c := by
            rw [← hc]
            exact Array.getElem?_toList
          exact hKp _ _ (Same.refl _) (by rw [hvs, take_more hc', List.map_append]; rfl)
        case he2 =>
          walk_at "g"
          have eu : (TL.tl z).take z.cps.size = TL.tl z := List.take_of_length_le (by simp)
          rw [hvs, eu] at ep
          refine k_all (bs := (TL.tl z).map fun c => decide (c ∈ S.ls)) (sq_l (by rw [ep, List.map_map]; rfl)) ?_
          rw [show ((TL.tl z).map fun c => decide (c ∈ S.ls)).all id = (TL.tl z).all fun c => decide (c ∈ S.ls) by rw [List.all_map]; rfl]
          walk_at "g"
          exact q _ sp
      · walk_at "g"
        rw [decide_eq_false d2, Bool.false_and] at q
        exact q _ (Same.refl _)
    · walk_at "g"
      rw [decide_eq_false (show ¬ 1 ≤ z.length by omega), Bool.false_and] at q
      exact q _ (Same.refl _)
/-! ### all words -/
def lv (ls : List Nat) : Nat → List (List Nat)
  | 0 => [[]]
  | n + 1 => (lv ls n).flatMap fun u => ls.map fun c => u ++ [c]
def wordsF (ls : List Nat) (m : Nat) : List (List Nat) := (List.range m).flatMap fun i => lv ls (i + 1)
theorem lv_len (ls : List Nat) : ∀ n, (lv ls n).length = ls.length ^ n
  | 0 => rfl
  | n + 1 => by
    show ((lv ls n).flatMap _).length = _
    rw [List.length_flatMap, show ((lv ls n).map fun u => (ls.map fun c => u ++ [c]).length) = (lv ls n).map fun _ => ls.length by simp, List.map_const', List.sum_replicate_nat, lv_len ls n, Nat.pow_succ]
theorem lv_ok (ls : List Nat) : ∀ n, ∀ u ∈ lv ls n, u.length = n ∧ ∀ c ∈ u, c ∈ ls
  | 0, u, h => by
    cases List.mem_singleton.mp h
    exact ⟨rfl, fun c hc => nomatch hc⟩
  | n + 1, u, h => by
    obtain ⟨v, hv, h2⟩ := List.mem_flatMap.mp h
    obtain ⟨c, hc, rfl⟩ := List.mem_map.mp h2
    obtain ⟨l1, l2⟩ := lv_ok ls n v hv
    refine ⟨by rw [List.length_append, l1]; rfl, fun d hd => ?_⟩
    rcases List.mem_append.mp hd with hd | hd
    · exact l2 d hd
    · rw [List.mem_singleton.mp hd]
      exact hc
def tS (us : List (List Nat)) : List V := us.map fun u => V.str (tx u)
theorem tx_one (u : List Nat) (c : Nat) : tx u ++ (⟨#[c]⟩ : Str) = tx (u ++ [c]) := by
  show (⟨u.toArray ++ #[c]⟩ : Str) = ⟨(u ++ [c]).toArray⟩
  congr 1
  simp
theorem wcount_le {n m : Nat} (hm : m ≤ 3) (hn : 1 ≤ n) (h : wcount n m ≤ 14) : ∀ i, i < m → n ^ (i + 1) ≤ 14 := by
  intro i hi
  have e : ∀ k : Nat, ((n : Int) ^ k) = ((n ^ k : Nat) : Int) := fun k => by rw [Int.natCast_pow]
  have p1 : 0 ≤ ((n : Int) ^ 1) := by rw [e]; omega
  have p2 : 0 ≤ ((n : Int) ^ 2) := by rw [e]; omega
  have p3 : 0 ≤ ((n : Int) ^ 3) := by rw [e]; omega
  have e1 := e 1
  have e2 := e 2
  have e3 := e 3
  unfold wcount at h
  have : m = 1 ∨ m = 2 ∨ m = 3 := by omega
  rcases this with rfl | rfl | rfl
  · have : i = 0 := by omega
    subst this
    simp only [List.take, List.sum_cons, List.sum_nil] at h
    show n ^ 1 ≤ 14
    omega
  · have : i = 0 ∨ i = 1 := by omega
    simp only [List.take, List.sum_cons, List.sum_nil] at h
    rcases this with rfl | rfl
    · show n ^ 1 ≤ 14
      omega
    · show n ^ 2 ≤ 14
      omega
  · have : i = 0 ∨ i = 1 ∨ i = 2 := by omega
    simp only [List.take, List.sum_cons, List.sum_nil] at h
    rcases this with rfl | rfl | rfl
    · show n ^ 1 ≤ 14
      omega
    · show n ^ 2 ≤ 14
      omega
    · show n ^ 3 ≤ 14
      omega
theorem lv_small {S : HsD} (ok : HsOk S) {i : Nat} (hi : i ≤ S.mo.toNat) : (lv S.ls i).length ≤ 14 := by
  rw [lv_len]
  cases i with
  | zero => show 1 ≤ 14; decide
  | succ i => exact wcount_le (by have := ok.m3; omega) ok.l1 ok.mw i (by omega)
theorem words_small {S : HsD} (ok : HsOk S) : ∀ m, m ≤ S.mo.toNat → (wordsF S.ls m).length ≤ 14 * m
  | 0, _ => by show 0 ≤ 0; decide
  | m + 1, h => by
    unfold wordsF
    rw [List.range_succ, List.flatMap_append, List.length_append]
    have h1 := words_small ok m (by omega)
    unfold wordsF at h1
    have h2 := lv_small ok h
    simp only [List.flatMap_cons, List.flatMap_nil, List.append_nil]
    omega
theorem words_ok {ls : List Nat} {m : Nat} : ∀ u ∈ wordsF ls m, 1 ≤ u.length ∧ u.length ≤ m ∧ ∀ c ∈ u, c ∈ ls := by
  intro u hu
  obtain ⟨i, hi, h⟩ := List.mem_flatMap.mp hu
  have := List.mem_range.mp hi
  obtain ⟨l1, l2⟩ := lv_ok ls (i + 1) u h
  exact ⟨by omega, by omega, l2⟩
/-- the words of the next length, two fors at once -/
theorem longer (ls : List Nat) (us : List (List Nat)) (i : Nat) (u : List Nat) (hu : us[i]? = some u) : (us.take (i + 1)).flatMap (fun u => ls.map fun c => u ++ [c]) = (us.take i).flatMap (fun u => ls.map fun c => u ++ [c]) ++ ls.map fun c => u ++ [c] := by
  rw [take_more hu, List.flatMap_append]
  simp
theorem made_BadWord (F : FunD K "__init__" "BadWord.__init__" (defArgs s_BadWord_init) (defBody s_BadWord_init) (defScope s_BadWord_init) [] [] (He.ma K (He.ga K "BadWord") "__init__") fd) (gC : mg "BadWord" = some (.ref (He.ga K "BadWord"))) (O : Oex K (He.ga K "BadWord") (He.ma K (He.ga K "BadWord") "__init__"))
    (nw : PySem.W.findIn K (.ref (He.ga K "BadWord")) "word" = some none) (nf : PySem.W.findIn K (.ref (He.ga K "BadWord")) "at" = some none) : XCls P w K mg base "BadWord" 1 "BadWord" "at" := by
  refine ⟨gC, O, nw, nf, fd, ["self", "at"], F.ok sc_BadWord_init (fun vs H Q E h => ?_) (fun cdv A outer s H vs Q E hr h => ⟨_, PSs.nox (pss_cons (ps_ost (pv 0) pe_str) (pss_one (ps_ost (pv 0) (pv 1)))), x1_read O.T nw nf h rfl⟩), F.bindsN fun _ _ _ _ _ _ us hl => match us, hl with | [_, _], _ => rfl⟩
  obtain ⟨a, v, rfl, _⟩ := h
  rfl

/-! ### all tastes -/
/-! ### word by word -/
theorem mem_lv (ls : List Nat) : ∀ n (u : List Nat), u.length = n → (∀ c ∈ u, c ∈ ls) → u ∈ lv ls n
  | 0, u, h, _ => by
    rw [List.length_eq_zero_iff.mp h]
    exact List.mem_singleton.mpr rfl
  | n + 1, u, h, hc => by
    have ne : u ≠ [] := fun e => by rw [e] at h; cases h
    have e := List.dropLast_concat_getLast ne
    refine List.mem_flatMap.mpr ⟨u.dropLast, mem_lv ls n _ (by rw [List.length_dropLast]; omega) fun c hc' => hc c (List.dropLast_subset u hc'), List.mem_map.mpr ⟨u.getLast ne, hc _ (List.getLast_mem ne), e⟩⟩
theorem isW_mem {S : HsD} (m0 : 0 ≤ S.mo) (z : Str) : isW S z = decide (TL.tl z ∈ wordsF S.ls S.mo.toNat) := by
  have lz : z.length = (TL.tl z).length := TL.len_tl z
  unfold isW
  rw [Bool.eq_iff_iff]
  simp only [Bool.and_eq_true, decide_eq_true_eq, List.all_eq_true]
  constructor
  · rintro ⟨a, b, c⟩
    exact List.mem_flatMap.mpr ⟨z.length - 1, List.mem_range.mpr (by omega), mem_lv _ _ _ (by omega) c⟩
  · intro h
    obtain ⟨a, b, c⟩ := words_ok _ h
    exact ⟨by omega, by omega, c⟩
theorem len_le_of_nodup {α : Type} [DecidableEq α] : ∀ {l m : List α}, l.Nodup → (∀ x ∈ l, x ∈ m) → l.length ≤ m.length
  | [], m, _, _ => Nat.zero_le _
  | x :: l, m, nd, hs => by
    obtain ⟨n1, n2⟩ := List.nodup_cons.mp nd
    have pm : m.Perm (x :: m.erase x) := List.perm_cons_erase (hs x (List.mem_cons_self ..))
    have h := len_le_of_nodup (l := l) (m := m.erase x) n2 fun y hy => (List.mem_erase_of_ne (fun e => n1 (by rw [← e]; exact hy))).mpr (hs y (List.mem_cons_of_mem _ hy))
    rw [pm.length_eq, List.length_cons, List.length_cons]
    omega
theorem dp_tS {K : PySem.W.Frag} {H : Hp} : ∀ us : List (List Nat), DpAll K H (tS us) (us.map fun u => PyData.str (tx u))
  | [] => .nil
  | u :: us => .cons (.str _) (dp_tS us)
/-! ### rows -/
def firstBad (S : HsD) (us : List (List Nat)) : Option Nat := us.findIdx? fun u => !isW S (tx u)
def badAt (S : HsD) (us : List (List Nat)) : Option Nat := match firstBad S (us.take 12) with
  | some i => some i
  | none => if 12 < us.length then some 12 else none
theorem firstBad_none {S : HsD} {us : List (List Nat)} (h : ∀ u ∈ us, isW S (tx u) = true) : firstBad S us = none := by
  unfold firstBad
  rw [List.findIdx?_eq_none_iff]
  intro u hu
  rw [h u hu]
  rfl
theorem badAt_good {S : HsD} {us : List (List Nat)} (h : ∀ u ∈ us, isW S (tx u) = true) (hl : us.length ≤ 12) : badAt S us = none := by
  unfold badAt
  rw [firstBad_none fun u hu => h u (List.mem_of_mem_take hu)]
  exact if_neg (by omega)
theorem isW_word {S : HsD} (ok : HsOk S) {u : List Nat} (h : u ∈ wordsF S.ls S.mo.toNat) : isW S (tx u) = true := by
  rw [isW_mem (by have := ok.m1; omega), tl_tx]
  exact decide_eq_true h
theorem word_isW {S : HsD} (ok : HsOk S) {u : List Nat} (h : isW S (tx u) = true) : u ∈ wordsF S.ls S.mo.toNat := by
  rw [isW_mem (by have := ok.m1; omega), tl_tx] at h
  exact of_decide_eq_true h
/-- words of the house -/
def AllW (S : HsD) (us : List (List Nat)) : Prop := ∀ u ∈ us, u ∈ wordsF S.ls S.mo.toNat
theorem AllW.bad {S : HsD} (ok : HsOk S) {us : List (List Nat)} (h : AllW S us) (hl : us.length ≤ 12) : badAt S us = none := badAt_good (fun u hu => isW_word ok (h u hu)) hl
theorem AllW.len {S : HsD} (ok : HsOk S) {us : List (List Nat)} (h : AllW S us) : ∀ u ∈ us, 1 ≤ u.length ∧ u.length ≤ 3 ∧ ∀ c ∈ u, c ∈ S.ls := fun u hu => by
  obtain ⟨a, b, c⟩ := words_ok u (h u hu)
  have := ok.m3
  exact ⟨a, by omega, c⟩
theorem getS {us : List (List Nat)} {i : Nat} {u : List Nat} (h : us[i]? = some u) : (tS us)[i]? = some (.str (tx u)) := by
  unfold tS
  rw [List.getElem?_map, h]
  rfl
theorem len_tS (us : List (List Nat)) : (tS us).length = us.length := List.length_map _
theorem tS_app (us vs : List (List Nat)) : tS (us ++ vs) = tS us ++ tS vs := List.map_append
theorem tS_take (us : List (List Nat)) (n : Nat) : (tS us).take n = tS (us.take n) := by
  unfold tS
  rw [List.map_take]
theorem tS_drop (us : List (List Nat)) (n : Nat) : (tS us).drop n = tS (us.drop n) := by
  unfold tS
  rw [List.map_drop]
def spNeedRow (K : PySem.W.Frag) : Sp := fun vs H Q E => ∃ (a r : Addr) (S : HsD) (us : List (List Nat)) (t : Bool), vs = [.ref a, .ref r] ∧ HsAt K H a S ∧ SqB K t H r (tS us) ∧ us.length ≤ 10000 ∧ (∀ u ∈ us, u.length ≤ 1000) ∧
  (badAt S us = none → ∀ H', Same H H' → Q .non H') ∧ (∀ i, badAt S us = some i → ∀ d H', H d = none → Same H H' → H' d = some (.xd (xfs "BadWord" "at" (.int (i : Nat)))) → E (.ref (He.ga K "BadWord")) (some d) H')
theorem ok_need_row (F : FnP K "need_row" s_need_row f fd) (hm : mg "need_row" = some (.ref f)) (f_len : mg "len" = none) (f_enumerate : mg "enumerate" = none) (c_MOST_ROW : ∃ t, mg "MOST_ROW" = some (.int 12 t)) (c_is_word : Callee P w K mg base CX0 "is_word" 2 [] (spIsWord K)) (c_BadWord : XCls P w K mg base "BadWord" 1 "BadWord" "at") : Callee P w K mg base (L2.CX P w) "need_row" 3 [] (spNeedRow K) := by
  refine ⟨f, fd, _, [], F.ok sc_need_row (fun vs H Q E h => ?hl) (fun cdv A outer s H vs Q E hr h => ⟨_, (pss_cons (ps_for (passes_of rfl) rfl (pi_enumB (K := K) (by rfl) f_enumerate (pa_cons (pe_slice (sl_k K) (pv 1) po_none (po_some (pe_gi c_MOST_ROW))) pa_nil)) (pg_tupK K 2 (by rfl) (pgs_cons (pg_name (i := 2) sc_need_row.nd rfl (by first | exact Or.inl rfl | exact Or.inr rfl)) (pgs_cons (pg_name (i := 3) sc_need_row.nd rfl (by first | exact Or.inl rfl | exact Or.inr rfl)) pgs_nil))) (pss_one (ps_if (pt_not (pt_val (pe_cl c_is_word hr (pa_cons (pv 0) (pa_cons (pv 3) pa_nil)) pass0))) (pss_one (ps_raise rfl (takes_of rfl rfl rfl rfl) (pmk_x1 c_BadWord hr (pa_cons (pv 2) pa_nil)))) pss_nil)))
      (pss_one (ps_if (pt_cmpR op_gt (pe_callB (call_lenK K) (by rfl) f_len PySem.boot_len (pa_cons (pv 1) pa_nil)) (pe_gi c_MOST_ROW) (nomark _)) (pss_one (ps_raise rfl (takes_of rfl rfl rfl rfl) (pmk_x1 c_BadWord hr (pa_cons (pe_gi c_MOST_ROW) pa_nil)))) pss_nil))), ?rd⟩), hm, F.kp, F.bindsN fun _ _ _ _ _ _ us hl => match us, hl with | [_, _], _ => rfl, .nil⟩
  case hl =>
    obtain ⟨a, r, S, us, t, rfl, _⟩ := h
    rfl
  case rd =>
    obtain ⟨a, r, S, us, t, rfl, hs, hx, lu, lw, q1, q2⟩ := h
    refine k_start (σ' := [some _, some _, none, none]) rfl ?_
    walk_at "g"
    refine k_sl_b hx (fun p1 H1 s1 e1 => ?_)
    rw [cutV_toI _ _ (by decide), tS_take] at e1
    have l12 : (us.take 12).length ≤ 12 := by
      rw [List.length_take]
      omega
    walk_at "g"
    refine k_nIteB e1 ?_
    refine k_nFor (walk_enumB (xs := tS (us.take 12))) (fun i σ H' => (∃ y2 y3, σ = [some (.ref a), some (.ref r), y2, y3]) ∧ Same H1 H' ∧ ∀ j, j < i → ∀ u, (us.take 12)[j]? = some u → isW S (tx u) = true) ⟨⟨_, _, rfl⟩, Same.refl _, fun j hj => absurd hj (Nat.not_lt_zero j)⟩ (fun i σ H' _ h => sm_b h.2.1 e1) (fun i x σ Ha Hb hi h hy => ?ht) (fun σ H' h => ?he)
    case he =>
      obtain ⟨⟨y2, y3, rfl⟩, sa, al⟩ := h
      have fb : firstBad S (us.take 12) = none := fidx_none fun k v hv => by
        rw [al k (by rw [len_tS]; exact (List.getElem?_eq_some_iff.mp hv).1) v hv]
        rfl
      have lx : (tS us).length = us.length := len_tS us
      walk_at "g"
      refine k_len_b (sm_b (s1.trans sa) hx) ?_
      walk_at "g"
      rw [lx]
      refine k_dec (fun d => ?_) (fun d => ?_)
      · walk_at "g"
        refine k_x1 fun d' H' nd sd ed => q2 12 ?_ d' H' ((s1.trans sa).free nd) ((s1.trans sa).trans sd) ed
        unfold badAt
        rw [fb]
        exact if_pos (by omega)
      · walk_at "g"
        refine q1 ?_ _ (s1.trans sa)
        unfold badAt
        rw [fb]
        exact if_neg (by omega)
    case ht =>
      obtain ⟨⟨y2, y3, rfl⟩, sa, al⟩ := h
      obtain ⟨T, xi, yi, rfl, nT, rfl, ex, ey⟩ := hy
      have sT : Same Ha (upd Ha T (.tup [xi, yi])) := sm_new nT
      have eT : (upd Ha T (.tup [xi, yi])) T = some (.tup [xi, yi]) := upd_same
      generalize upd Ha T (.tup [xi, yi]) = Hb at sT eT
      cases ex
      obtain ⟨u, hu, rfl⟩ := map_get ey
      have hm : u ∈ us := List.mem_of_mem_take (List.mem_of_getElem? hu)
      have sx := s1.trans (sa.trans sT)
      walk_at "g"
      refine ⟨a, S, tx u, rfl, hs.sm sx, by rw [len_tx]; exact lw u hm, fun H2 s2 => ?_⟩
      have hlt : i < (us.take 12).length := (List.getElem?_eq_some_iff.mp hu).1
      walk_at "g"
      cases hw : isW S (tx u) with
      | false =>
        walk_at "g"
        refine k_x1 fun d' H' nd sd ed => q2 i ?_ d' H' ((sx.trans s2).free nd) ((sx.trans s2).trans sd) ed
        have fb : firstBad S (us.take 12) = some i := fidx_some hu (by rw [hw]; rfl) fun k hk v hv => by
          rw [al k hk v hv]
          rfl
        unfold badAt
        rw [fb]
      | true =>
        walk_at "g"
        refine ⟨⟨_, _, rfl⟩, sa.trans (sT.trans s2), fun j hj v hv => ?_⟩
        rcases Nat.lt_succ_iff_lt_or_eq.mp hj with hj | rfl
        · exact al j hj v hv
        · rw [hu] at hv
          cases hv
          exact hw
end
end Lw
set_option autoImplicit true
set_option pp.maxSteps 1200
set_option Elab.async false
set_option linter.all false
set_option maxRecDepth 100000
set_option maxHeartbeats 1000000
namespace Lw
open PySem PySem.Spec PyProof.Rows L2 Gk
open PySem.W (EachIs AllAlike Sortable dataLe dataLt alike keyToks)

local macro_rules | `(tactic| walk_at "hp") => `(tactic| first | assumption | exact upd_same | (refine' (upd_ne ?n).trans ?h; (case n => assumption); (case h => walk_at "hp")) | (refine' sm_get ?s ?h; (case s => assumption); (case h => walk_at "hp")))
local macro_rules | `(tactic| walk_at "sq") => `(tactic| first | assumption | (refine' sq_l ?h; (case h => walk_at "hp")) | (refine' sm_l ?s ?h; (case s => assumption); (case h => walk_at "sq")))
local macro_rules | `(tactic| walk_at "st") => `(tactic| first | assumption | (refine' sq_t ?h; (case h => walk_at "hp")) | (refine' sm_t ?s ?h; (case s => assumption); (case h => walk_at "st")))
local macro_rules | `(tactic| walk_at "bg") => `(tactic| first | assumption | (refine' BagOk.sm ?s ?h; (case s => assumption); (case h => walk_at "bg")))
local macro_rules | `(tactic| walk_at "sm") => `(tactic| first | assumption | exact Same.refl _ | (refine' Same.trans ?h ?s; (case s => assumption); (case h => walk_at "sm")))
local macro_rules | `(tactic| walk_at "hs") => `(tactic| first | assumption | (refine' HsAt.sm ?s ?h; (case s => assumption); (case h => walk_at "hs")))
local macro_rules | `(tactic| walk_at "ms") => `(tactic| first | assumption | (refine' MAt.sm ?s ?h; (case s => assumption); (case h => walk_at "ms")))
local macro_rules | `(tactic| walk_at "md") => `(tactic| first | assumption | (refine' MDk.sm ?s ?h; (case s => assumption); (case h => walk_at "md")))
local macro_rules | `(tactic| walk_at "dp") => `(tactic| first | assumption | (refine' dp_sm ?s ?h; (case s => assumption); (case h => walk_at "dp")))
local macro_rules | `(tactic| walk_at "sz") => `(tactic| first | decide | assumption | omega | (simp only [List.length_cons, List.length_nil, List.length_map, List.length_append]; omega))
local macro_rules | `(tactic| walk_at "g1") => `(tactic| first
  | with_reducible refine k_seq ?_
  | with_reducible refine k_itB ?_
  | with_reducible refine k_next ?_
  | with_reducible refine k_asg ?_
  | with_reducible refine k_name ?_
  | with_reducible refine k_ret ?_
  | with_reducible refine k_retN ?_
  | with_reducible refine k_drop ?_
  | with_reducible refine k_ifs ?_
  | with_reducible refine k_brk ?_
  | with_reducible refine k_cont ?_
  | with_reducible refine k_ipI ?_
  | with_reducible refine k_test ?_
  | with_reducible refine k_tB ?_
  | with_reducible refine k_bl ?_
  | with_reducible refine k_not ?_
  | with_reducible refine k_and ?_
  | with_reducible refine k_or ?_
  | with_reducible refine k_yes ?_
  | with_reducible refine k_true ?_
  | with_reducible refine k_false ?_
  | with_reducible refine k_nt ?_
  | with_reducible refine k_c ?_
  | with_reducible refine k_op ?_
  | with_reducible refine k_un ?_
  | with_reducible refine k_if ?_
  | with_reducible refine k_chain ?_
  | with_reducible refine k_nil ?_
  | with_reducible refine k_cons ?_
  | with_reducible refine k_cb ?_
  | with_reducible refine k_call ?_
  | with_reducible refine k_callS ?_
  | with_reducible refine k_andV ?_
  | with_reducible refine k_orV ?_
  | with_reducible refine k_notV ?_
  | with_reducible refine k_lst ?_
  | with_reducible refine k_tup ?_
  | with_reducible refine k_nopart ?_
  | with_reducible refine k_part ?_
  | with_reducible refine k_nInt ?_
  | with_reducible refine k_sl ?_
  | with_reducible refine k_bm ?_
  | with_reducible refine k_bm0 ?_
  | with_reducible refine k_nTyS ?_
  | with_reducible refine k_m1 ?_
  | with_reducible refine k_m0 ?_
  | with_reducible refine k_nStr ?_
  | with_reducible refine k_I0 ?_
  | with_reducible refine k_U ?_
  | with_reducible refine k_add_i ?_
  | with_reducible refine k_eq_i ?_
  | with_reducible refine k_eq_s ?_
  | with_reducible refine k_eq_b ?_
  | with_reducible refine k_ne_i ?_
  | with_reducible refine k_ne_s ?_
  | with_reducible refine k_ne_b ?_
  | with_reducible refine k_le_i ?_
  | with_reducible refine k_le_s ?_
  | with_reducible refine k_gnil ?_
  | with_reducible refine k_gcons ?_
  | with_reducible refine k_gsub ?_
  | with_reducible refine k_for ?_
  | with_reducible refine k_lc ?_
  | with_reducible refine k_rng1 ?_
  | with_reducible refine k_rng2 ?_
  | with_reducible refine k_itl ?_
  | with_reducible refine k_itt ?_
  | with_reducible refine k_its ?_
  | with_reducible refine k_ite ?_
  | with_reducible refine k_iteB ?_
  | with_reducible refine k_lrg2 ?_
  | with_reducible refine k_itz ?_
  | with_reducible refine k_nIts ?_
  | with_reducible refine k_inS ?_
  | with_reducible refine k_niS ?_
  | with_reducible refine k_mk ?_
  | with_reducible refine k_meth ?_
  | with_reducible refine k_fld ?_
  | with_reducible refine k_sfld ?_
  | with_reducible refine k_dg ?_
  | with_reducible refine k_dp ?_
  | with_reducible refine k_pr ?_
  | with_reducible refine k_pr0 ?_
  | with_reducible refine k_sg ?_
  | with_reducible refine k_lc2 ?_
  | with_reducible refine k_callN ?_
  | with_reducible refine k_callNS ?_
  | with_reducible refine k_par ?_
  | with_reducible refine k_nPar ?_
  | with_reducible refine k_isNn ?_
  | with_reducible refine k_isNr ?_
  | with_reducible refine k_ntNn ?_
  | with_reducible refine k_ntNr ?_
  | with_reducible refine k_min2 ?_
  | with_reducible refine k_max2 ?_
  | with_reducible refine k_intB ?_
  | with_reducible refine k_intI ?_
  | with_reducible refine k_isBl ?_
  | with_reducible refine k_ntBl ?_
  | ((with_reducible refine' k_var ?kv ?_); (case kv => exact rfl))
  | ((with_reducible refine' k_aug ?kv ?_); (case kv => exact rfl))
  | ((with_reducible refine' k_ix_l ?ks ?ki ?_); (case ks => walk_at "sq"); (case ki => exact rfl))
  | ((with_reducible refine' k_ix_t ?ks ?ki ?_); (case ks => walk_at "st"); (case ki => exact rfl))
  | ((with_reducible refine' k_len_l ?ks ?_); (case ks => walk_at "sq"))
  | ((with_reducible refine' k_len_t ?ks ?_); (case ks => walk_at "st"))
  | ((with_reducible refine' k_setL ?ks ?ki ?_); (case ks => walk_at "hp"); (case ki => exact rfl))
  | ((with_reducible refine' k_nTyL ?ks ?_); (case ks => walk_at "sq"))
  | ((with_reducible refine' k_nItl ?ks ?_); (case ks => walk_at "sq"))
  | ((with_reducible refine' k_nItt ?ks ?_); (case ks => walk_at "st"))
  | ((with_reducible refine' k_nIte ?ks ?_); (case ks => walk_at "sq"))
  | ((with_reducible refine' k_mul ?km ?_); (case km => first | exact Or.inr ⟨by decide, by decide⟩ | exact Or.inl ⟨by decide, by decide⟩))
  | ((with_reducible refine' k_I ?km ?_); (case km => first | assumption | decide | exact ⟨by decide, by decide +kernel⟩ | exact ⟨by decide, by decide, by decide⟩))
  | ((with_reducible refine' k_nMeth ?kp ?kl ?_); (case kp => walk_at "hp"); (case kl => exact rfl))
  | ((with_reducible refine' k_nFld ?kp ?kc ?kn ?kl ?_); (case kp => walk_at "hp"); (case kc => assumption); (case kn => assumption); (case kl => exact rfl))
  | ((with_reducible refine' k_nSFld ?kp ?kc ?kn ?kl ?_); (case kp => walk_at "hp"); (case kc => assumption); (case kn => assumption); (case kl => exact of_decide_eq_true rfl))
  | ((with_reducible refine' k_nDg ?kp ?kl ?_); (case kp => walk_at "hp"); (case kl => exact rfl))
  | ((with_reducible refine' k_nRng1 ?k1 ?k2 ?_); (case k1 => omega); (case k2 => omega))
  | ((with_reducible refine' k_nKw ?k1 ?k2 ?_); (case k1 => exact rfl); (case k2 => exact rfl))
  | ((with_reducible refine' k_hsm ?kh ?_); (case kh => walk_at "hs"))
  | ((with_reducible refine' k_nMethH ?kh ?kl ?_); (case kh => walk_at "hs"); (case kl => exact fun _ _ => rfl))
  | ((with_reducible refine' k_mLet ?kh ?_); (case kh => walk_at "ms"))
  | ((with_reducible refine' k_mChew ?kh ?_); (case kh => walk_at "ms"))
  | ((with_reducible refine' k_mPut ?kh ?_); (case kh => walk_at "ms"))
  | ((with_reducible refine' k_mMost ?kh ?_); (case kh => walk_at "ms"))
  | ((with_reducible refine' k_mCut ?kh ?_); (case kh => walk_at "ms"))
  | ((with_reducible refine' k_mTab ?kh ?_); (case kh => walk_at "md"))
  | ((with_reducible refine' k_mEats ?kh ?_); (case kh => walk_at "md"))
  | ((with_reducible refine' k_gtup ?ks ?kl ?_); (case ks => walk_at "st"); (case kl => exact rfl)))
local macro_rules | `(tactic| walk_at "g") => `(tactic| repeat (walk_at "g1"))
local macro_rules | `(tactic| walk_at "w1") => `(tactic| first
  | walk_at "g1"
  | ((with_reducible refine' k_decT ?kp ?_); (case kp => omega))
  | ((with_reducible refine' k_decF ?kp ?_); (case kp => omega))
  | ((with_reducible refine' k_decNT ?kp ?_); (case kp => omega))
  | ((with_reducible refine' k_decNF ?kp ?_); (case kp => omega)))
local macro_rules | `(tactic| walk_at "w") => `(tactic| repeat (walk_at "w1"))


section
variable {P : Program} {w : World} {K : PySem.W.Frag} {mg : Str → Option Value} {base : Heap} {f : Addr} {fd : FuncData}
/-! ### a long word cut -/
def cutW (S : HsD) (u : List Nat) : List (List Nat) :=
  if h : S.mo < u.length ∧ 1 ≤ S.cu ∧ 0 < u.length then u.take S.cu.toNat :: cutW S (u.drop S.cu.toNat) else [u]
termination_by u.length
decreasing_by
  rw [List.length_drop]
  omega
theorem cutW_more {S : HsD} (ok : HsOk S) {u : List Nat} (h : S.mo < u.length) : cutW S u = u.take S.cu.toNat :: cutW S (u.drop S.cu.toNat) := by
  have := ok.k1
  have := ok.m1
  rw [cutW, dif_pos ⟨h, by omega, by omega⟩]
theorem cutW_last {S : HsD} {u : List Nat} (h : ¬ S.mo < u.length) : cutW S u = [u] := by
  rw [cutW, dif_neg fun z => h z.1]
theorem cutW_words {S : HsD} (ok : HsOk S) : ∀ (n : Nat) (u : List Nat), u.length ≤ n → 1 ≤ u.length → (∀ c ∈ u, c ∈ S.ls) → (∀ v ∈ cutW S u, v ∈ wordsF S.ls S.mo.toNat) ∧ (cutW S u).length ≤ u.length
  | n, u, hn, h1, hc => by
    have k1 := ok.k1
    have km := ok.km
    have m1 := ok.m1
    have mem : ∀ v : List Nat, 1 ≤ v.length → (v.length : Int) ≤ S.mo → (∀ c ∈ v, c ∈ S.ls) → v ∈ wordsF S.ls S.mo.toNat := fun v a b c => List.mem_flatMap.mpr ⟨v.length - 1, List.mem_range.mpr (by omega), mem_lv _ _ _ (by omega) c⟩
    by_cases h : S.mo < u.length
    · cases n with
      | zero => omega
      | succ n =>
        have ld : (u.drop S.cu.toNat).length = u.length - S.cu.toNat := List.length_drop
        obtain ⟨a, b⟩ := cutW_words ok n (u.drop S.cu.toNat) (by omega) (by omega) fun c h => hc c (List.mem_of_mem_drop h)
        rw [cutW_more ok h]
        refine ⟨fun v hv => ?_, by rw [List.length_cons]; omega⟩
        rcases List.mem_cons.mp hv with rfl | hv
        · exact mem _ (by rw [List.length_take]; omega) (by rw [List.length_take]; omega) fun c h => hc c (List.mem_of_mem_take h)
        · exact a v hv
    · rw [cutW_last h]
      refine ⟨fun v hv => ?_, by show 1 ≤ _; exact h1⟩
      rw [List.mem_singleton.mp hv]
      exact mem u h1 (by omega) hc
def spCut (K : PySem.W.Frag) : Sp := fun vs H Q _ => ∃ (a : Addr) (S : HsD) (u : List Nat), vs = [.ref a, .str (tx u)] ∧ HsAt K H a S ∧ HsOk S ∧ u.length ≤ 1000 ∧ ∀ p H', H p = none → Same H H' → H' p = some (.lst (tS (cutW S u))) → Q (.ref p) H'
theorem ok_cut_long (F : FnP K "cut_long" s_cut_long f fd) (hm : mg "cut_long" = some (.ref f)) (f_len : mg "len" = none) (c_House_most : CalleeM P w K mg base CX0 "House" "most" 1 (spHsM K fun S => .int S.mo)) (c_House_cut : CalleeM P w K mg base CX0 "House" "cut" 1 (spHsM K fun S => .int S.cu)) : Callee P w K mg base CX0 "cut_long" 2 [] (spCut K) := by
  refine ⟨f, fd, _, [], F.ok sc_cut_long (fun vs H Q E h => ?hl) (fun cdv A outer s H vs Q E hr h => ⟨_, PSs.nox (pss_cons (ps_set (i := 2) sc_cut_long.nd rfl (by first | exact Or.inl rfl | exact Or.inr rfl) (pe_lst pa_nil))
      (pss_cons (ps_set (i := 3) sc_cut_long.nd rfl (by first | exact Or.inl rfl | exact Or.inr rfl) (pv 1))
      (pss_cons (ps_while PassesOwn.never (pt_cmpR op_gt (pe_callB (call_lenK K) (by rfl) f_len PySem.boot_len (pa_cons (pv 3) pa_nil)) (pe_mt0 c_House_most hr (pv 0) pass0) (nomark _)) (pss_cons (ps_expr (pe_bmK K PySem.F.plainAttrs_list PySem.F.slot_list_append PySem.F.type_list_append mt_append (pv 2) (pa_cons (pe_slice (sl_k K) (pv 3) po_none (po_some (pe_mt0 c_House_cut hr (pv 0) pass0))) pa_nil)))
      (pss_one (ps_set (i := 3) sc_cut_long.nd rfl (by first | exact Or.inl rfl | exact Or.inr rfl) (pe_slice (sl_k K) (pv 3) (po_some (pe_mt0 c_House_cut hr (pv 0) pass0)) po_none)))))
      (pss_one (ps_ret (pe_op (op_addK K) (pv 2) (pe_lst (pa_cons (pv 3) pa_nil)))))))), ?rd⟩), hm, F.kp, F.bindsN fun _ _ _ _ _ _ us hl => match us, hl with | [_, _], _ => rfl, .nil⟩
  case hl =>
    obtain ⟨a, S, u, rfl, _⟩ := h
    rfl
  case rd =>
    obtain ⟨a, S, u, rfl, hs, ok, lu, q⟩ := h
    refine k_start (σ' := [some _, some _, none, none]) rfl ?_
    have m1 := ok.m1
    have k1 := ok.k1
    have km := ok.km
    walk_at "g"
    refine k_nLst (by walk_at "sz") (fun p1 H1 n1 s1 e1 => ?_)
    walk_at "g"
    refine k_while (fun m σ H' => ∃ (v : List Nat) (acc : List (List Nat)), σ = [some (.ref a), some (.str (tx u)), some (.ref p1), some (.str (tx v))] ∧ Same H H' ∧ H' p1 = some (.lst (tS acc)) ∧ acc ++ cutW S v = cutW S u ∧ m = v.length ∧ acc.length + v.length ≤ u.length) ⟨_, u, [], rfl, s1, e1, rfl, rfl, by simp⟩ (fun m σ H' h => ?hw)
    obtain ⟨v, acc, rfl, sa, ea, hcut, rfl, hl⟩ := h
    have lv := len_tx v
    walk_at "g"
    refine k_len_s (by omega) ?_
    walk_at "g"
    rw [lv]
    refine k_turnD (fun d => k_turnT ?_) (fun d => k_turnF ?_)
    · walk_at "g"
      refine k_sl_s (by omega) ?_
      rw [cutS_to _ _ (by omega)]
      walk_at "g"
      refine k_append ea (by rw [len_tS]; omega) ?_
      have sb : Same H (upd H' p1 (.lst (tS acc ++ [V.str (tx (v.take S.cu.toNat))]))) := sm_mut sa n1
      have eb : (upd H' p1 (.lst (tS acc ++ [V.str (tx (v.take S.cu.toNat))]))) p1 = some (.lst (tS acc ++ [V.str (tx (v.take S.cu.toNat))])) := upd_same
      generalize upd H' p1 (.lst (tS acc ++ [V.str (tx (v.take S.cu.toNat))])) = Hb at sb eb ⊢
      walk_at "g"
      refine k_sl_s (by omega) ?_
      rw [cutS_from _ _ (by omega)]
      walk_at "g"
      have ld : (v.drop S.cu.toNat).length = v.length - S.cu.toNat := List.length_drop
      refine ⟨_, ?_, v.drop S.cu.toNat, acc ++ [v.take S.cu.toNat], rfl, sb, by rw [eb, tS_app]; rfl, by rw [← hcut, cutW_more (u := v) ok (by omega), List.append_assoc]; rfl, rfl, by rw [List.length_append, ld]; show acc.length + 1 + _ ≤ _; omega⟩
      omega
    · walk_at "g"
      refine k_nLst (by walk_at "sz") (fun p2 H2 n2 s2 e2 => ?_)
      refine k_add_l (s2 _ _ ea) e2 (by rw [len_tS]; show _ + 1 ≤ _; omega) (fun p3 H3 n3 s3 e3 => ?_)
      refine q p3 H3 ((sa.trans s2).free n3) ((sa.trans s2).trans s3) ?_
      rw [e3, ← hcut, cutW_last (by omega), tS_app]
      rfl
/-! ### what comes of a bite -/
def growF (S : HsD) (right : Bool) (er en : List Nat) : List Nat := if right = true then (S.pt ++ er) ++ en.drop S.ch.toNat else (en.take (en.length - S.ch.toNat) ++ er) ++ S.pt
theorem growF_len (S : HsD) (right : Bool) (er en : List Nat) : (growF S right er en).length = S.pt.length + er.length + (en.length - S.ch.toNat) := by
  unfold growF
  split
  · rw [List.length_append, List.length_append, List.length_drop]
  · rw [List.length_append, List.length_append, List.length_take]
    omega
theorem growF_in {S : HsD} (ok : HsOk S) {right : Bool} {er en : List Nat} (h1 : ∀ c ∈ er, c ∈ S.ls) (h2 : ∀ c ∈ en, c ∈ S.ls) : ∀ c ∈ growF S right er en, c ∈ S.ls := fun c hc => by
  unfold growF at hc
  split at hc
  · rcases List.mem_append.mp hc with hc | hc
    · exact (List.mem_append.mp hc).elim (ok.pl c) (h1 c)
    · exact h2 c (List.mem_of_mem_drop hc)
  · rcases List.mem_append.mp hc with hc | hc
    · exact (List.mem_append.mp hc).elim (fun h => h2 c (List.mem_of_mem_take h)) (h1 c)
    · exact ok.pl c hc
def sdS (right : Bool) : Str := if right = true then Str.ofString "right" else Str.ofString "left"
theorem sdS_right (b : Bool) : decide (sdS b = Str.ofString "right") = b := by cases b <;> decide +kernel
theorem sdS_left (b : Bool) : decide (sdS b = Str.ofString "left") = !b := by cases b <;> decide +kernel
def spGrown (K : PySem.W.Frag) : Sp := fun vs H Q _ => ∃ (a : Addr) (S : HsD) (er en : List Nat) (b : Bool), vs = [.ref a, .str (tx er), .str (tx en), .str (sdS b)] ∧ HsAt K H a S ∧ HsOk S ∧ er.length ≤ 1000 ∧ en.length ≤ 1000 ∧ Q (.str (tx (growF S b er en))) H
theorem ok_grown (F : FnP K "grown" s_grown f fd) (hm : mg "grown" = some (.ref f)) (f_len : mg "len" = none) (f_max : mg "max" = none) (c_House_put : CalleeM P w K mg base CX0 "House" "put" 1 (spHsM K fun S => .str (tx S.pt))) (c_House_chew : CalleeM P w K mg base CX0 "House" "chew" 1 (spHsM K fun S => .int S.ch)) : Callee P w K mg base CX0 "grown" 2 [] (spGrown K) := by
  refine ⟨f, fd, _, [], F.ok sc_grown (fun vs H Q E h => ?hl) (fun cdv A outer s H vs Q E hr h => ⟨_, PSs.nox (pss_cons (ps_if (pt_cmpR (op_eqK K hr.units) (pv 3) pe_str (nomark _)) (pss_one (ps_ret (pe_op (op_addK K) (pe_op (op_addK K) (pe_mt0 c_House_put hr (pv 0) pass0) (pv 1)) (pe_slice (sl_k K) (pv 2) (po_some (pe_mt0 c_House_chew hr (pv 0) pass0)) po_none)))) pss_nil)
      (pss_one (ps_ret (pe_op (op_addK K) (pe_op (op_addK K) (pe_slice (sl_k K) (pv 2) po_none (po_some (pe_callB call_maxK (by rfl) f_max (by decide +kernel) (pa_cons pe_int (pa_cons (pe_op op_sub (pe_callB (call_lenK K) (by rfl) f_len PySem.boot_len (pa_cons (pv 2) pa_nil)) (pe_mt0 c_House_chew hr (pv 0) pass0)) pa_nil))))) (pv 1)) (pe_mt0 c_House_put hr (pv 0) pass0))))), ?rd⟩), hm, F.kp, F.bindsN fun _ _ _ _ _ _ us hl => match us, hl with | [_, _, _, _], _ => rfl, .nil⟩
  case hl =>
    obtain ⟨a, S, er, en, b, rfl, _⟩ := h
    rfl
  case rd =>
    obtain ⟨a, S, er, en, b, rfl, hs, ok, l1, l2, q⟩ := h
    refine k_start (σ' := [some _, some _, some _, some _]) rfl ?_
    have c0 := ok.c0
    have p2 := ok.p2
    have lp := len_tx S.pt
    have lr := len_tx er
    have ln := len_tx en
    walk_at "g"
    rw [sdS_right]
    unfold growF at q
    cases b with
    | true =>
      rw [if_pos rfl] at q
      walk_at "g"
      refine k_add_s (by omega) ?_
      rw [tx_app]
      walk_at "g"
      refine k_sl_s (by omega) ?_
      rw [cutS_from _ _ c0]
      refine k_add_s (by rw [len_tx, len_tx, List.length_append, List.length_drop]; omega) ?_
      rw [tx_app]
      exact q
    | false =>
      rw [if_neg (by decide)] at q
      walk_at "g"
      refine k_len_s (by omega) ?_
      rw [ln]
      walk_at "g"
      refine k_sl_s (by omega) ?_
      rw [cutS_to _ _ (by omega), show (max (0 : Int) ((en.length : Int) - S.ch)).toNat = en.length - S.ch.toNat by omega]
      walk_at "g"
      refine k_add_s (by rw [len_tx, len_tx, List.length_take]; omega) ?_
      rw [tx_app]
      walk_at "g"
      refine k_add_s (by rw [len_tx, len_tx, List.length_append, List.length_take]; omega) ?_
      rw [tx_app]
      exact q
/-! ### the row behind a bite -/
def eatsF (S : HsD) (b : Bool) (er en : List Nat) : Bool := S.tr.any fun k => decide (k = kEat b (tasteF S er) (tasteF S en))
/-- what stands in the place of two words -/
def madeF (S : HsD) (b : Bool) (x y : List Nat) : List (List Nat) := cutW S (growF S b (if b = true then x else y) (if b = true then y else x))
/-- the bite of the two words from low on; b: the left one eats the right one -/
def biteF (S : HsD) (us : List (List Nat)) (low : Nat) (b : Bool) : Option (List (List Nat)) := match us[low]?, us[low + 1]? with
  | some x, some y => if eatsF S b (if b = true then x else y) (if b = true then y else x) = true then
      (if us.take low ++ madeF S b x y ++ us.drop (low + 2) = us then none else some (us.take low ++ madeF S b x y ++ us.drop (low + 2))) else none
  | _, _ => none
def behF (S : HsD) (us : List (List Nat)) (place : Int) (b : Bool) : Option (List (List Nat)) := if 0 ≤ (if b = true then place else place - 1) then biteF S us (if b = true then place else place - 1).toNat b else none
/-- a side by its word -/
def behS (S : HsD) (us : List (List Nat)) (place : Int) (z : Str) : Option (List (List Nat)) := if z = Str.ofString "left" then behF S us place false else if z = Str.ofString "right" then behF S us place true else none
theorem behS_sd (S : HsD) (us : List (List Nat)) (place : Int) (b : Bool) : behS S us place (sdS b) = behF S us place b := by
  unfold behS
  cases b with
  | false => exact if_pos rfl
  | true => rw [if_neg (by decide +kernel)]; exact if_pos rfl
/-- a row, or None -/
def IsOpt (H H' : Hp) (v : V) : Option (List (List Nat)) → Prop
  | none => v = .non
  | some m => ∃ p, v = .ref p ∧ H p = none ∧ H' p = some (.lst (tS m))
theorem any_perm {α : Type} {l m : List α} {g : α → Bool} (h : ∀ x, x ∈ l ↔ x ∈ m) : l.any g = m.any g := by
  rw [Bool.eq_iff_iff, List.any_eq_true, List.any_eq_true]
  exact ⟨fun ⟨x, a, b⟩ => ⟨x, (h x).mp a, b⟩, fun ⟨x, a, b⟩ => ⟨x, (h x).mpr a, b⟩⟩
theorem good_row {us : List (List Nat)} (hp : ∀ u ∈ us, Pl (tx u) ∧ u.length ≤ 100000) (hl : us.length ≤ 50000) (j : Nat) : Good (j + 2) (.list (us.map fun u => PyData.str (tx u))) := ⟨by rw [List.length_map]; exact hl, fun e he => by
  obtain ⟨u, hu, rfl⟩ := List.mem_map.mp he
  exact ⟨(hp u hu).1, by rw [len_tx]; exact (hp u hu).2⟩⟩
theorem pl_in {S : HsD} (ok : HsOk S) {u : List Nat} (h : ∀ c ∈ u, c ∈ S.ls) : Pl (tx u) := fun c hc => by
  have := ok.rise.2 c (h c hc)
  unfold small at this
  omega
theorem eqv_rows (us vs : List (List Nat)) : PyData.eqv (.list (us.map fun u => PyData.str (tx u))) (.list (vs.map fun u => PyData.str (tx u))) = decide (us = vs) := by
  have h := eqv_strs (us.map tx) (vs.map tx)
  unfold dStrs at h
  rw [List.map_map, List.map_map] at h
  rw [show (fun u => PyData.str (tx u)) = PyData.str ∘ tx from rfl, h]
  by_cases e : us = vs
  · rw [e, decide_eq_true rfl, decide_eq_true rfl]
  · rw [decide_eq_false e, decide_eq_false fun z => e (List.map_inj_right (fun a b => tx_inj) |>.mp z)]
theorem deep_tr {S : HsD} (ok : HsOk S) {L : List RwM} (hL : ∀ k, k ∈ L.map (·.2) ↔ k ∈ S.tr) (nd : (L.map (·.2)).Nodup) : SeqAt.shaped (.tuple ((L.map (·.2)).map dKeys)) = true := by
  have e7 := ok.e7
  have ll : (L.map (·.2)).length ≤ S.tr.length := len_le_of_nodup nd fun k hk => (hL k).mp hk
  refine Good.shaped (j := 3) ⟨by rw [List.length_map]; omega, fun e he => ?_⟩ (by decide)
  obtain ⟨k, hk, rfl⟩ := List.mem_map.mp he
  obtain ⟨s, a, b, rfl, h1, h2, h3, h4⟩ := ok.ev k ((hL k).mp hk)
  have t4 := ok.t4
  have g : ∀ x : Int, 0 ≤ x → x < S.tb.length → x.natAbs.log2 < 1920 := fun x h0 h1 => by
    have := log_nat (k := x.toNat) (by omega)
    rwa [Int.toNat_of_nonneg h0] at this
  refine ⟨by show 3 ≤ 50000; decide, fun e he => ?_⟩
  rcases List.mem_cons.mp he with rfl | he
  · refine ⟨?_, ?_⟩ <;> cases s <;> first | exact pl_B (by decide +kernel) | decide +kernel
  rcases List.mem_cons.mp he with rfl | he
  · exact g a h1 h2
  rcases List.mem_cons.mp he with rfl | he
  · exact g b h3 h4
  cases he
theorem shaped_eat (b : Bool) {x y : Int} (h0 : 0 ≤ x) (h1 : x ≤ 100) (h2 : 0 ≤ y) (h3 : y ≤ 100) : SeqAt.shaped (dKeys (kEat b x y)) = true := by
  have g : ∀ x : Int, 0 ≤ x → x ≤ 100 → x.natAbs.log2 < 1920 := fun x h0 h1 => by
    have := log_nat (k := x.toNat) (by omega)
    rwa [Int.toNat_of_nonneg h0] at this
  refine Good.shaped (j := 2) ⟨by show 3 ≤ 50000; decide, fun e he => ?_⟩ (by decide)
  rcases List.mem_cons.mp he with rfl | he
  · refine ⟨?_, ?_⟩ <;> cases b <;> first | exact pl_B (by decide +kernel) | decide +kernel
  rcases List.mem_cons.mp he with rfl | he
  · exact g x h0 h1
  rcases List.mem_cons.mp he with rfl | he
  · exact g y h2 h3
  cases he
def spBehind (K : PySem.W.Frag) : Sp := fun vs H Q _ => ∃ (a r : Addr) (S : HsD) (us : List (List Nat)) (place : Int) (z : Str), vs = [.ref a, .ref r, .int place, .str z] ∧ HsAt K H a S ∧ HsOk S ∧ SqL K H r (tS us) ∧ AllW S us ∧ us.length ≤ 10000 ∧ ∀ v H', Same H H' → IsOpt H H' v (behS S us place z) → Q v H'
theorem tasteF_in {S : HsD} (ok : HsOk S) {u : List Nat} (h : ∀ c ∈ u, c ∈ S.ls) : 0 ≤ tasteF S u ∧ tasteF S u ≤ 100 := by
  have t1 := ok.t1
  have t4 := ok.t4
  obtain ⟨a, b⟩ := taste_in ok u 0 (Int.le_refl _) (by omega) h
  have b' : tasteF S u < S.tb.length := b
  exact ⟨a, by omega⟩
theorem dp_trs {H : Hp} : ∀ {L : List RwM}, (∀ q ∈ L, SqT K H q.1 (q.2.map kV)) → DpAll K H (L.map fun q => V.ref q.1) ((L.map (·.2)).map dKeys)
  | [], _ => .nil
  | q :: L, h => .cons (dp_keys (h q (List.mem_cons_self ..))) (dp_trs fun p hp => h p (List.mem_cons_of_mem _ hp))
theorem made_in {S : HsD} (ok : HsOk S) {us ms : List (List Nat)} {low : Nat} (hw : AllW S us) (hl : low + 1 < us.length) (hm : ∀ v ∈ ms, v ∈ wordsF S.ls S.mo.toNat) : AllW S (us.take low ++ ms ++ us.drop (low + 2)) := fun u hu => by
  rcases List.mem_append.mp hu with hu | hu
  · rcases List.mem_append.mp hu with hu | hu
    · exact hw u (List.mem_of_mem_take hu)
    · exact hm u hu
  · exact hw u (List.mem_of_mem_drop hu)
theorem good_allW {S : HsD} (ok : HsOk S) {us : List (List Nat)} (h : AllW S us) (hl : us.length ≤ 50000) (j : Nat) : Good (j + 2) (.list (us.map fun u => PyData.str (tx u))) := good_row (fun u hu => ⟨pl_in ok ((h.len ok) u hu).2.2, by have := ((h.len ok) u hu).2.1; omega⟩) hl j
/-- two rows, alike or not -/
theorem row_eq {S : HsD} {H : Hp} {Q : VK} {p r : Addr} {us vs : List (List Nat)} (ok : HsOk S) (hw : AllW S us) (lu : us.length ≤ 20000) (hv : AllW S vs) (lv : vs.length ≤ 20000) (h1 : SqL K H p (tS vs)) (h2 : SqL K H r (tS us)) (h : Q (.bl (decide (vs = us))) H) : rEqU K (.ref p) (.ref r) H Q := by
  refine k_eq_d (.lst h1 (dp_tS vs)) (.lst h2 (dp_tS us)) ((good_allW ok hv (by omega) 0).shaped (by decide)) ((good_allW ok hw (by omega) 0).shaped (by decide)) ?_
  rw [eqv_rows]
  exact h
theorem inV_sides (z : Str) : inV (V.str z) [V.str (Str.ofString "left"), V.str (Str.ofString "right")] = (decide (z = Str.ofString "left") || decide (z = Str.ofString "right")) := by
  show ((Str.ofString "left" == z) || ((Str.ofString "right" == z) || false)) = _
  rw [Bool.or_false]
  congr 1 <;> (rw [Bool.eq_iff_iff, beq_iff_eq, decide_eq_true_eq]; exact eq_comm)
theorem side_of (z : Str) : (∃ b, z = sdS b) ∨ (z ≠ Str.ofString "left" ∧ z ≠ Str.ofString "right") := by
  by_cases h1 : z = Str.ofString "left"
  · exact .inl ⟨false, h1⟩
  by_cases h2 : z = Str.ofString "right"
  · exact .inl ⟨true, h2⟩
  · exact .inr ⟨h1, h2⟩
theorem behS_no {S : HsD} {us : List (List Nat)} {place : Int} {z : Str} (h : z ≠ Str.ofString "left" ∧ z ≠ Str.ofString "right") : behS S us place z = none := by
  unfold behS
  rw [if_neg h.1, if_neg h.2]
theorem biteF_some {S : HsD} {us : List (List Nat)} {low : Nat} {b : Bool} {x y : List Nat} (h1 : us[low]? = some x) (h2 : us[low + 1]? = some y) : biteF S us low b = if eatsF S b (if b = true then x else y) (if b = true then y else x) = true then
      (if us.take low ++ madeF S b x y ++ us.drop (low + 2) = us then none else some (us.take low ++ madeF S b x y ++ us.drop (low + 2))) else none := by
  unfold biteF
  rw [h1, h2]
theorem biteF_out {S : HsD} {us : List (List Nat)} {low : Nat} {b : Bool} (h : us.length ≤ low + 1) : biteF S us low b = none := by
  unfold biteF
  rw [List.getElem?_eq_none h]
  cases us[low]? <;> rfl
theorem ok_behind (F : FnP K "behind" s_behind f fd) (hm : mg "behind" = some (.ref f)) (hC : HsC K) (f_len : mg "len" = none) (f_min : mg "min" = none) (c_House_tasted : CalleeM P w K mg base CX0 "House" "tasted" 1 (spTasted K)) (c_cut_long : Callee P w K mg base CX0 "cut_long" 2 [] (spCut K)) (c_grown : Callee P w K mg base CX0 "grown" 2 [] (spGrown K)) : Callee P w K mg base CX0 "behind" 3 [] (spBehind K) := by
  refine ⟨f, fd, _, [], F.ok sc_behind (fun vs H Q E h => ?hl) (fun cdv A outer s H vs Q E hr h => ⟨_, PSs.nox (pss_cons (ps_set (i := 4) sc_behind.nd rfl (by first | exact Or.inl rfl | exact Or.inr rfl) (pe_ifExp (pt_cmpR (op_eqK K hr.units) (pv 3) pe_str (nomark _)) (pe_op op_sub (pv 2) pe_int) (pe_op (op_addK K) (pv 2) pe_int)))
      (pss_cons (ps_if (PW.pt (pw_or (pt_cmpR (op_niK K) (pv 3) (pe_tup (pa_cons pe_str (pa_cons pe_str pa_nil))) (by rfl)) (pw_or (pt_not (pt_chain op_leU op_lt pe_int (pv 2) (pe_callB (call_lenK K) (by rfl) f_len PySem.boot_len (pa_cons (pv 1) pa_nil)))) (pw_or1 (pt_not (pt_chain op_leU op_lt pe_int (pv 4) (pe_callB (call_lenK K) (by rfl) f_len PySem.boot_len (pa_cons (pv 1) pa_nil)))))))) (pss_one (ps_ret pe_non)) pss_nil)
      (pss_cons (ps_par (by rfl) sc_behind.nd (i := 5) (j := 6) rfl rfl (by decide) rfl rfl (pa_cons (pe_ix (ix_k K) (pv 1) (pv 2) (fun _ _ => rfl)) (pa_cons (pe_ix (ix_k K) (pv 1) (pv 4) (fun _ _ => rfl)) pa_nil)) (by rfl))
      (pss_cons (ps_if (pt_cmpR (op_niTD K (u65 hr)) (pe_tup (pa_cons (pv 3) (pa_cons (pe_mt1 c_House_tasted hr (pv 0) (pa_cons (pv 5) pa_nil) pass0) (pa_cons (pe_mt1 c_House_tasted hr (pv 0) (pa_cons (pv 6) pa_nil) pass0) pa_nil)))) (pe_fldK K (pv 0) rfl) (by rfl)) (pss_one (ps_ret pe_non)) pss_nil)
      (pss_cons (ps_set (i := 7) sc_behind.nd rfl (by first | exact Or.inl rfl | exact Or.inr rfl) (pe_callB call_minK (by rfl) f_min (by decide +kernel) (pa_cons (pv 2) (pa_cons (pv 4) pa_nil))))
      (pss_cons (ps_set (i := 8) sc_behind.nd rfl (by first | exact Or.inl rfl | exact Or.inr rfl) (pe_op (op_addK K) (pe_op (op_addK K) (pe_slice (sl_k K) (pv 1) po_none (po_some (pv 7))) (pe_cl c_cut_long hr (pa_cons (pv 0) (pa_cons (pe_cl c_grown hr (pa_cons (pv 0) (pa_cons (pv 5) (pa_cons (pv 6) (pa_cons (pv 3) pa_nil)))) pass0) pa_nil)) pass0)) (pe_slice (sl_k K) (pv 1) (po_some (pe_op (op_addK K) (pv 7) pe_int)) po_none)))
      (pss_one (ps_ret (pe_ifExp (pt_cmpR (op_eqK K hr.units) (pv 8) (pv 1) (nomark _)) pe_non (pv 8)))))))))), ?rd⟩), hm, F.kp, F.bindsN fun _ _ _ _ _ _ us hl => match us, hl with | [_, _, _, _], _ => rfl, .nil⟩
  case hl =>
    obtain ⟨a, r, S, us, place, z, rfl, _⟩ := h
    rfl
  case rd =>
    obtain ⟨a, r, S, us, place, z, rfl, hs, ok, hx, hw, lu, q⟩ := h
    refine k_start (σ' := [some _, some _, some _, some _, none, none, none, none, none]) rfl ?_
    have lx := len_tS us
    have no : ∀ H', Same H H' → behS S us place z = none → Q .non H' := fun H' s e => q .non H' s (by rw [e]; exact rfl)
    rcases side_of z with ⟨sd, rfl⟩ | hz
    · rw [behS_sd] at no
      simp only [behS_sd] at q
      walk_at "g"
      rw [sdS_left]
      refine (show nIte (!sd) _ _ from ?_)
      cases sd with
      | false =>
        walk_at "g"
        refine k_nTup (by walk_at "sz") (fun p2 H2 n2 s2 e2 => ?_)
        walk_at "g"
        refine k_niT (sq_t e2) rfl rfl (b := false) (by rw [inV_sides]; decide +kernel) ?_
        walk_at "g"
        have out : ¬ (1 ≤ place ∧ place < us.length) → behF S us place false = none := fun h => by
          unfold behF
          by_cases h0 : (0 : Int) ≤ place - 1
          · rw [if_pos (by exact h0)]
            exact biteF_out (by show us.length ≤ (place - 1).toNat + 1; omega)
          · rw [if_neg (by exact h0)]
        refine k_dec (fun d1 => ?_) (fun d1 => ?_)
        rotate_left
        · walk_at "g"
          exact no _ s2 (out (by omega))
        walk_at "g"
        rw [lx]
        refine k_dec (fun d2 => ?_) (fun d2 => ?_)
        rotate_left
        · walk_at "g"
          exact no _ s2 (out (by omega))
        walk_at "g"
        refine k_dec (fun d3 => ?_) (fun d3 => ?_)
        rotate_left
        · walk_at "g"
          exact no _ s2 (out (by omega))
        walk_at "g"
        rw [lx]
        walk_at "w"
        obtain ⟨low, hlow⟩ : ∃ low : Nat, place - 1 = (low : Int) := ⟨(place - 1).toNat, by omega⟩
        have hp : place = ((low + 1 : Nat) : Int) := by omega
        have g1 : us[low]? = some us[low] := List.getElem?_eq_getElem (by omega)
        have g2 : us[low + 1]? = some us[low + 1] := List.getElem?_eq_getElem (by omega)
        have b1 := (hw.len ok) _ (List.getElem_mem (show low < us.length by omega))
        have b2 := (hw.len ok) _ (List.getElem_mem (show low + 1 < us.length by omega))
        generalize us[low] = x at g1 b1
        generalize us[low + 1] = y at g2 b2
        have eF : behF S us place false = if eatsF S false y x = true then (if us.take low ++ madeF S false x y ++ us.drop (low + 2) = us then none else some (us.take low ++ madeF S false x y ++ us.drop (low + 2))) else none := by
          unfold behF
          rw [show (if false = true then place else place - 1) = place - 1 from rfl, if_pos (by omega), show (place - 1).toNat = low by omega, biteF_some g1 g2]
          rfl
        refine k_ix_l (sm_l s2 hx) (at_n hp (getS g2)) ?_
        walk_at "g"
        refine k_ix_l (sm_l s2 hx) (at_n hlow (getS g1)) ?_
        walk_at "g"
        have hs2 := hs.sm s2
        obtain ⟨dx, r0, t0, R, L, h1, h2, h3, h4, h5, h6, h7, h8, h9⟩ := id hs2
        walk_at "g"
        refine ⟨a, S, y, rfl, hs2, ok, b2.2.2, ?_⟩
        walk_at "g"
        refine ⟨a, S, x, rfl, hs2, ok, b1.2.2, ?_⟩
        walk_at "g"
        refine k_nTup (by walk_at "sz") (fun p3 H3 n3 s3 e3 => ?_)
        have h13 := s3 _ _ h1
        walk_at "g"
        refine k_nFld h13 hC.c hC.n3 rfl ?_
        have tp := tasteF_in ok (u := y) b2.2.2
        have tq := tasteF_in ok (u := x) b1.2.2
        refine ⟨_, _, dp_keys (k := kEat false (tasteF S y) (tasteF S x)) (sq_t e3), .tup (sm_t s3 h5) (dp_trs fun q hq => sm_t s3 (h6 q hq)), shaped_eat false tp.1 tp.2 tq.1 tq.2, deep_tr ok h8 h7, ?_⟩
        rw [any_keys, any_perm h8]
        have hr3 : ∀ (Hx : Hp), Same H3 Hx → SqL K Hx r (tS us) := fun Hx s => sm_l s (sm_l s3 (sm_l s2 hx))
        cases he : eatsF S false y x with
        | false =>
          unfold eatsF at he
          rw [he]
          walk_at "g"
          refine no _ (s2.trans s3) ?_
          rw [eF]
          unfold eatsF
          rw [he]
          rfl
        | true =>
          rw [he, if_pos rfl] at eF
          unfold eatsF at he
          rw [he]
          walk_at "g"
          rw [show min place (place - 1) = (low : Int) by omega]
          walk_at "g"
          refine k_sl_l (hr3 _ (Same.refl _)) (fun p4 H4 n4 s4 e4 => ?_)
          rw [cutV_to, tS_take] at e4
          walk_at "g"
          refine ⟨a, S, y, x, false, rfl, hs2.sm (s3.trans s4), ok, by omega, by omega, ?_⟩
          walk_at "g"
          have lg := growF_len S false y x
          have p2 := ok.p2
          refine ⟨a, S, growF S false y x, rfl, hs2.sm (s3.trans s4), ok, by omega, fun p5 H5 n5 s5 e5 => ?_⟩
          have cw := cutW_words ok _ (growF S false y x) (Nat.le_refl _) (by omega) (growF_in ok b2.2.2 b1.2.2)
          refine k_add_l (s5 _ _ e4) e5 (by rw [len_tS, len_tS, List.length_take]; omega) (fun p6 H6 n6 s6 e6 => ?_)
          walk_at "g"
          refine k_sl_l (hr3 _ (s4.trans (s5.trans s6))) (fun p7 H7 n7 s7 e7 => ?_)
          rw [cutV_fromI _ _ (by omega), show ((low : Int) + 2).toNat = low + 2 by omega, tS_drop] at e7
          refine k_add_l (s7 _ _ e6) e7 (by rw [List.length_append, len_tS, len_tS, len_tS, List.length_take, List.length_drop]; omega) (fun p8 H8 n8 s8 e8 => ?_)
          rw [← tS_app, ← tS_app, show cutW S (growF S false y x) = madeF S false x y from rfl] at e8
          have s38 := s4.trans (s5.trans (s6.trans (s7.trans s8)))
          have sH8 : Same H H8 := (s2.trans s3).trans s38
          have n8' : H p8 = none := (s2.trans (s3.trans (s4.trans (s5.trans (s6.trans s7))))).free n8
          walk_at "g"
          refine row_eq ok hw (by omega) (made_in ok hw (by omega) (fun v hv => (cutW_words ok _ (growF S false y x) (Nat.le_refl _) (by omega) (growF_in ok b2.2.2 b1.2.2)).1 v hv)) (by rw [List.length_append, List.length_append, List.length_take, List.length_drop]; have := cw.2; show _ + (cutW S (growF S false y x)).length + _ ≤ 20000; omega) (sq_l e8) (hr3 _ s38) ?_
          walk_at "g"
          refine k_dec (fun d => ?_) (fun d => ?_)
          · rw [if_pos (show us.take low ++ madeF S false x y ++ us.drop (low + 2) = us from d)] at eF
            walk_at "g"
            exact no _ sH8 eF
          · rw [if_neg (show ¬ us.take low ++ madeF S false x y ++ us.drop (low + 2) = us from d)] at eF
            walk_at "g"
            exact q _ _ sH8 (by rw [eF]; exact ⟨p8, rfl, n8', e8⟩)
      | true =>
        walk_at "g"
        refine k_nTup (by walk_at "sz") (fun p2 H2 n2 s2 e2 => ?_)
        walk_at "g"
        refine k_niT (sq_t e2) rfl rfl (b := false) (by rw [inV_sides]; decide +kernel) ?_
        walk_at "g"
        have out : ¬ (0 ≤ place ∧ place + 1 < us.length) → behF S us place true = none := fun h => by
          unfold behF
          by_cases h0 : (0 : Int) ≤ place
          · rw [if_pos (by exact h0)]
            exact biteF_out (by show us.length ≤ place.toNat + 1; omega)
          · rw [if_neg (by exact h0)]
        refine k_dec (fun d1 => ?_) (fun d1 => ?_)
        rotate_left
        · walk_at "g"
          exact no _ s2 (out (by omega))
        walk_at "g"
        rw [lx]
        refine k_dec (fun d2 => ?_) (fun d2 => ?_)
        rotate_left
        · walk_at "g"
          exact no _ s2 (out (by omega))
        walk_at "g"
        walk_at "w"
        rw [lx]
        refine k_dec (fun d3 => ?_) (fun d3 => ?_)
        rotate_left
        · walk_at "g"
          exact no _ s2 (out (by omega))
        walk_at "g"
        obtain ⟨low, hlow⟩ : ∃ low : Nat, place = (low : Int) := ⟨place.toNat, by omega⟩
        have hp : place + 1 = ((low + 1 : Nat) : Int) := by omega
        have g1 : us[low]? = some us[low] := List.getElem?_eq_getElem (by omega)
        have g2 : us[low + 1]? = some us[low + 1] := List.getElem?_eq_getElem (by omega)
        have b1 := (hw.len ok) _ (List.getElem_mem (show low < us.length by omega))
        have b2 := (hw.len ok) _ (List.getElem_mem (show low + 1 < us.length by omega))
        generalize us[low] = x at g1 b1
        generalize us[low + 1] = y at g2 b2
        have eF : behF S us place true = if eatsF S true x y = true then (if us.take low ++ madeF S true x y ++ us.drop (low + 2) = us then none else some (us.take low ++ madeF S true x y ++ us.drop (low + 2))) else none := by
          unfold behF
          rw [show (if true = true then place else place - 1) = place from rfl, if_pos (by omega), show place.toNat = low by omega, biteF_some g1 g2]
          rfl
        refine k_ix_l (sm_l s2 hx) (at_n hlow (getS g1)) ?_
        walk_at "g"
        refine k_ix_l (sm_l s2 hx) (at_n hp (getS g2)) ?_
        walk_at "g"
        have hs2 := hs.sm s2
        obtain ⟨dx, r0, t0, R, L, h1, h2, h3, h4, h5, h6, h7, h8, h9⟩ := id hs2
        walk_at "g"
        refine ⟨a, S, x, rfl, hs2, ok, b1.2.2, ?_⟩
        walk_at "g"
        refine ⟨a, S, y, rfl, hs2, ok, b2.2.2, ?_⟩
        walk_at "g"
        refine k_nTup (by walk_at "sz") (fun p3 H3 n3 s3 e3 => ?_)
        have h13 := s3 _ _ h1
        walk_at "g"
        refine k_nFld h13 hC.c hC.n3 rfl ?_
        have tp := tasteF_in ok (u := y) b2.2.2
        have tq := tasteF_in ok (u := x) b1.2.2
        refine ⟨_, _, dp_keys (k := kEat true (tasteF S x) (tasteF S y)) (sq_t e3), .tup (sm_t s3 h5) (dp_trs fun q hq => sm_t s3 (h6 q hq)), shaped_eat true tq.1 tq.2 tp.1 tp.2, deep_tr ok h8 h7, ?_⟩
        rw [any_keys, any_perm h8]
        have hr3 : ∀ (Hx : Hp), Same H3 Hx → SqL K Hx r (tS us) := fun Hx s => sm_l s (sm_l s3 (sm_l s2 hx))
        cases he : eatsF S true x y with
        | false =>
          unfold eatsF at he
          rw [he]
          walk_at "g"
          refine no _ (s2.trans s3) ?_
          rw [eF]
          unfold eatsF
          rw [he]
          rfl
        | true =>
          rw [he, if_pos rfl] at eF
          unfold eatsF at he
          rw [he]
          walk_at "g"
          rw [show min place (place + 1) = (low : Int) by omega]
          walk_at "g"
          refine k_sl_l (hr3 _ (Same.refl _)) (fun p4 H4 n4 s4 e4 => ?_)
          rw [cutV_to, tS_take] at e4
          walk_at "g"
          refine ⟨a, S, x, y, true, rfl, hs2.sm (s3.trans s4), ok, by omega, by omega, ?_⟩
          walk_at "g"
          have lg := growF_len S true x y
          have p2 := ok.p2
          refine ⟨a, S, growF S true x y, rfl, hs2.sm (s3.trans s4), ok, by omega, fun p5 H5 n5 s5 e5 => ?_⟩
          have cw := cutW_words ok _ (growF S true x y) (Nat.le_refl _) (by omega) (growF_in ok b1.2.2 b2.2.2)
          refine k_add_l (s5 _ _ e4) e5 (by rw [len_tS, len_tS, List.length_take]; omega) (fun p6 H6 n6 s6 e6 => ?_)
          walk_at "g"
          refine k_sl_l (hr3 _ (s4.trans (s5.trans s6))) (fun p7 H7 n7 s7 e7 => ?_)
          rw [cutV_fromI _ _ (by omega), show ((low : Int) + 2).toNat = low + 2 by omega, tS_drop] at e7
          refine k_add_l (s7 _ _ e6) e7 (by rw [List.length_append, len_tS, len_tS, len_tS, List.length_take, List.length_drop]; omega) (fun p8 H8 n8 s8 e8 => ?_)
          rw [← tS_app, ← tS_app, show cutW S (growF S true x y) = madeF S true x y from rfl] at e8
          have s38 := s4.trans (s5.trans (s6.trans (s7.trans s8)))
          have sH8 : Same H H8 := (s2.trans s3).trans s38
          have n8' : H p8 = none := (s2.trans (s3.trans (s4.trans (s5.trans (s6.trans s7))))).free n8
          walk_at "g"
          refine row_eq ok hw (by omega) (made_in ok hw (by omega) (fun v hv => (cutW_words ok _ (growF S true x y) (Nat.le_refl _) (by omega) (growF_in ok b1.2.2 b2.2.2)).1 v hv)) (by rw [List.length_append, List.length_append, List.length_take, List.length_drop]; have := cw.2; show _ + (cutW S (growF S true x y)).length + _ ≤ 20000; omega) (sq_l e8) (hr3 _ s38) ?_
          walk_at "g"
          refine k_dec (fun d => ?_) (fun d => ?_)
          · rw [if_pos (show us.take low ++ madeF S true x y ++ us.drop (low + 2) = us from d)] at eF
            walk_at "g"
            exact no _ sH8 eF
          · rw [if_neg (show ¬ us.take low ++ madeF S true x y ++ us.drop (low + 2) = us from d)] at eF
            walk_at "g"
            exact q _ _ sH8 (by rw [eF]; exact ⟨p8, rfl, n8', e8⟩)
    · walk_at "g"
      rw [decide_eq_false hz.1]
      walk_at "g"
      refine k_nTup (by walk_at "sz") (fun p2 H2 n2 s2 e2 => ?_)
      walk_at "g"
      refine k_niT (sq_t e2) rfl rfl (b := true) (by rw [inV_sides, decide_eq_false hz.1, decide_eq_false hz.2]; rfl) ?_
      walk_at "g"
      exact no _ s2 (behS_no hz)
end
end Lw
set_option autoImplicit true
set_option pp.maxSteps 1200
set_option Elab.async false
set_option linter.all false
set_option maxRecDepth 100000
set_option maxHeartbeats 1000000
namespace Lw
open PySem PySem.Spec PyProof.Rows L2 Gk

local macro_rules | `(tactic| walk_at "hp") => `(tactic| first | assumption | exact upd_same | (refine' (upd_ne ?n).trans ?h; (case n => assumption); (case h => walk_at "hp")) | (refine' sm_get ?s ?h; (case s => assumption); (case h => walk_at "hp")))
local macro_rules | `(tactic| walk_at "sq") => `(tactic| first | assumption | (refine' sq_l ?h; (case h => walk_at "hp")) | (refine' sm_l ?s ?h; (case s => assumption); (case h => walk_at "sq")))
local macro_rules | `(tactic| walk_at "st") => `(tactic| first | assumption | (refine' sq_t ?h; (case h => walk_at "hp")) | (refine' sm_t ?s ?h; (case s => assumption); (case h => walk_at "st")))
local macro_rules | `(tactic| walk_at "bg") => `(tactic| first | assumption | (refine' BagOk.sm ?s ?h; (case s => assumption); (case h => walk_at "bg")))
local macro_rules | `(tactic| walk_at "sm") => `(tactic| first | assumption | exact Same.refl _ | (refine' Same.trans ?h ?s; (case s => assumption); (case h => walk_at "sm")))
local macro_rules | `(tactic| walk_at "hs") => `(tactic| first | assumption | (refine' HsAt.sm ?s ?h; (case s => assumption); (case h => walk_at "hs")))
local macro_rules | `(tactic| walk_at "ms") => `(tactic| first | assumption | (refine' MAt.sm ?s ?h; (case s => assumption); (case h => walk_at "ms")))
local macro_rules | `(tactic| walk_at "md") => `(tactic| first | assumption | (refine' MDk.sm ?s ?h; (case s => assumption); (case h => walk_at "md")))
local macro_rules | `(tactic| walk_at "dp") => `(tactic| first | assumption | (refine' dp_sm ?s ?h; (case s => assumption); (case h => walk_at "dp")))
local macro_rules | `(tactic| walk_at "sz") => `(tactic| first | decide | assumption | omega | (simp only [List.length_cons, List.length_nil, List.length_map, List.length_append]; omega))
local macro_rules | `(tactic| walk_at "g1") => `(tactic| first
  | with_reducible refine k_seq ?_
  | with_reducible refine k_itB ?_
  | with_reducible refine k_next ?_
  | with_reducible refine k_asg ?_
  | with_reducible refine k_name ?_
  | with_reducible refine k_ret ?_
  | with_reducible refine k_retN ?_
  | with_reducible refine k_drop ?_
  | with_reducible refine k_ifs ?_
  | with_reducible refine k_brk ?_
  | with_reducible refine k_cont ?_
  | with_reducible refine k_ipI ?_
  | with_reducible refine k_test ?_
  | with_reducible refine k_tB ?_
  | with_reducible refine k_bl ?_
  | with_reducible refine k_not ?_
  | with_reducible refine k_and ?_
  | with_reducible refine k_or ?_
  | with_reducible refine k_yes ?_
  | with_reducible refine k_true ?_
  | with_reducible refine k_false ?_
  | with_reducible refine k_nt ?_
  | with_reducible refine k_c ?_
  | with_reducible refine k_op ?_
  | with_reducible refine k_un ?_
  | with_reducible refine k_if ?_
  | with_reducible refine k_chain ?_
  | with_reducible refine k_nil ?_
  | with_reducible refine k_cons ?_
  | with_reducible refine k_cb ?_
  | with_reducible refine k_call ?_
  | with_reducible refine k_callS ?_
  | with_reducible refine k_andV ?_
  | with_reducible refine k_orV ?_
  | with_reducible refine k_notV ?_
  | with_reducible refine k_lst ?_
  | with_reducible refine k_tup ?_
  | with_reducible refine k_nopart ?_
  | with_reducible refine k_part ?_
  | with_reducible refine k_nInt ?_
  | with_reducible refine k_sl ?_
  | with_reducible refine k_bm ?_
  | with_reducible refine k_bm0 ?_
  | with_reducible refine k_nTyS ?_
  | with_reducible refine k_m1 ?_
  | with_reducible refine k_m0 ?_
  | with_reducible refine k_nStr ?_
  | with_reducible refine k_I0 ?_
  | with_reducible refine k_U ?_
  | with_reducible refine k_add_i ?_
  | with_reducible refine k_eq_i ?_
  | with_reducible refine k_eq_s ?_
  | with_reducible refine k_eq_b ?_
  | with_reducible refine k_ne_i ?_
  | with_reducible refine k_ne_s ?_
  | with_reducible refine k_ne_b ?_
  | with_reducible refine k_le_i ?_
  | with_reducible refine k_le_s ?_
  | with_reducible refine k_gnil ?_
  | with_reducible refine k_gcons ?_
  | with_reducible refine k_gsub ?_
  | with_reducible refine k_for ?_
  | with_reducible refine k_lc ?_
  | with_reducible refine k_rng1 ?_
  | with_reducible refine k_rng2 ?_
  | with_reducible refine k_itl ?_
  | with_reducible refine k_itt ?_
  | with_reducible refine k_its ?_
  | with_reducible refine k_ite ?_
  | with_reducible refine k_iteB ?_
  | with_reducible refine k_lrg2 ?_
  | with_reducible refine k_itz ?_
  | with_reducible refine k_nIts ?_
  | with_reducible refine k_inS ?_
  | with_reducible refine k_niS ?_
  | with_reducible refine k_mk ?_
  | with_reducible refine k_meth ?_
  | with_reducible refine k_fld ?_
  | with_reducible refine k_sfld ?_
  | with_reducible refine k_dg ?_
  | with_reducible refine k_dp ?_
  | with_reducible refine k_pr ?_
  | with_reducible refine k_pr0 ?_
  | with_reducible refine k_sg ?_
  | with_reducible refine k_lc2 ?_
  | with_reducible refine k_callN ?_
  | with_reducible refine k_callNS ?_
  | with_reducible refine k_par ?_
  | with_reducible refine k_nPar ?_
  | with_reducible refine k_isNn ?_
  | with_reducible refine k_isNr ?_
  | with_reducible refine k_ntNn ?_
  | with_reducible refine k_ntNr ?_
  | with_reducible refine k_min2 ?_
  | with_reducible refine k_max2 ?_
  | with_reducible refine k_intB ?_
  | with_reducible refine k_intI ?_
  | with_reducible refine k_isBl ?_
  | with_reducible refine k_ntBl ?_
  | ((with_reducible refine' k_var ?kv ?_); (case kv => exact rfl))
  | ((with_reducible refine' k_aug ?kv ?_); (case kv => exact rfl))
  | ((with_reducible refine' k_ix_l ?ks ?ki ?_); (case ks => walk_at "sq"); (case ki => exact rfl))
  | ((with_reducible refine' k_ix_t ?ks ?ki ?_); (case ks => walk_at "st"); (case ki => exact rfl))
  | ((with_reducible refine' k_len_l ?ks ?_); (case ks => walk_at "sq"))
  | ((with_reducible refine' k_len_t ?ks ?_); (case ks => walk_at "st"))
  | ((with_reducible refine' k_setL ?ks ?ki ?_); (case ks => walk_at "hp"); (case ki => exact rfl))
  | ((with_reducible refine' k_nTyL ?ks ?_); (case ks => walk_at "sq"))
  | ((with_reducible refine' k_nItl ?ks ?_); (case ks => walk_at "sq"))
  | ((with_reducible refine' k_nItt ?ks ?_); (case ks => walk_at "st"))
  | ((with_reducible refine' k_nIte ?ks ?_); (case ks => walk_at "sq"))
  | ((with_reducible refine' k_mul ?km ?_); (case km => first | exact Or.inr ⟨by decide, by decide⟩ | exact Or.inl ⟨by decide, by decide⟩))
  | ((with_reducible refine' k_I ?km ?_); (case km => first | assumption | decide | exact ⟨by decide, by decide +kernel⟩ | exact ⟨by decide, by decide, by decide⟩))
  | ((with_reducible refine' k_nMeth ?kp ?kl ?_); (case kp => walk_at "hp"); (case kl => exact rfl))
  | ((with_reducible refine' k_nFld ?kp ?kc ?kn ?kl ?_); (case kp => walk_at "hp"); (case kc => assumption); (case kn => assumption); (case kl => exact rfl))
  | ((with_reducible refine' k_nSFld ?kp ?kc ?kn ?kl ?_); (case kp => walk_at "hp"); (case kc => assumption); (case kn => assumption); (case kl => exact of_decide_eq_true rfl))
  | ((with_reducible refine' k_nDg ?kp ?kl ?_); (case kp => walk_at "hp"); (case kl => exact rfl))
  | ((with_reducible refine' k_nRng1 ?k1 ?k2 ?_); (case k1 => omega); (case k2 => omega))
  | ((with_reducible refine' k_nKw ?k1 ?k2 ?_); (case k1 => exact rfl); (case k2 => exact rfl))
  | ((with_reducible refine' k_hsm ?kh ?_); (case kh => walk_at "hs"))
  | ((with_reducible refine' k_nMethH ?kh ?kl ?_); (case kh => walk_at "hs"); (case kl => exact fun _ _ => rfl))
  | ((with_reducible refine' k_mLet ?kh ?_); (case kh => walk_at "ms"))
  | ((with_reducible refine' k_mChew ?kh ?_); (case kh => walk_at "ms"))
  | ((with_reducible refine' k_mPut ?kh ?_); (case kh => walk_at "ms"))
  | ((with_reducible refine' k_mMost ?kh ?_); (case kh => walk_at "ms"))
  | ((with_reducible refine' k_mCut ?kh ?_); (case kh => walk_at "ms"))
  | ((with_reducible refine' k_mTab ?kh ?_); (case kh => walk_at "md"))
  | ((with_reducible refine' k_mEats ?kh ?_); (case kh => walk_at "md"))
  | ((with_reducible refine' k_gtup ?ks ?kl ?_); (case ks => walk_at "st"); (case kl => exact rfl)))
local macro_rules | `(tactic| walk_at "g") => `(tactic| repeat (walk_at "g1"))
local macro_rules | `(tactic| walk_at "w1") => `(tactic| first
  | walk_at "g1"
  | ((with_reducible refine' k_decT ?kp ?_); (case kp => omega))
  | ((with_reducible refine' k_decF ?kp ?_); (case kp => omega))
  | ((with_reducible refine' k_decNT ?kp ?_); (case kp => omega))
  | ((with_reducible refine' k_decNF ?kp ?_); (case kp => omega)))
local macro_rules | `(tactic| walk_at "w") => `(tactic| repeat (walk_at "w1"))

section
variable {P : Program} {w : World} {K : PySem.W.Frag} {mg : Str → Option Value} {base : Heap} {f : Addr} {fd : FuncData}
/-! ### all bites -/
abbrev Bt : Type := Nat × Bool
def btAt (S : HsD) (us : List (List Nat)) (i : Nat) : List (Bt × List (List Nat)) := [false, true].filterMap fun b => (behF S us (i : Nat) b).map fun m => ((i, b), m)
def bitesF (S : HsD) (us : List (List Nat)) : List (Bt × List (List Nat)) := (List.range us.length).flatMap (btAt S us)
def dBt (x : Bt) : PyData := .tuple [.int (x.1 : Nat), .str (sdS x.2)]
theorem btAt_len (S : HsD) (us : List (List Nat)) (i : Nat) : (btAt S us i).length ≤ 2 := List.length_filterMap_le ..
theorem flat_len {S : HsD} {us : List (List Nat)} : ∀ n, ((List.range n).flatMap (btAt S us)).length ≤ 2 * n
  | 0 => Nat.le_refl _
  | n + 1 => by
    rw [List.range_succ, List.flatMap_append, List.length_append]
    have h1 := flat_len (S := S) (us := us) n
    have h2 := btAt_len S us n
    simp only [List.flatMap_cons, List.flatMap_nil, List.append_nil]
    omega
/-- all bites up to (i, the first j sides) -/
def bitesTo (S : HsD) (us : List (List Nat)) (i j : Nat) : List (Bt × List (List Nat)) := (List.range i).flatMap (btAt S us) ++ ([false, true].take j).filterMap fun b => (behF S us (i : Nat) b).map fun m => ((i, b), m)
theorem bitesTo_len (S : HsD) (us : List (List Nat)) (i j : Nat) : (bitesTo S us i j).length ≤ 2 * i + 2 := by
  unfold bitesTo
  rw [List.length_append]
  have h1 := flat_len (S := S) (us := us) i
  have h2 : (([false, true].take j).filterMap fun b => (behF S us (i : Nat) b).map fun m => ((i, b), m)).length ≤ ([false, true].take j).length := List.length_filterMap_le ..
  rw [List.length_take] at h2
  have : [false, true].length = 2 := rfl
  omega
theorem bitesTo_two (S : HsD) (us : List (List Nat)) (i : Nat) : bitesTo S us i 2 = bitesTo S us (i + 1) 0 := by
  unfold bitesTo
  rw [List.range_succ, List.flatMap_append]
  simp [btAt]
theorem bitesTo_next {S : HsD} {us : List (List Nat)} {i j : Nat} {b : Bool} (h : [false, true][j]? = some b) : bitesTo S us i (j + 1) = match behF S us (i : Nat) b with
    | none => bitesTo S us i j
    | some m => bitesTo S us i j ++ [((i, b), m)] := by
  unfold bitesTo
  rw [take_more h, List.filterMap_append, ← List.append_assoc]
  cases e : behF S us (i : Nat) b with
  | none => simp [e]
  | some m => simp [e]
theorem bitesTo_all (S : HsD) (us : List (List Nat)) : bitesTo S us us.length 0 = bitesF S us := by
  unfold bitesTo bitesF
  simp
theorem behF_of {S : HsD} {us m : List (List Nat)} {place : Int} {b : Bool} (h : behF S us place b = some m) : ∃ (low : Nat) (x y : List Nat), us[low]? = some x ∧ us[low + 1]? = some y ∧ (if b = true then place else place - 1) = (low : Int) ∧ eatsF S b (if b = true then x else y) (if b = true then y else x) = true ∧ m = us.take low ++ madeF S b x y ++ us.drop (low + 2) ∧ m ≠ us := by
  unfold behF at h
  generalize (if b = true then place else place - 1) = q at h ⊢
  by_cases h0 : 0 ≤ q
  · rw [if_pos h0] at h
    unfold biteF at h
    cases e1 : us[q.toNat]? with
    | none => rw [e1] at h; cases h
    | some x =>
      cases e2 : us[q.toNat + 1]? with
      | none => rw [e1, e2] at h; cases h
      | some y =>
        rw [e1, e2] at h
        dsimp only at h
        by_cases h3 : eatsF S b (if b = true then x else y) (if b = true then y else x) = true
        · rw [if_pos h3] at h
          by_cases h4 : us.take q.toNat ++ madeF S b x y ++ us.drop (q.toNat + 2) = us
          · rw [if_pos h4] at h
            cases h
          · rw [if_neg h4] at h
            have e := Option.some.inj h
            exact ⟨q.toNat, x, y, e1, e2, by omega, h3, e.symm, fun z => h4 (by rw [e, z])⟩
        · rw [if_neg h3] at h
          cases h
  · rw [if_neg h0] at h
    cases h
theorem behF_words {S : HsD} (ok : HsOk S) {us m : List (List Nat)} {place : Int} {b : Bool} (hw : AllW S us) (h : behF S us place b = some m) : AllW S m ∧ m.length ≤ us.length + 8 := by
  obtain ⟨low, x, y, h1, h2, _, _, rfl, _⟩ := behF_of h
  have lx := hw.len ok x (List.mem_of_getElem? h1)
  have ly := hw.len ok y (List.mem_of_getElem? h2)
  have hl := (List.getElem?_eq_some_iff.mp h2).1
  have p2 := ok.p2
  have lg := growF_len S b (if b = true then x else y) (if b = true then y else x)
  have in1 : ∀ c ∈ (if b = true then x else y), c ∈ S.ls := by split <;> simp_all
  have in2 : ∀ c ∈ (if b = true then y else x), c ∈ S.ls := by split <;> simp_all
  have l1 : 1 ≤ (if b = true then x else y).length ∧ (if b = true then x else y).length ≤ 3 := by split <;> simp_all
  have l2 : (if b = true then y else x).length ≤ 3 := by split <;> simp_all
  have cw := cutW_words ok _ _ (Nat.le_refl _) (by rw [lg]; omega) (growF_in ok in1 in2)
  refine ⟨made_in ok hw hl cw.1, ?_⟩
  rw [List.length_append, List.length_append, List.length_take, List.length_drop]
  have e : (madeF S b x y).length ≤ (growF S b (if b = true then x else y) (if b = true then y else x)).length := cw.2
  omega
theorem y_rng {i : Nat} {H : Hp} {x : V} {H' : Hp} (h : YFn (fun i => V.int (0 + ((i : Nat) : Int))) i H x H') : H' = H ∧ x = .int (i : Nat) := ⟨h.1, by rw [h.2]; show V.int (0 + ((i : Nat) : Int)) = _; rw [Int.zero_add]⟩
theorem bitesF_in {S : HsD} {us : List (List Nat)} {x : Bt × List (List Nat)} : x ∈ bitesF S us ↔ x.1.1 < us.length ∧ behF S us (x.1.1 : Nat) x.1.2 = some x.2 := by
  obtain ⟨⟨i, b⟩, m⟩ := x
  unfold bitesF btAt
  rw [List.mem_flatMap]
  constructor
  · rintro ⟨k, hk, h⟩
    obtain ⟨b', _, h⟩ := List.mem_filterMap.mp h
    obtain ⟨m', h1, h2⟩ := Option.map_eq_some_iff.mp h
    cases h2
    exact ⟨List.mem_range.mp hk, h1⟩
  · rintro ⟨h1, h2⟩
    refine ⟨i, List.mem_range.mpr h1, List.mem_filterMap.mpr ⟨b, by cases b <;> simp, ?_⟩⟩
    dsimp only at h2 ⊢
    rw [h2]
    rfl
theorem dp_btI {H : Hp} {v : V} {x : Bt} (h : Dp K H v (dBt x)) : ∃ t, v = .ref t ∧ SqT K H t [.int (x.1 : Nat), .str (sdS x.2)] := by
  obtain ⟨t, a, b, e, h1, h2, h3⟩ := dp_tup2I h
  rw [dp_intI h2, dp_strI h3] at h1
  exact ⟨t, e, h1⟩
/-- an entry: a tuple of a bite and the row behind it, which is a list of its own -/
def BmAt (K : PySem.W.Frag) (H0 H : Hp) (v : V) (x : Bt × List (List Nat)) : Prop := ∃ t tb tr, v = .ref t ∧ SqT K H t [.ref tb, .ref tr] ∧ SqT K H tb [.int (x.1.1 : Nat), .str (sdS x.1.2)] ∧ H tr = some (.lst (tS x.2)) ∧ H0 tr = none
theorem BmAt.sm {H0 H H' : Hp} {v : V} {x : Bt × List (List Nat)} (s : Same H H') (h : BmAt K H0 H v x) : BmAt K H0 H' v x := by
  obtain ⟨t, tb, tr, e, h1, h2, h3, h4⟩ := h
  exact ⟨t, tb, tr, e, sm_t s h1, sm_t s h2, s _ _ h3, h4⟩
def BmAll (K : PySem.W.Frag) (H0 H : Hp) : List V → List (Bt × List (List Nat)) → Prop
  | [], [] => True
  | v :: vs, x :: xs => BmAt K H0 H v x ∧ BmAll K H0 H vs xs
  | _, _ => False
theorem BmAll.sm {H0 H H' : Hp} (s : Same H H') : ∀ {vs : List V} {xs : List (Bt × List (List Nat))}, BmAll K H0 H vs xs → BmAll K H0 H' vs xs
  | [], [], _ => trivial
  | v :: vs, x :: xs, h => ⟨h.1.sm s, BmAll.sm s h.2⟩
  | [], x :: xs, h => h.elim
  | v :: vs, [], h => h.elim
theorem BmAll.app {H0 H : Hp} {w : V} {y : Bt × List (List Nat)} (hy : BmAt K H0 H w y) : ∀ {vs : List V} {xs : List (Bt × List (List Nat))}, BmAll K H0 H vs xs → BmAll K H0 H (vs ++ [w]) (xs ++ [y])
  | [], [], _ => ⟨hy, trivial⟩
  | v :: vs, x :: xs, h => ⟨h.1, BmAll.app hy h.2⟩
  | [], x :: xs, h => h.elim
  | v :: vs, [], h => h.elim
theorem BmAll.get {H0 H : Hp} : ∀ {vs : List V} {xs : List (Bt × List (List Nat))} {i : Nat} {v : V}, BmAll K H0 H vs xs → vs[i]? = some v → ∃ x, xs[i]? = some x ∧ BmAt K H0 H v x
  | [], [], i, v, _, e => by simp at e
  | w :: vs, x :: xs, 0, v, h, e => by
    simp at e
    subst e
    exact ⟨x, rfl, h.1⟩
  | w :: vs, x :: xs, i + 1, v, h, e => by
    obtain ⟨y, h1, h2⟩ := BmAll.get h.2 (i := i) (by simpa using e)
    exact ⟨y, by simpa using h1, h2⟩
  | [], x :: xs, _, _, h, _ => h.elim
  | v :: vs, [], _, _, h, _ => h.elim
theorem BmAll.len {H0 H : Hp} : ∀ {vs : List V} {xs : List (Bt × List (List Nat))}, BmAll K H0 H vs xs → vs.length = xs.length
  | [], [], _ => rfl
  | v :: vs, x :: xs, h => by rw [List.length_cons, List.length_cons, BmAll.len h.2]
  | [], x :: xs, h => h.elim
  | v :: vs, [], h => h.elim
def spBitesOf (K : PySem.W.Frag) : Sp := fun vs H Q _ => ∃ (a r : Addr) (S : HsD) (us : List (List Nat)), vs = [.ref a, .ref r] ∧ HsAt K H a S ∧ HsOk S ∧ SqL K H r (tS us) ∧ AllW S us ∧ us.length ≤ 10000 ∧ ∀ p ws H', H p = none → Same H H' → H' p = some (.lst ws) → BmAll K H H' ws (bitesF S us) → Q (.ref p) H'
theorem ok_bites_of (F : FnP K "bites_of" s_bites_of f fd) (hm : mg "bites_of" = some (.ref f)) (f_len : mg "len" = none) (f_range : mg "range" = none) (c_behind : Callee P w K mg base CX0 "behind" 3 [] (spBehind K)) : Callee P w K mg base CX0 "bites_of" 4 [] (spBitesOf K) := by
  refine ⟨f, fd, _, [], F.ok sc_bites_of (fun vs H Q E h => ?hl) (fun cdv A outer s H vs Q E hr h => ⟨_, PSs.nox (pss_cons (ps_set (i := 2) sc_bites_of.nd rfl (by first | exact Or.inl rfl | exact Or.inr rfl) (pe_lst pa_nil))
      (pss_cons (ps_for PassesOwn.never rfl (pi_range1 (by rfl) f_range (pa_cons (pe_callB (call_lenK K) (by rfl) f_len PySem.boot_len (pa_cons (pv 1) pa_nil)) pa_nil)) (pg_name (i := 3) sc_bites_of.nd rfl (by first | exact Or.inl rfl | exact Or.inr rfl)) (pss_one (ps_for PassesOwn.never rfl (pi_tupK K (pe_tup (pa_cons pe_str (pa_cons pe_str pa_nil)))) (pg_name (i := 4) sc_bites_of.nd rfl (by first | exact Or.inl rfl | exact Or.inr rfl)) (pss_cons (ps_set (i := 5) sc_bites_of.nd rfl (by first | exact Or.inl rfl | exact Or.inr rfl) (pe_cl c_behind hr (pa_cons (pv 0) (pa_cons (pv 1) (pa_cons (pv 3) (pa_cons (pv 4) pa_nil)))) pass0))
      (pss_one (ps_if (pt_cmpR op_notN1 (pv 5) pe_non (nomark _)) (pss_one (ps_expr (pe_bmK K PySem.F.plainAttrs_list PySem.F.slot_list_append PySem.F.type_list_append mt_append (pv 2) (pa_cons (pe_tup (pa_cons (pe_tup (pa_cons (pv 3) (pa_cons (pv 4) pa_nil))) (pa_cons (pv 5) pa_nil))) pa_nil)))) pss_nil))))))
      (pss_one (ps_ret (pv 2))))), ?rd⟩), hm, F.kp, F.bindsN fun _ _ _ _ _ _ us hl => match us, hl with | [_, _], _ => rfl, .nil⟩
  case hl =>
    obtain ⟨a, r, S, us, rfl, _⟩ := h
    rfl
  case rd =>
    obtain ⟨a, r, S, us, rfl, hs, ok, hx, hw, lu, q⟩ := h
    refine k_start (σ' := [some _, some _, none, none, none, none]) rfl ?_
    have lx := len_tS us
    walk_at "g"
    refine k_nLst (by walk_at "sz") (fun p1 H1 n1 s1 e1 => ?_)
    walk_at "g"
    rw [lx]
    walk_at "g"
    have fin : ∀ (H' : Hp) (ws : List V), Same H H' → H' p1 = some (.lst ws) → BmAll K H (del H' p1) ws (bitesTo S us us.length 0) → Q (.ref p1) H' := fun H' ws s e d => q p1 ws H' n1 s e (by rw [bitesTo_all] at d; exact d.sm sm_del)
    refine k_nFor walk_range (fun i σ H' => (∃ y3 y4 y5 ws, σ = [some (.ref a), some (.ref r), some (.ref p1), y3, y4, y5] ∧ H' p1 = some (.lst ws) ∧ BmAll K H (del H' p1) ws (bitesTo S us i 0)) ∧ Same H H') ⟨⟨_, _, _, [], rfl, e1, trivial⟩, s1⟩ (fun _ _ _ _ _ => trivial) (fun i x σ Ha Hb hi h hy => ?ht) (fun σ H' h => ?he)
    case he =>
      obtain ⟨⟨y3, y4, y5, ws, rfl, ea, da⟩, sa⟩ := h
      walk_at "g"
      exact fin _ ws sa ea (by simpa using da)
    case ht =>
      obtain ⟨⟨y3, y4, y5, ws, rfl, ea, da⟩, sa⟩ := h
      obtain ⟨rfl, rfl⟩ := y_rng hy
      walk_at "g"
      refine k_nTup (by walk_at "sz") (fun p2 H2 n2 s2 e2 => ?_)
      walk_at "g"
      have n2H : H p2 = none := sa.free n2
      refine k_nFor (walk_tup (xs := [V.str (Str.ofString "left"), V.str (Str.ofString "right")])) (fun j σ H' => (∃ y4 y5 ws, σ = [some (.ref a), some (.ref r), some (.ref p1), some (.int (i : Nat)), y4, y5] ∧ H' p1 = some (.lst ws) ∧ BmAll K H (del H' p1) ws (bitesTo S us i j)) ∧ (Same H H' ∧ H' p2 = some (.tup [V.str (Str.ofString "left"), V.str (Str.ofString "right")]))) ⟨⟨_, _, ws, rfl, s2 _ _ ea, da.sm (del_mono s2)⟩, sa.trans s2, e2⟩ (fun j σ H' _ h => sq_t h.2.2) (fun j x σ Hc Hd hj h hy => ?ht2) (fun σ H' h => ?he2)
      case he2 =>
        obtain ⟨⟨y4, y5, ws, rfl, ea, da⟩, sa, _⟩ := h
        exact ⟨⟨_, _, _, ws, rfl, ea, by rw [← bitesTo_two]; exact da⟩, sa⟩
      case ht2 =>
        obtain ⟨⟨y4, y5, ws, rfl, ea, da⟩, sa, et⟩ := h
        obtain ⟨rfl, hv⟩ := hy
        obtain ⟨b, hb, rfl⟩ : ∃ b, [false, true][j]? = some b ∧ x = .str (sdS b) := by
          have : j = 0 ∨ j = 1 := by
            have : j < 2 := hj
            omega
          rcases this with rfl | rfl <;> cases hv
          · exact ⟨false, rfl, rfl⟩
          · exact ⟨true, rfl, rfl⟩
        walk_at "g"
        refine ⟨a, r, S, us, (i : Nat), sdS b, rfl, hs.sm sa, ok, sm_l sa hx, hw, lu, fun v H3 s3 hv3 => ?_⟩
        rw [behS_sd] at hv3
        have hn := bitesTo_next (S := S) (us := us) (i := i) hb
        have ea3 := s3 _ _ ea
        have et3 := s3 _ _ et
        have da3 := da.sm (del_mono (p := p1) s3)
        cases eb : behF S us (i : Nat) b with
        | none =>
          rw [eb] at hv3 hn
          cases (show v = .non from hv3)
          walk_at "g"
          exact ⟨⟨_, _, ws, rfl, ea3, by rw [hn]; exact da3⟩, sa.trans s3, et3⟩
        | some m =>
          rw [eb] at hv3 hn
          obtain ⟨pm, rfl, nm, em⟩ := hv3
          walk_at "g"
          refine k_nTup (by walk_at "sz") (fun p4 H4 n4 s4 e4 => ?_)
          walk_at "g"
          refine k_nTup (by walk_at "sz") (fun p5 H5 n5 s5 e5 => ?_)
          have s35 := s4.trans s5
          have ea5 := s35 _ _ ea3
          walk_at "g"
          have bl := bitesTo_len S us i j
          have lw := da.len
          refine k_append ea5 (by have : i < us.length := by omega
                                  omega) ?_
          walk_at "g"
          have da5 := da3.sm (del_mono (p := p1) s35)
          have npm : pm ≠ p1 := fun z => by rw [z, ea] at nm; cases nm
          have dnew : BmAt K H (del H5 p1) (.ref p5) ((i, b), m) := ⟨p5, p4, pm, rfl, del_t ea5 (sq_t e5), del_t ea5 (sq_t (s5 _ _ e4)), (by rw [del_ne npm]; exact s35 _ _ em), sa.free nm⟩
          refine ⟨⟨_, _, ws ++ [.ref p5], rfl, upd_same, ?_⟩, sm_mut (sa.trans (s3.trans s35)) n1, ?_⟩
          · rw [del_upd, hn]
            exact da5.app dnew
          · rw [upd_ne (ne_of (s35 _ _ et3) ea5 (fun z => by cases z))]
            exact s35 _ _ et3
theorem badAt_none {S : HsD} (ok : HsOk S) {us : List (List Nat)} (h : badAt S us = none) : AllW S us ∧ us.length ≤ 12 := by
  unfold badAt at h
  split at h
  · cases h
  · rename_i hf
    split at h
    · cases h
    · rename_i hl
      unfold firstBad at hf
      rw [List.findIdx?_eq_none_iff] at hf
      rw [List.take_of_length_le (by omega)] at hf
      exact ⟨fun u hu => word_isW ok (by have := hf u hu; simpa using this), by omega⟩
/-! ### one bite done -/
/-! ### an end -/
theorem good_bt (x : Bt) (h : x.1 ≤ 100000) (j : Nat) : Good (j + 2) (dBt x) := ⟨by show 2 ≤ 50000; decide, fun e he => by
  rcases List.mem_cons.mp he with rfl | he
  · exact log_nat (by omega)
  rcases List.mem_cons.mp he with rfl | he
  · refine ⟨?_, ?_⟩ <;> cases x.2 <;> first | exact pl_B (by decide +kernel) | decide +kernel
  cases he⟩
/-! ### bites one behind the other -/
abbrev Stp : Type := Int × Str
def dStp (x : Stp) : PyData := .tuple [.int x.1, .str x.2]
def folF (S : HsD) : List (List Nat) → List Stp → Nat → Option (List (List Nat)) × Option Nat
  | us, [], _ => (some us, none)
  | us, x :: r, n => match behS S us x.1 x.2 with
    | none => (none, some n)
    | some m => folF S m r (n + 1)
theorem dp_stpI {H : Hp} {v : V} {x : Stp} (h : Dp K H v (dStp x)) : ∃ t, v = .ref t ∧ SqT K H t [.int x.1, .str x.2] := by
  obtain ⟨t, a, b, e, h1, h2, h3⟩ := dp_tup2I h
  rw [dp_intI h2, dp_strI h3] at h1
  exact ⟨t, e, h1⟩
theorem behS_words {S : HsD} (ok : HsOk S) {us m : List (List Nat)} {place : Int} {z : Str} (hw : AllW S us) (h : behS S us place z = some m) : AllW S m ∧ m.length ≤ us.length + 8 := by
  rcases side_of z with ⟨b, rfl⟩ | hz
  · rw [behS_sd] at h
    exact behF_words ok hw h
  · rw [behS_no hz] at h
    cases h
def spFollowed (K : PySem.W.Frag) : Sp := fun vs H Q _ => ∃ (a r st : Addr) (S : HsD) (us : List (List Nat)) (xs : List Stp) (ws : List V), vs = [.ref a, .ref r, .ref st] ∧ HsAt K H a S ∧ HsOk S ∧ H r = some (.lst (tS us)) ∧ AllW S us ∧ SqL K H st ws ∧ DpAll K H ws (xs.map dStp) ∧ us.length + 8 * xs.length ≤ 10000 ∧
  (∀ n, folF S us xs 0 = (none, some n) → ∀ T H', H T = none → Same H H' → H' T = some (.tup [.non, .int (n : Nat)]) → Q (.ref T) H') ∧
  (∀ m, folF S us xs 0 = (some m, none) → ∀ T p H', H T = none → Same H H' → H' p = some (.lst (tS m)) → H' T = some (.tup [.ref p, .non]) → Q (.ref T) H')
theorem folF_none {S : HsD} {us : List (List Nat)} {x : Stp} {r : List Stp} {n : Nat} (e : behS S us x.1 x.2 = none) : folF S us (x :: r) n = (none, some n) := by
  show (match behS S us x.1 x.2 with | none => _ | some m => folF S m r (n + 1)) = _
  rw [e]
theorem folF_some {S : HsD} {us m : List (List Nat)} {x : Stp} {r : List Stp} {n : Nat} (e : behS S us x.1 x.2 = some m) : folF S us (x :: r) n = folF S m r (n + 1) := by
  show (match behS S us x.1 x.2 with | none => _ | some m => folF S m r (n + 1)) = _
  rw [e]
theorem ok_followed (F : FnP K "followed" s_followed f fd) (hm : mg "followed" = some (.ref f)) (f_enumerate : mg "enumerate" = none) (c_behind : Callee P w K mg base CX0 "behind" 3 [] (spBehind K)) : Callee P w K mg base CX0 "followed" 4 [] (spFollowed K) := by
  refine ⟨f, fd, _, [], F.ok sc_followed (fun vs H Q E h => ?hl) (fun cdv A outer s H vs Q E hr h => ⟨_, PSs.nox (pss_cons (ps_set (i := 3) sc_followed.nd rfl (by first | exact Or.inl rfl | exact Or.inr rfl) (pv 1))
      (pss_cons (ps_for PassesOwn.never rfl (pi_enumK K (by rfl) f_enumerate (pa_cons (pv 2) pa_nil)) (pg_tupK K 2 (by rfl) (pgs_cons (pg_name (i := 4) sc_followed.nd rfl (by first | exact Or.inl rfl | exact Or.inr rfl)) (pgs_cons (pg_tupK K 2 (by rfl) (pgs_cons (pg_name (i := 5) sc_followed.nd rfl (by first | exact Or.inl rfl | exact Or.inr rfl)) (pgs_cons (pg_name (i := 6) sc_followed.nd rfl (by first | exact Or.inl rfl | exact Or.inr rfl)) pgs_nil))) pgs_nil))) (pss_cons (ps_set (i := 7) sc_followed.nd rfl (by first | exact Or.inl rfl | exact Or.inr rfl) (pe_cl c_behind hr (pa_cons (pv 0) (pa_cons (pv 3) (pa_cons (pv 5) (pa_cons (pv 6) pa_nil)))) pass0))
      (pss_cons (ps_if (pt_cmpR op_isN1 (pv 7) pe_non (nomark _)) (pss_one (ps_ret (pe_tup (pa_cons pe_non (pa_cons (pv 4) pa_nil))))) pss_nil)
      (pss_one (ps_set (i := 3) sc_followed.nd rfl (by first | exact Or.inl rfl | exact Or.inr rfl) (pv 7))))))
      (pss_one (ps_ret (pe_tup (pa_cons (pv 3) (pa_cons pe_non pa_nil))))))), ?rd⟩), hm, F.kp, F.bindsN fun _ _ _ _ _ _ us hl => match us, hl with | [_, _, _], _ => rfl, .nil⟩
  case hl =>
    obtain ⟨a, r, st, S, us, xs, ws, rfl, _⟩ := h
    rfl
  case rd =>
    obtain ⟨a, r, st, S, us, xs, ws, rfl, hs, ok, hx, hw, hst, hd, lu, q1, q2⟩ := h
    refine k_start (σ' := [some _, some _, some _, none, none, none, none, none]) rfl ?_
    have lw := dpall_len hd
    rw [List.length_map] at lw
    walk_at "g"
    refine k_nFor (walk_enum (xs := ws)) (fun i σ H' => (∃ p y4 y5 y6 y7 cur, σ = [some (.ref a), some (.ref r), some (.ref st), some (.ref p), y4, y5, y6, y7] ∧ H' p = some (.lst (tS cur)) ∧ AllW S cur ∧ cur.length ≤ us.length + 8 * i ∧ folF S us xs 0 = folF S cur (xs.drop i) i) ∧ Same H H') ⟨⟨r, _, _, _, _, us, rfl, hx, hw, by omega, rfl⟩, Same.refl _⟩ (fun i σ H' _ h => sm_l h.2 hst) (fun i x σ Ha Hb hi h hy => ?ht) (fun σ H' h => ?he)
    case he =>
      obtain ⟨⟨p, y4, y5, y6, y7, cur, rfl, hp, hc, lc, hf⟩, sa⟩ := h
      rw [lw, List.drop_length] at hf
      walk_at "g"
      refine k_nTup (by walk_at "sz") (fun T H2 n2 s2 e2 => ?_)
      exact q2 cur hf T p H2 (sa.free n2) (sa.trans s2) (s2 _ _ hp) e2
    case ht =>
      obtain ⟨⟨p, y4, y5, y6, y7, cur, rfl, hp, hc, lc, hf⟩, sa⟩ := h
      obtain ⟨T, xi, yi, rfl, nT, rfl, ex, ey⟩ := hy
      have sT : Same Ha (upd Ha T (.tup [xi, yi])) := sm_new nT
      have eT : (upd Ha T (.tup [xi, yi])) T = some (.tup [xi, yi]) := upd_same
      generalize upd Ha T (.tup [xi, yi]) = Hb at sT eT
      cases ex
      obtain ⟨d, hd1, hd2⟩ := dpall_get hd ey
      obtain ⟨y, hy1, rfl⟩ := map_get hd1
      obtain ⟨t, rfl, ht1⟩ := dp_stpI hd2
      have ht1b := sm_t (sa.trans sT) ht1
      have hix : i < xs.length := by omega
      have dr : xs.drop i = y :: xs.drop (i + 1) := by rw [List.drop_eq_getElem_cons hix]; congr 1; exact Option.some.inj ((List.getElem?_eq_getElem hix).symm.trans hy1)
      walk_at "g"
      refine ⟨a, p, S, cur, y.1, y.2, rfl, by walk_at "hs", ok, by walk_at "sq", hc, by omega, fun v H3 s3 hv => ?_⟩
      cases eb : behS S cur y.1 y.2 with
      | none =>
        rw [eb] at hv
        cases (show v = .non from hv)
        rw [dr, folF_none eb] at hf
        walk_at "g"
        refine k_nTup (by walk_at "sz") (fun T2 H4 n4 s4 e4 => ?_)
        exact q1 i hf T2 H4 ((sa.trans (sT.trans s3)).free n4) ((sa.trans (sT.trans s3)).trans s4) e4
      | some m =>
        rw [eb] at hv
        obtain ⟨pm, rfl, nm, em⟩ := hv
        rw [dr, folF_some eb] at hf
        obtain ⟨h1, h2⟩ := behS_words ok hc eb
        walk_at "g"
        exact ⟨⟨pm, _, _, _, _, m, rfl, em, h1, by omega, hf⟩, sa.trans (sT.trans s3)⟩
/-! ### kinds -/
end
end Lw
set_option autoImplicit true
set_option pp.maxSteps 1200
set_option Elab.async false
set_option linter.all false
set_option maxRecDepth 100000
set_option maxHeartbeats 1000000
namespace Lw
open PySem PySem.Spec PyProof.Rows L2 Gk

local macro_rules | `(tactic| walk_at "hp") => `(tactic| first | assumption | exact upd_same | (refine' (upd_ne ?n).trans ?h; (case n => assumption); (case h => walk_at "hp")) | (refine' sm_get ?s ?h; (case s => assumption); (case h => walk_at "hp")))
local macro_rules | `(tactic| walk_at "sq") => `(tactic| first | assumption | (refine' sq_l ?h; (case h => walk_at "hp")) | (refine' sm_l ?s ?h; (case s => assumption); (case h => walk_at "sq")))
local macro_rules | `(tactic| walk_at "st") => `(tactic| first | assumption | (refine' sq_t ?h; (case h => walk_at "hp")) | (refine' sm_t ?s ?h; (case s => assumption); (case h => walk_at "st")))
local macro_rules | `(tactic| walk_at "bg") => `(tactic| first | assumption | (refine' BagOk.sm ?s ?h; (case s => assumption); (case h => walk_at "bg")))
local macro_rules | `(tactic| walk_at "sm") => `(tactic| first | assumption | exact Same.refl _ | (refine' Same.trans ?h ?s; (case s => assumption); (case h => walk_at "sm")))
local macro_rules | `(tactic| walk_at "hs") => `(tactic| first | assumption | (refine' HsAt.sm ?s ?h; (case s => assumption); (case h => walk_at "hs")))
local macro_rules | `(tactic| walk_at "ms") => `(tactic| first | assumption | (refine' MAt.sm ?s ?h; (case s => assumption); (case h => walk_at "ms")))
local macro_rules | `(tactic| walk_at "md") => `(tactic| first | assumption | (refine' MDk.sm ?s ?h; (case s => assumption); (case h => walk_at "md")))
local macro_rules | `(tactic| walk_at "dp") => `(tactic| first | assumption | (refine' dp_sm ?s ?h; (case s => assumption); (case h => walk_at "dp")))
local macro_rules | `(tactic| walk_at "sz") => `(tactic| first | decide | assumption | omega | (simp only [List.length_cons, List.length_nil, List.length_map, List.length_append]; omega))
local macro_rules | `(tactic| walk_at "g1") => `(tactic| first
  | with_reducible refine k_seq ?_
  | with_reducible refine k_itB ?_
  | with_reducible refine k_next ?_
  | with_reducible refine k_asg ?_
  | with_reducible refine k_name ?_
  | with_reducible refine k_ret ?_
  | with_reducible refine k_retN ?_
  | with_reducible refine k_drop ?_
  | with_reducible refine k_ifs ?_
  | with_reducible refine k_brk ?_
  | with_reducible refine k_cont ?_
  | with_reducible refine k_ipI ?_
  | with_reducible refine k_test ?_
  | with_reducible refine k_tB ?_
  | with_reducible refine k_bl ?_
  | with_reducible refine k_not ?_
  | with_reducible refine k_and ?_
  | with_reducible refine k_or ?_
  | with_reducible refine k_yes ?_
  | with_reducible refine k_true ?_
  | with_reducible refine k_false ?_
  | with_reducible refine k_nt ?_
  | with_reducible refine k_c ?_
  | with_reducible refine k_op ?_
  | with_reducible refine k_un ?_
  | with_reducible refine k_if ?_
  | with_reducible refine k_chain ?_
  | with_reducible refine k_nil ?_
  | with_reducible refine k_cons ?_
  | with_reducible refine k_cb ?_
  | with_reducible refine k_call ?_
  | with_reducible refine k_callS ?_
  | with_reducible refine k_andV ?_
  | with_reducible refine k_orV ?_
  | with_reducible refine k_notV ?_
  | with_reducible refine k_lst ?_
  | with_reducible refine k_tup ?_
  | with_reducible refine k_nopart ?_
  | with_reducible refine k_part ?_
  | with_reducible refine k_nInt ?_
  | with_reducible refine k_sl ?_
  | with_reducible refine k_bm ?_
  | with_reducible refine k_bm0 ?_
  | with_reducible refine k_nTyS ?_
  | with_reducible refine k_m1 ?_
  | with_reducible refine k_m0 ?_
  | with_reducible refine k_nStr ?_
  | with_reducible refine k_I0 ?_
  | with_reducible refine k_U ?_
  | with_reducible refine k_add_i ?_
  | with_reducible refine k_eq_i ?_
  | with_reducible refine k_eq_s ?_
  | with_reducible refine k_eq_b ?_
  | with_reducible refine k_ne_i ?_
  | with_reducible refine k_ne_s ?_
  | with_reducible refine k_ne_b ?_
  | with_reducible refine k_le_i ?_
  | with_reducible refine k_le_s ?_
  | with_reducible refine k_gnil ?_
  | with_reducible refine k_gcons ?_
  | with_reducible refine k_gsub ?_
  | with_reducible refine k_for ?_
  | with_reducible refine k_lc ?_
  | with_reducible refine k_rng1 ?_
  | with_reducible refine k_rng2 ?_
  | with_reducible refine k_itl ?_
  | with_reducible refine k_itt ?_
  | with_reducible refine k_its ?_
  | with_reducible refine k_ite ?_
  | with_reducible refine k_iteB ?_
  | with_reducible refine k_lrg2 ?_
  | with_reducible refine k_itz ?_
  | with_reducible refine k_nIts ?_
  | with_reducible refine k_inS ?_
  | with_reducible refine k_niS ?_
  | with_reducible refine k_mk ?_
  | with_reducible refine k_meth ?_
  | with_reducible refine k_fld ?_
  | with_reducible refine k_sfld ?_
  | with_reducible refine k_dg ?_
  | with_reducible refine k_dp ?_
  | with_reducible refine k_pr ?_
  | with_reducible refine k_pr0 ?_
  | with_reducible refine k_sg ?_
  | with_reducible refine k_lc2 ?_
  | with_reducible refine k_callN ?_
  | with_reducible refine k_callNS ?_
  | with_reducible refine k_par ?_
  | with_reducible refine k_nPar ?_
  | with_reducible refine k_isNn ?_
  | with_reducible refine k_isNr ?_
  | with_reducible refine k_ntNn ?_
  | with_reducible refine k_ntNr ?_
  | with_reducible refine k_min2 ?_
  | with_reducible refine k_max2 ?_
  | with_reducible refine k_intB ?_
  | with_reducible refine k_intI ?_
  | with_reducible refine k_isBl ?_
  | with_reducible refine k_ntBl ?_
  | ((with_reducible refine' k_var ?kv ?_); (case kv => exact rfl))
  | ((with_reducible refine' k_aug ?kv ?_); (case kv => exact rfl))
  | ((with_reducible refine' k_ix_l ?ks ?ki ?_); (case ks => walk_at "sq"); (case ki => exact rfl))
  | ((with_reducible refine' k_ix_t ?ks ?ki ?_); (case ks => walk_at "st"); (case ki => exact rfl))
  | ((with_reducible refine' k_len_l ?ks ?_); (case ks => walk_at "sq"))
  | ((with_reducible refine' k_len_t ?ks ?_); (case ks => walk_at "st"))
  | ((with_reducible refine' k_setL ?ks ?ki ?_); (case ks => walk_at "hp"); (case ki => exact rfl))
  | ((with_reducible refine' k_nTyL ?ks ?_); (case ks => walk_at "sq"))
  | ((with_reducible refine' k_nItl ?ks ?_); (case ks => walk_at "sq"))
  | ((with_reducible refine' k_nItt ?ks ?_); (case ks => walk_at "st"))
  | ((with_reducible refine' k_nIte ?ks ?_); (case ks => walk_at "sq"))
  | ((with_reducible refine' k_mul ?km ?_); (case km => first | exact Or.inr ⟨by decide, by decide⟩ | exact Or.inl ⟨by decide, by decide⟩))
  | ((with_reducible refine' k_I ?km ?_); (case km => first | assumption | decide | exact ⟨by decide, by decide +kernel⟩ | exact ⟨by decide, by decide, by decide⟩))
  | ((with_reducible refine' k_nMeth ?kp ?kl ?_); (case kp => walk_at "hp"); (case kl => exact rfl))
  | ((with_reducible refine' k_nFld ?kp ?kc ?kn ?kl ?_); (case kp => walk_at "hp"); (case kc => assumption); (case kn => assumption); (case kl => exact rfl))
  | ((with_reducible refine' k_nSFld ?kp ?kc ?kn ?kl ?_); (case kp => walk_at "hp"); (case kc => assumption); (case kn => assumption); (case kl => exact of_decide_eq_true rfl))
  | ((with_reducible refine' k_nDg ?kp ?kl ?_); (case kp => walk_at "hp"); (case kl => exact rfl))
  | ((with_reducible refine' k_nRng1 ?k1 ?k2 ?_); (case k1 => omega); (case k2 => omega))
  | ((with_reducible refine' k_nKw ?k1 ?k2 ?_); (case k1 => exact rfl); (case k2 => exact rfl))
  | ((with_reducible refine' k_hsm ?kh ?_); (case kh => walk_at "hs"))
  | ((with_reducible refine' k_nMethH ?kh ?kl ?_); (case kh => walk_at "hs"); (case kl => exact fun _ _ => rfl))
  | ((with_reducible refine' k_mLet ?kh ?_); (case kh => walk_at "ms"))
  | ((with_reducible refine' k_mChew ?kh ?_); (case kh => walk_at "ms"))
  | ((with_reducible refine' k_mPut ?kh ?_); (case kh => walk_at "ms"))
  | ((with_reducible refine' k_mMost ?kh ?_); (case kh => walk_at "ms"))
  | ((with_reducible refine' k_mCut ?kh ?_); (case kh => walk_at "ms"))
  | ((with_reducible refine' k_mTab ?kh ?_); (case kh => walk_at "md"))
  | ((with_reducible refine' k_mEats ?kh ?_); (case kh => walk_at "md"))
  | ((with_reducible refine' k_gtup ?ks ?kl ?_); (case ks => walk_at "st"); (case kl => exact rfl)))
local macro_rules | `(tactic| walk_at "g") => `(tactic| repeat (walk_at "g1"))
local macro_rules | `(tactic| walk_at "w1") => `(tactic| first
  | walk_at "g1"
  | ((with_reducible refine' k_decT ?kp ?_); (case kp => omega))
  | ((with_reducible refine' k_decF ?kp ?_); (case kp => omega))
  | ((with_reducible refine' k_decNT ?kp ?_); (case kp => omega))
  | ((with_reducible refine' k_decNF ?kp ?_); (case kp => omega)))
local macro_rules | `(tactic| walk_at "w") => `(tactic| repeat (walk_at "w1"))

local macro_rules | `(tactic| walk_at "g1") => `(tactic| first
  | with_reducible refine k_mkP ?_
  | with_reducible refine k_din ?_
  | with_reducible refine k_dni ?_
  | with_reducible refine k_sortF ?_
  | with_reducible refine k_sortL ?_
  | with_reducible refine k_itk ?_
  | with_reducible refine k_revL ?_)


section
variable {P : Program} {w : World} {K : PySem.W.Frag} {mg : Str → Option Value} {base : Heap} {f : Addr} {fd : FuncData}
/-! ### rows that came so far -/
/-- a row handed in: a list, or a tuple made here -/
def RowB (K : PySem.W.Frag) (tq : Bool) (H : Hp) (r : Addr) (us : List (List Nat)) : Prop := match tq with
  | false => SqL K H r (tS us)
  | true => H r = some (.tup (tS us))
theorem RowB.sm {tq : Bool} {H H' : Hp} {r : Addr} {us : List (List Nat)} (s : Same H H') (h : RowB K tq H r us) : RowB K tq H' r us := match tq, h with
  | false, h => sm_l s h
  | true, h => s _ _ h
theorem RowB.sq {tq : Bool} {H : Hp} {r : Addr} {us : List (List Nat)} (h : RowB K tq H r us) : SqB K tq H r (tS us) := match tq, h with
  | false, h => h
  | true, h => sq_t h
theorem k_tup_B {tq : Bool} {H : Hp} {Q : VK} {a : Addr} {us : List (List Nat)} (hx : RowB K tq H a us) (h : ∀ p H2, Same H H2 → H2 p = some (.tup (tS us)) → Q (.ref p) H2) : rTupU K [.ref a] H Q := match tq, hx with
  | false, hx => k_tup_l hx fun p H2 _ s e => h p H2 s e
  | true, hx => k_tup_t (sq_t hx) (h a H (Same.refl _) hx)
/-- a row as a key -/
def rk (us : List (List Nat)) : List Key := us.map fun u => .inr (tx u)
theorem rk_kV (us : List (List Nat)) : (rk us).map kV = tS us := by
  unfold rk tS
  rw [List.map_map]
  rfl
/-- a row that came: the row, its depth, the row ahead of it with the bite -/
structure Came where
  row : List (List Nat)
  dep : Nat
  from_ : Option (List (List Nat) × Bt)
  deriving DecidableEq
/-- the tuple that tells how a row came -/
def FromAt (K : PySem.W.Frag) (H : Hp) (v : V) : Option (List (List Nat) × Bt) → Prop
  | none => ∃ T, v = .ref T ∧ SqT K H T [.non, .non]
  | some (us, b) => ∃ T Tp Tb, v = .ref T ∧ SqT K H T [.ref Tp, .ref Tb] ∧ H Tp = some (.tup (tS us)) ∧ SqT K H Tb [.int (b.1 : Nat), .str (sdS b.2)]
theorem FromAt.sm {H H' : Hp} {v : V} (s : Same H H') : ∀ {o : Option (List (List Nat) × Bt)}, FromAt K H v o → FromAt K H' v o
  | none, ⟨T, e, h⟩ => ⟨T, e, sm_t s h⟩
  | some (us, b), ⟨T, Tp, Tb, e, h1, h2, h3⟩ => ⟨T, Tp, Tb, e, sm_t s h1, s _ _ h2, sm_t s h3⟩
abbrev KC (K : PySem.W.Frag) (H : Hp) : List (List Key × V) → List Came → Prop := Paired fun p r => p.1 = rk r.row ∧ FromAt K H p.2 r.from_
abbrev KE_ (H : Hp) : List Addr → List (List (List Nat)) → Prop := Paired fun t us => H t = some (.tup (tS us))
/-! ### one depth further, in plain Lean -/
theorem rk_inj {us vs : List (List Nat)} (h : rk us = rk vs) : us = vs := by
  unfold rk at h
  exact (List.map_inj_right (fun a b e => tx_inj (by injection e))).mp h
theorem kc_val {H : Hp} {us : List (List Nat)} : ∀ {kc : List (List Key × V)} {rs : List Came}, KC K H kc rs → (valV kc (rk us)).isSome = rs.any fun r => decide (r.row = us)
  | _, _, .nil => rfl
  | (k, v) :: kc, r :: rs, .cons h t => by
    by_cases e : r.row = us
    · rw [List.any_cons, decide_eq_true e, Bool.true_or, show k = rk us from h.1.trans (by rw [e]), valV_pos rfl]
      rfl
    · rw [List.any_cons, decide_eq_false e, Bool.false_or, valV_neg (fun z => e (rk_inj (by rw [← h.1]; exact z))), kc_val t]
/-! ### writing dicts and lists leaves the tuples -/
structure NoTup (o : HO) : Prop where
  t : ∀ xs, o ≠ .tup xs
  f : ∀ x y, o ≠ .frz x y
theorem noTup_dT (kvs : List (List Key × V)) : NoTup (.dT kvs) := ⟨(fun _ z => nomatch z), (fun _ _ z => nomatch z)⟩
theorem noTup_lst (xs : List V) : NoTup (.lst xs) := ⟨(fun _ z => nomatch z), (fun _ _ z => nomatch z)⟩
section
variable {H : Hp} {a : Addr} {o o' : HO}
theorem tup_upd (ha : H a = some o') (n : NoTup o') {b : Addr} {xs : List V} (h : H b = some (.tup xs)) : (upd H a o) b = some (.tup xs) := by
  rw [upd_ne (fun z => by rw [z, ha] at h; exact n.t _ (Option.some.inj h))]
  exact h
theorem sqt_upd (ha : H a = some o') (n : NoTup o') {b : Addr} {xs : List V} (h : SqT K H b xs) : SqT K (upd H a o) b xs := by
  rcases h with (h | ⟨x, h⟩) | h
  · exact .inl (.inl (tup_upd ha n h))
  · refine .inl (.inr ⟨x, ?_⟩)
    rw [upd_ne (fun z => by rw [z, ha] at h; exact n.f _ _ (Option.some.inj h))]
    exact h
  · exact .inr h
theorem ke_upd (ha : H a = some o') (n : NoTup o') : ∀ {es : List Addr} {ed : List (List (List Nat))}, KE_ H es ed → KE_ (upd H a o) es ed
  | _, _, .nil => .nil
  | _, _, .cons h t => .cons (tup_upd ha n h) (ke_upd ha n t)
theorem from_upd (ha : H a = some o') (n : NoTup o') {v : V} : ∀ {x : Option (List (List Nat) × Bt)}, FromAt K H v x → FromAt K (upd H a o) v x
  | none, ⟨T, e, h⟩ => ⟨T, e, sqt_upd ha n h⟩
  | some (us, b), ⟨T, Tp, Tb, e, h1, h2, h3⟩ => ⟨T, Tp, Tb, e, sqt_upd ha n h1, tup_upd ha n h2, sqt_upd ha n h3⟩
theorem kc_upd (ha : H a = some o') (n : NoTup o') : ∀ {kc : List (List Key × V)} {rs : List Came}, KC K H kc rs → KC K (upd H a o) kc rs
  | _, _, .nil => .nil
  | _, _, .cons h t => .cons ⟨h.1, from_upd ha n h.2⟩ (kc_upd ha n t)
theorem ke_sm {H' : Hp} (s : Same H H') : ∀ {es : List Addr} {ed : List (List (List Nat))}, KE_ H es ed → KE_ H' es ed
  | _, _, .nil => .nil
  | _, _, .cons h t => .cons (s _ _ h) (ke_sm s t)
theorem kc_sm {H' : Hp} (s : Same H H') : ∀ {kc : List (List Key × V)} {rs : List Came}, KC K H kc rs → KC K H' kc rs
  | _, _, .nil => .nil
  | _, _, .cons h t => .cons ⟨h.1, FromAt.sm s h.2⟩ (kc_sm s t)
end
theorem kc_none {H : Hp} {us : List (List Nat)} {kc : List (List Key × V)} {rs : List Came} (h : KC K H kc rs) (hn : (rs.any fun r => decide (r.row = us)) = false) : valV kc (rk us) = none := by
  have e := kc_val (us := us) h
  rw [hn] at e
  exact Option.not_isSome_iff_eq_none.mp (by rw [e]; exact Bool.false_ne_true)
/-! ### what goes on while a depth is gone through -/
theorem kc_len {H : Hp} : ∀ {kc : List (List Key × V)} {rs : List Came}, KC K H kc rs → kc.length = rs.length
  | _, _, .nil => rfl
  | _, _, .cons _ t => by rw [List.length_cons, List.length_cons, kc_len t]
theorem ke_len {H : Hp} : ∀ {es : List Addr} {ed : List (List (List Nat))}, KE_ H es ed → es.length = ed.length
  | _, _, .nil => rfl
  | _, _, .cons _ t => by rw [List.length_cons, List.length_cons, ke_len t]
theorem kc_app {H : Hp} {q : List Key × V} {r : Came} (hq : q.1 = rk r.row ∧ FromAt K H q.2 r.from_) : ∀ {kc : List (List Key × V)} {rs : List Came}, KC K H kc rs → KC K H (kc ++ [q]) (rs ++ [r])
  | _, _, .nil => .cons hq .nil
  | _, _, .cons h t => .cons h (kc_app hq t)
theorem ke_app {H : Hp} {t : Addr} {u : List (List Nat)} (ht : H t = some (.tup (tS u))) : ∀ {es : List Addr} {ed : List (List (List Nat))}, KE_ H es ed → KE_ H (es ++ [t]) (ed ++ [u])
  | _, _, .nil => .cons ht .nil
  | _, _, .cons h t => .cons h (ke_app ht t)
theorem ke_get {H : Hp} : ∀ {es : List Addr} {ed : List (List (List Nat))} {i : Nat} {t : Addr}, KE_ H es ed → es[i]? = some t → ∃ u, ed[i]? = some u ∧ H t = some (.tup (tS u))
  | _, _, _, _, .nil, h => by simp at h
  | _, _, 0, t, .cons h _, e => by
    simp at e
    subst e
    exact ⟨_, rfl, h⟩
  | _, _, i + 1, t, .cons _ q, e => by
    obtain ⟨u, h1, h2⟩ := ke_get (i := i) (t := t) q (by simpa using e)
    exact ⟨u, by simpa using h1, h2⟩
end
end Lw
set_option autoImplicit true
set_option pp.maxSteps 1200
set_option Elab.async false
set_option linter.all false
set_option maxRecDepth 100000
set_option maxHeartbeats 1000000
namespace Lw
open PySem PySem.Spec PyProof.Rows L2 Gk NdefX
open LamX hiding takes0

local macro_rules | `(tactic| walk_at "hp") => `(tactic| first | assumption | exact upd_same | (refine' (upd_ne ?n).trans ?h; (case n => assumption); (case h => walk_at "hp")) | (refine' sm_get ?s ?h; (case s => assumption); (case h => walk_at "hp")))
local macro_rules | `(tactic| walk_at "sq") => `(tactic| first | assumption | (refine' sq_l ?h; (case h => walk_at "hp")) | (refine' sm_l ?s ?h; (case s => assumption); (case h => walk_at "sq")))
local macro_rules | `(tactic| walk_at "st") => `(tactic| first | assumption | (refine' sq_t ?h; (case h => walk_at "hp")) | (refine' sm_t ?s ?h; (case s => assumption); (case h => walk_at "st")))
local macro_rules | `(tactic| walk_at "bg") => `(tactic| first | assumption | (refine' BagOk.sm ?s ?h; (case s => assumption); (case h => walk_at "bg")))
local macro_rules | `(tactic| walk_at "sm") => `(tactic| first | assumption | exact Same.refl _ | (refine' Same.trans ?h ?s; (case s => assumption); (case h => walk_at "sm")))
local macro_rules | `(tactic| walk_at "hs") => `(tactic| first | assumption | (refine' HsAt.sm ?s ?h; (case s => assumption); (case h => walk_at "hs")))
local macro_rules | `(tactic| walk_at "ms") => `(tactic| first | assumption | (refine' MAt.sm ?s ?h; (case s => assumption); (case h => walk_at "ms")))
local macro_rules | `(tactic| walk_at "md") => `(tactic| first | assumption | (refine' MDk.sm ?s ?h; (case s => assumption); (case h => walk_at "md")))
local macro_rules | `(tactic| walk_at "dp") => `(tactic| first | assumption | (refine' dp_sm ?s ?h; (case s => assumption); (case h => walk_at "dp")))
local macro_rules | `(tactic| walk_at "sz") => `(tactic| first | decide | assumption | omega | (simp only [List.length_cons, List.length_nil, List.length_map, List.length_append]; omega))
local macro_rules | `(tactic| walk_at "g1") => `(tactic| first
  | with_reducible refine k_seq ?_
  | with_reducible refine k_itB ?_
  | with_reducible refine k_next ?_
  | with_reducible refine k_asg ?_
  | with_reducible refine k_name ?_
  | with_reducible refine k_ret ?_
  | with_reducible refine k_retN ?_
  | with_reducible refine k_drop ?_
  | with_reducible refine k_ifs ?_
  | with_reducible refine k_brk ?_
  | with_reducible refine k_cont ?_
  | with_reducible refine k_ipI ?_
  | with_reducible refine k_test ?_
  | with_reducible refine k_tB ?_
  | with_reducible refine k_bl ?_
  | with_reducible refine k_not ?_
  | with_reducible refine k_and ?_
  | with_reducible refine k_or ?_
  | with_reducible refine k_yes ?_
  | with_reducible refine k_true ?_
  | with_reducible refine k_false ?_
  | with_reducible refine k_nt ?_
  | with_reducible refine k_c ?_
  | with_reducible refine k_op ?_
  | with_reducible refine k_un ?_
  | with_reducible refine k_if ?_
  | with_reducible refine k_chain ?_
  | with_reducible refine k_nil ?_
  | with_reducible refine k_cons ?_
  | with_reducible refine k_cb ?_
  | with_reducible refine k_call ?_
  | with_reducible refine k_callS ?_
  | with_reducible refine k_andV ?_
  | with_reducible refine k_orV ?_
  | with_reducible refine k_notV ?_
  | with_reducible refine k_lst ?_
  | with_reducible refine k_tup ?_
  | with_reducible refine k_nopart ?_
  | with_reducible refine k_part ?_
  | with_reducible refine k_nInt ?_
  | with_reducible refine k_sl ?_
  | with_reducible refine k_bm ?_
  | with_reducible refine k_bm0 ?_
  | with_reducible refine k_nTyS ?_
  | with_reducible refine k_m1 ?_
  | with_reducible refine k_m0 ?_
  | with_reducible refine k_nStr ?_
  | with_reducible refine k_I0 ?_
  | with_reducible refine k_U ?_
  | with_reducible refine k_add_i ?_
  | with_reducible refine k_eq_i ?_
  | with_reducible refine k_eq_s ?_
  | with_reducible refine k_eq_b ?_
  | with_reducible refine k_ne_i ?_
  | with_reducible refine k_ne_s ?_
  | with_reducible refine k_ne_b ?_
  | with_reducible refine k_le_i ?_
  | with_reducible refine k_le_s ?_
  | with_reducible refine k_gnil ?_
  | with_reducible refine k_gcons ?_
  | with_reducible refine k_gsub ?_
  | with_reducible refine k_for ?_
  | with_reducible refine k_lc ?_
  | with_reducible refine k_rng1 ?_
  | with_reducible refine k_rng2 ?_
  | with_reducible refine k_itl ?_
  | with_reducible refine k_itt ?_
  | with_reducible refine k_its ?_
  | with_reducible refine k_ite ?_
  | with_reducible refine k_iteB ?_
  | with_reducible refine k_lrg2 ?_
  | with_reducible refine k_itz ?_
  | with_reducible refine k_nIts ?_
  | with_reducible refine k_inS ?_
  | with_reducible refine k_niS ?_
  | with_reducible refine k_mk ?_
  | with_reducible refine k_meth ?_
  | with_reducible refine k_fld ?_
  | with_reducible refine k_sfld ?_
  | with_reducible refine k_dg ?_
  | with_reducible refine k_dp ?_
  | with_reducible refine k_pr ?_
  | with_reducible refine k_pr0 ?_
  | with_reducible refine k_sg ?_
  | with_reducible refine k_lc2 ?_
  | with_reducible refine k_callN ?_
  | with_reducible refine k_callNS ?_
  | with_reducible refine k_par ?_
  | with_reducible refine k_nPar ?_
  | with_reducible refine k_isNn ?_
  | with_reducible refine k_isNr ?_
  | with_reducible refine k_ntNn ?_
  | with_reducible refine k_ntNr ?_
  | with_reducible refine k_min2 ?_
  | with_reducible refine k_max2 ?_
  | with_reducible refine k_intB ?_
  | with_reducible refine k_intI ?_
  | with_reducible refine k_isBl ?_
  | with_reducible refine k_ntBl ?_
  | ((with_reducible refine' k_var ?kv ?_); (case kv => exact rfl))
  | ((with_reducible refine' k_aug ?kv ?_); (case kv => exact rfl))
  | ((with_reducible refine' k_ix_l ?ks ?ki ?_); (case ks => walk_at "sq"); (case ki => exact rfl))
  | ((with_reducible refine' k_ix_t ?ks ?ki ?_); (case ks => walk_at "st"); (case ki => exact rfl))
  | ((with_reducible refine' k_len_l ?ks ?_); (case ks => walk_at "sq"))
  | ((with_reducible refine' k_len_t ?ks ?_); (case ks => walk_at "st"))
  | ((with_reducible refine' k_setL ?ks ?ki ?_); (case ks => walk_at "hp"); (case ki => exact rfl))
  | ((with_reducible refine' k_nTyL ?ks ?_); (case ks => walk_at "sq"))
  | ((with_reducible refine' k_nItl ?ks ?_); (case ks => walk_at "sq"))
  | ((with_reducible refine' k_nItt ?ks ?_); (case ks => walk_at "st"))
  | ((with_reducible refine' k_nIte ?ks ?_); (case ks => walk_at "sq"))
  | ((with_reducible refine' k_mul ?km ?_); (case km => first | exact Or.inr ⟨by decide, by decide⟩ | exact Or.inl ⟨by decide, by decide⟩))
  | ((with_reducible refine' k_I ?km ?_); (case km => first | assumption | decide | exact ⟨by decide, by decide +kernel⟩ | exact ⟨by decide, by decide, by decide⟩))
  | ((with_reducible refine' k_nMeth ?kp ?kl ?_); (case kp => walk_at "hp"); (case kl => exact rfl))
  | ((with_reducible refine' k_nFld ?kp ?kc ?kn ?kl ?_); (case kp => walk_at "hp"); (case kc => assumption); (case kn => assumption); (case kl => exact rfl))
  | ((with_reducible refine' k_nSFld ?kp ?kc ?kn ?kl ?_); (case kp => walk_at "hp"); (case kc => assumption); (case kn => assumption); (case kl => exact of_decide_eq_true rfl))
  | ((with_reducible refine' k_nDg ?kp ?kl ?_); (case kp => walk_at "hp"); (case kl => exact rfl))
  | ((with_reducible refine' k_nRng1 ?k1 ?k2 ?_); (case k1 => omega); (case k2 => omega))
  | ((with_reducible refine' k_nKw ?k1 ?k2 ?_); (case k1 => exact rfl); (case k2 => exact rfl))
  | ((with_reducible refine' k_hsm ?kh ?_); (case kh => walk_at "hs"))
  | ((with_reducible refine' k_nMethH ?kh ?kl ?_); (case kh => walk_at "hs"); (case kl => exact fun _ _ => rfl))
  | ((with_reducible refine' k_mLet ?kh ?_); (case kh => walk_at "ms"))
  | ((with_reducible refine' k_mChew ?kh ?_); (case kh => walk_at "ms"))
  | ((with_reducible refine' k_mPut ?kh ?_); (case kh => walk_at "ms"))
  | ((with_reducible refine' k_mMost ?kh ?_); (case kh => walk_at "ms"))
  | ((with_reducible refine' k_mCut ?kh ?_); (case kh => walk_at "ms"))
  | ((with_reducible refine' k_mTab ?kh ?_); (case kh => walk_at "md"))
  | ((with_reducible refine' k_mEats ?kh ?_); (case kh => walk_at "md"))
  | ((with_reducible refine' k_gtup ?ks ?kl ?_); (case ks => walk_at "st"); (case kl => exact rfl)))
local macro_rules | `(tactic| walk_at "g") => `(tactic| repeat (walk_at "g1"))
local macro_rules | `(tactic| walk_at "w1") => `(tactic| first
  | walk_at "g1"
  | ((with_reducible refine' k_decT ?kp ?_); (case kp => omega))
  | ((with_reducible refine' k_decF ?kp ?_); (case kp => omega))
  | ((with_reducible refine' k_decNT ?kp ?_); (case kp => omega))
  | ((with_reducible refine' k_decNF ?kp ?_); (case kp => omega)))
local macro_rules | `(tactic| walk_at "w") => `(tactic| repeat (walk_at "w1"))

local macro_rules | `(tactic| walk_at "g1") => `(tactic| first
  | with_reducible refine k_mkP ?_
  | with_reducible refine k_din ?_
  | with_reducible refine k_dni ?_
  | with_reducible refine k_sortF ?_
  | with_reducible refine k_sortL ?_
  | with_reducible refine k_itk ?_
  | with_reducible refine k_revL ?_)


section
variable {P : Program} {w : World} {K : PySem.W.Frag} {mg : Str → Option Value} {base : Heap} {f : Addr} {fd : FuncData}
/-! ### depth by depth, in plain Lean -/
abbrev rowsC (rs : List Came) : List (List (List Nat)) := rs.map (·.row)
/-! ### all that come -/
/-! ### ranks -/
/-! ### sorted by ranks -/
/-- the tables of code objects, each with its lambda's name -/
abbrev lq (x : Str) : Str := (envOfC x ⟨.function, [], false, false, []⟩ 0 0 .none).qual ++ "<lambda>"
abbrev TT (K : PySem.W.Frag) : List (Addr × Str) := [((He.cT K ("law", none)).2, lq "law")]

open PySem.W (AllAlike Sortable dataLe)
theorem paired_app {α β : Type} {R : α → β → Prop} {a : α} {b : β} (h : R a b) : ∀ {as : List α} {bs : List β}, Paired R as bs → Paired R (as ++ [a]) (bs ++ [b])
  | _, _, .nil => .cons h .nil
  | _, _, .cons x t => .cons x (paired_app h t)
theorem paired_at {α β : Type} {R : α → β → Prop} : ∀ {as : List α} {bs : List β} {i : Nat} {a : α}, Paired R as bs → as[i]? = some a → ∃ b, bs[i]? = some b ∧ R a b
  | _, _, _, _, .nil, h => by simp at h
  | _, _, 0, a, .cons h _, e => by
    simp at e
    subst e
    exact ⟨_, rfl, h⟩
  | _, _, i + 1, a, .cons _ t, e => by
    obtain ⟨b, h1, h2⟩ := paired_at (i := i) (a := a) t (by simpa using e)
    exact ⟨b, by simpa using h1, h2⟩
end
end Lw
set_option autoImplicit true
set_option pp.maxSteps 1200
set_option Elab.async false
set_option linter.all false
set_option maxRecDepth 100000
set_option maxHeartbeats 1000000
namespace Lw
open PySem PySem.Spec PyProof.Rows L2 Gk NdefX
open LamX hiding takes0
open PySem.W (dataLe)

local macro_rules | `(tactic| walk_at "hp") => `(tactic| first | assumption | exact upd_same | (refine' (upd_ne ?n).trans ?h; (case n => assumption); (case h => walk_at "hp")) | (refine' sm_get ?s ?h; (case s => assumption); (case h => walk_at "hp")))
local macro_rules | `(tactic| walk_at "sq") => `(tactic| first | assumption | (refine' sq_l ?h; (case h => walk_at "hp")) | (refine' sm_l ?s ?h; (case s => assumption); (case h => walk_at "sq")))
local macro_rules | `(tactic| walk_at "st") => `(tactic| first | assumption | (refine' sq_t ?h; (case h => walk_at "hp")) | (refine' sm_t ?s ?h; (case s => assumption); (case h => walk_at "st")))
local macro_rules | `(tactic| walk_at "bg") => `(tactic| first | assumption | (refine' BagOk.sm ?s ?h; (case s => assumption); (case h => walk_at "bg")))
local macro_rules | `(tactic| walk_at "sm") => `(tactic| first | assumption | exact Same.refl _ | (refine' Same.trans ?h ?s; (case s => assumption); (case h => walk_at "sm")))
local macro_rules | `(tactic| walk_at "hs") => `(tactic| first | assumption | (refine' HsAt.sm ?s ?h; (case s => assumption); (case h => walk_at "hs")))
local macro_rules | `(tactic| walk_at "ms") => `(tactic| first | assumption | (refine' MAt.sm ?s ?h; (case s => assumption); (case h => walk_at "ms")))
local macro_rules | `(tactic| walk_at "md") => `(tactic| first | assumption | (refine' MDk.sm ?s ?h; (case s => assumption); (case h => walk_at "md")))
local macro_rules | `(tactic| walk_at "dp") => `(tactic| first | assumption | (refine' dp_sm ?s ?h; (case s => assumption); (case h => walk_at "dp")))
local macro_rules | `(tactic| walk_at "sz") => `(tactic| first | decide | assumption | omega | (simp only [List.length_cons, List.length_nil, List.length_map, List.length_append]; omega))
local macro_rules | `(tactic| walk_at "g1") => `(tactic| first
  | with_reducible refine k_seq ?_
  | with_reducible refine k_itB ?_
  | with_reducible refine k_next ?_
  | with_reducible refine k_asg ?_
  | with_reducible refine k_name ?_
  | with_reducible refine k_ret ?_
  | with_reducible refine k_retN ?_
  | with_reducible refine k_drop ?_
  | with_reducible refine k_ifs ?_
  | with_reducible refine k_brk ?_
  | with_reducible refine k_cont ?_
  | with_reducible refine k_ipI ?_
  | with_reducible refine k_test ?_
  | with_reducible refine k_tB ?_
  | with_reducible refine k_bl ?_
  | with_reducible refine k_not ?_
  | with_reducible refine k_and ?_
  | with_reducible refine k_or ?_
  | with_reducible refine k_yes ?_
  | with_reducible refine k_true ?_
  | with_reducible refine k_false ?_
  | with_reducible refine k_nt ?_
  | with_reducible refine k_c ?_
  | with_reducible refine k_op ?_
  | with_reducible refine k_un ?_
  | with_reducible refine k_if ?_
  | with_reducible refine k_chain ?_
  | with_reducible refine k_nil ?_
  | with_reducible refine k_cons ?_
  | with_reducible refine k_cb ?_
  | with_reducible refine k_call ?_
  | with_reducible refine k_callS ?_
  | with_reducible refine k_andV ?_
  | with_reducible refine k_orV ?_
  | with_reducible refine k_notV ?_
  | with_reducible refine k_lst ?_
  | with_reducible refine k_tup ?_
  | with_reducible refine k_nopart ?_
  | with_reducible refine k_part ?_
  | with_reducible refine k_nInt ?_
  | with_reducible refine k_sl ?_
  | with_reducible refine k_bm ?_
  | with_reducible refine k_bm0 ?_
  | with_reducible refine k_nTyS ?_
  | with_reducible refine k_m1 ?_
  | with_reducible refine k_m0 ?_
  | with_reducible refine k_nStr ?_
  | with_reducible refine k_I0 ?_
  | with_reducible refine k_U ?_
  | with_reducible refine k_add_i ?_
  | with_reducible refine k_eq_i ?_
  | with_reducible refine k_eq_s ?_
  | with_reducible refine k_eq_b ?_
  | with_reducible refine k_ne_i ?_
  | with_reducible refine k_ne_s ?_
  | with_reducible refine k_ne_b ?_
  | with_reducible refine k_le_i ?_
  | with_reducible refine k_le_s ?_
  | with_reducible refine k_gnil ?_
  | with_reducible refine k_gcons ?_
  | with_reducible refine k_gsub ?_
  | with_reducible refine k_for ?_
  | with_reducible refine k_lc ?_
  | with_reducible refine k_rng1 ?_
  | with_reducible refine k_rng2 ?_
  | with_reducible refine k_itl ?_
  | with_reducible refine k_itt ?_
  | with_reducible refine k_its ?_
  | with_reducible refine k_ite ?_
  | with_reducible refine k_iteB ?_
  | with_reducible refine k_lrg2 ?_
  | with_reducible refine k_itz ?_
  | with_reducible refine k_nIts ?_
  | with_reducible refine k_inS ?_
  | with_reducible refine k_niS ?_
  | with_reducible refine k_mk ?_
  | with_reducible refine k_meth ?_
  | with_reducible refine k_fld ?_
  | with_reducible refine k_sfld ?_
  | with_reducible refine k_dg ?_
  | with_reducible refine k_dp ?_
  | with_reducible refine k_pr ?_
  | with_reducible refine k_pr0 ?_
  | with_reducible refine k_sg ?_
  | with_reducible refine k_lc2 ?_
  | with_reducible refine k_callN ?_
  | with_reducible refine k_callNS ?_
  | with_reducible refine k_par ?_
  | with_reducible refine k_nPar ?_
  | with_reducible refine k_isNn ?_
  | with_reducible refine k_isNr ?_
  | with_reducible refine k_ntNn ?_
  | with_reducible refine k_ntNr ?_
  | with_reducible refine k_min2 ?_
  | with_reducible refine k_max2 ?_
  | with_reducible refine k_intB ?_
  | with_reducible refine k_intI ?_
  | with_reducible refine k_isBl ?_
  | with_reducible refine k_ntBl ?_
  | ((with_reducible refine' k_var ?kv ?_); (case kv => exact rfl))
  | ((with_reducible refine' k_aug ?kv ?_); (case kv => exact rfl))
  | ((with_reducible refine' k_ix_l ?ks ?ki ?_); (case ks => walk_at "sq"); (case ki => exact rfl))
  | ((with_reducible refine' k_ix_t ?ks ?ki ?_); (case ks => walk_at "st"); (case ki => exact rfl))
  | ((with_reducible refine' k_len_l ?ks ?_); (case ks => walk_at "sq"))
  | ((with_reducible refine' k_len_t ?ks ?_); (case ks => walk_at "st"))
  | ((with_reducible refine' k_setL ?ks ?ki ?_); (case ks => walk_at "hp"); (case ki => exact rfl))
  | ((with_reducible refine' k_nTyL ?ks ?_); (case ks => walk_at "sq"))
  | ((with_reducible refine' k_nItl ?ks ?_); (case ks => walk_at "sq"))
  | ((with_reducible refine' k_nItt ?ks ?_); (case ks => walk_at "st"))
  | ((with_reducible refine' k_nIte ?ks ?_); (case ks => walk_at "sq"))
  | ((with_reducible refine' k_mul ?km ?_); (case km => first | exact Or.inr ⟨by decide, by decide⟩ | exact Or.inl ⟨by decide, by decide⟩))
  | ((with_reducible refine' k_I ?km ?_); (case km => first | assumption | decide | exact ⟨by decide, by decide +kernel⟩ | exact ⟨by decide, by decide, by decide⟩))
  | ((with_reducible refine' k_nMeth ?kp ?kl ?_); (case kp => walk_at "hp"); (case kl => exact rfl))
  | ((with_reducible refine' k_nFld ?kp ?kc ?kn ?kl ?_); (case kp => walk_at "hp"); (case kc => assumption); (case kn => assumption); (case kl => exact rfl))
  | ((with_reducible refine' k_nSFld ?kp ?kc ?kn ?kl ?_); (case kp => walk_at "hp"); (case kc => assumption); (case kn => assumption); (case kl => exact of_decide_eq_true rfl))
  | ((with_reducible refine' k_nDg ?kp ?kl ?_); (case kp => walk_at "hp"); (case kl => exact rfl))
  | ((with_reducible refine' k_nRng1 ?k1 ?k2 ?_); (case k1 => omega); (case k2 => omega))
  | ((with_reducible refine' k_nKw ?k1 ?k2 ?_); (case k1 => exact rfl); (case k2 => exact rfl))
  | ((with_reducible refine' k_hsm ?kh ?_); (case kh => walk_at "hs"))
  | ((with_reducible refine' k_nMethH ?kh ?kl ?_); (case kh => walk_at "hs"); (case kl => exact fun _ _ => rfl))
  | ((with_reducible refine' k_mLet ?kh ?_); (case kh => walk_at "ms"))
  | ((with_reducible refine' k_mChew ?kh ?_); (case kh => walk_at "ms"))
  | ((with_reducible refine' k_mPut ?kh ?_); (case kh => walk_at "ms"))
  | ((with_reducible refine' k_mMost ?kh ?_); (case kh => walk_at "ms"))
  | ((with_reducible refine' k_mCut ?kh ?_); (case kh => walk_at "ms"))
  | ((with_reducible refine' k_mTab ?kh ?_); (case kh => walk_at "md"))
  | ((with_reducible refine' k_mEats ?kh ?_); (case kh => walk_at "md"))
  | ((with_reducible refine' k_gtup ?ks ?kl ?_); (case ks => walk_at "st"); (case kl => exact rfl)))
local macro_rules | `(tactic| walk_at "g") => `(tactic| repeat (walk_at "g1"))
local macro_rules | `(tactic| walk_at "w1") => `(tactic| first
  | walk_at "g1"
  | ((with_reducible refine' k_decT ?kp ?_); (case kp => omega))
  | ((with_reducible refine' k_decF ?kp ?_); (case kp => omega))
  | ((with_reducible refine' k_decNT ?kp ?_); (case kp => omega))
  | ((with_reducible refine' k_decNF ?kp ?_); (case kp => omega)))
local macro_rules | `(tactic| walk_at "w") => `(tactic| repeat (walk_at "w1"))

local macro_rules | `(tactic| walk_at "g1") => `(tactic| first
  | with_reducible refine k_mkP ?_
  | with_reducible refine k_din ?_
  | with_reducible refine k_dni ?_
  | with_reducible refine k_sortF ?_
  | with_reducible refine k_sortL ?_
  | with_reducible refine k_itk ?_
  | with_reducible refine k_revL ?_)


section
variable {P : Program} {w : World} {K : PySem.W.Frag} {mg : Str → Option Value} {base : Heap} {f : Addr} {fd : FuncData}
/-! ### the way by which a row came -/
def cameOf (rs : List Came) (u : List (List Nat)) : Option Came := rs.find? fun r => decide (r.row = u)
theorem cameOf_of {rs : List Came} (nd : (rowsC rs).Nodup) {r : Came} (h : r ∈ rs) : cameOf rs r.row = some r := by
  unfold cameOf
  induction rs with
  | nil => cases h
  | cons a rs ih =>
    rw [rowsC, List.map_cons, List.nodup_cons] at nd
    rcases List.mem_cons.mp h with rfl | h
    · rw [List.find?_cons, decide_eq_true rfl]
    · have ne : a.row ≠ r.row := fun e => nd.1 (by rw [e]; exact List.mem_map_of_mem h)
      rw [List.find?_cons, decide_eq_false ne]
      exact ih nd.2 h
theorem kc_came {H : Hp} {us : List (List Nat)} : ∀ {kc : List (List Key × V)} {rs : List Came} {r : Came}, KC K H kc rs → cameOf rs us = some r → ∃ v, valV kc (rk us) = some v ∧ FromAt K H v r.from_
  | _, _, _, .nil, h => nomatch h
  | p :: kc, q :: rs, r, .cons h t, e => by
    unfold cameOf at e
    rw [List.find?_cons] at e
    by_cases c : q.row = us
    · rw [decide_eq_true c] at e
      cases e
      exact ⟨p.2, by rw [valV_pos (by rw [h.1, c])], h.2⟩
    · rw [decide_eq_false c] at e
      obtain ⟨v, h1, h2⟩ := kc_came t e
      exact ⟨v, by rw [valV_neg (fun z => c (rk_inj (h.1 ▸ z)))]; exact h1, h2⟩
theorem dpall_rev {H : Hp} : ∀ {vs : List V} {ds : List PyData}, DpAll K H vs ds → DpAll K H vs.reverse ds.reverse
  | _, _, .nil => .nil
  | _, _, .cons h t => by
    rw [List.reverse_cons, List.reverse_cons]
    exact dpall_app (dpall_rev t) (h)
theorem bts_upd {H : Hp} {a : Addr} {o o' : HO} (ha : H a = some o') (n : NoTup o') : ∀ {ws : List V} {xs : List Bt}, DpAll K H ws (xs.map dBt) → DpAll K (upd H a o) ws (xs.map dBt)
  | [], [], _ => .nil
  | w :: ws, x :: xs, .cons h t => by
    obtain ⟨tb, rfl, htb⟩ := dp_btI h
    exact .cons (.tup (sqt_upd ha n htb) (.cons (.int _) (.cons (.str _) .nil))) (bts_upd ha n t)
end
end Lw
set_option autoImplicit true
set_option pp.maxSteps 1200
set_option Elab.async false
set_option linter.all false
set_option maxRecDepth 100000
set_option maxHeartbeats 1000000
namespace Lw
open PySem PySem.Spec PyProof.Rows L2 Gk NdefX
open LamX hiding takes0
/-! ### the law's own going out, row by row, held against the depths -/
end Lw
set_option autoImplicit true
set_option pp.maxSteps 1200
set_option Elab.async false
set_option linter.all false
set_option maxRecDepth 100000
set_option maxHeartbeats 1000000
namespace Lw
open PySem PySem.Spec PyProof.Rows L2 Gk
section
variable {K : PySem.W.Frag}
/-! ### all came, under any bound -/
/-! ### ways, bite by bite -/
/-! ### the way told is one -/
def walkF (S : HsD) : List (List Nat) → List Bt → Option (List (List Nat))
  | u, [] => some u
  | u, b :: bs => match behF S u (b.1 : Nat) b.2 with
    | none => none
    | some m => walkF S m bs
theorem walkF_app {S : HsD} : ∀ (bs cs : List Bt) (u : List (List Nat)), walkF S u (bs ++ cs) = (walkF S u bs).bind fun v => walkF S v cs
  | [], cs, u => rfl
  | b :: bs, cs, u => by
    show (match behF S u (b.1 : Nat) b.2 with | none => none | some m => walkF S m (bs ++ cs)) = (match behF S u (b.1 : Nat) b.2 with | none => none | some m => walkF S m bs).bind _
    cases behF S u (b.1 : Nat) b.2 with
    | none => rfl
    | some m => exact walkF_app bs cs m
theorem walkF_one {S : HsD} {u v : List (List Nat)} {b : Bt} (h : (b, v) ∈ bitesF S u) : walkF S u [b] = some v := by
  have h2 := (bitesF_in.mp h).2
  show (match behF S u (b.1 : Nat) b.2 with | none => none | some m => walkF S m []) = _
  rw [h2]
  rfl
/-! ### rows that can come of rows that came -/
end
end Lw
set_option autoImplicit true
set_option pp.maxSteps 1200
set_option Elab.async false
set_option linter.all false
set_option maxRecDepth 100000
set_option maxHeartbeats 1000000
namespace Lw
open PySem PySem.Spec PyProof.Rows L2 Gk
/-! ### rows as they come, each held against those ahead of it on its way: in plain Lean -/
abbrev Rw : Type := List (List Nat)
/-- where a row stands whole within another one, first -/
def placeF (p u : Rw) : Option Nat := (List.range (u.length + 1 - p.length)).find? fun i => decide ((u.drop i).take p.length = p)
theorem placeF_some {p u : Rw} {i : Nat} (h : placeF p u = some i) : i + p.length ≤ u.length ∧ u = u.take i ++ p ++ u.drop (i + p.length) := by
  have h1 := List.mem_of_find?_eq_some h
  have h2 : (u.drop i).take p.length = p := by simpa using List.find?_some h
  have hl := congrArg List.length h2
  rw [List.length_take, List.length_drop] at hl
  have hi := List.mem_range.mp h1
  refine ⟨by omega, ?_⟩
  have e : u.drop i = p ++ u.drop (i + p.length) := by
    conv => lhs; rw [← List.take_append_drop p.length (u.drop i), h2, List.drop_drop]
  rw [List.append_assoc, ← e, List.take_append_drop]
/-- a tree's rows: each but the first has the row ahead of it with the bite -/
structure TrOk (S : HsD) (us : Rw) (L : List Came) : Prop where
  nd : (rowsC L).Nodup
  fr : ∀ r ∈ L, (r.row = us ∧ r.dep = 0 ∧ r.from_ = none) ∨ ∃ p b, r.from_ = some (p, b) ∧ (∃ q ∈ L, q.row = p ∧ q.dep + 1 = r.dep) ∧ (b, r.row) ∈ bitesF S p
  me : ∃ ex, L = ⟨us, 0, none⟩ :: ex
theorem TrOk.one (S : HsD) (us : Rw) : TrOk S us [⟨us, 0, none⟩] := ⟨List.pairwise_singleton _ _, fun r hr => .inl (by rw [List.mem_singleton.mp hr]; exact ⟨rfl, rfl, rfl⟩), [], rfl⟩
theorem TrOk.add {S : HsD} {us : Rw} {L : List Came} (h : TrOk S us L) {q : Came} (hq : q ∈ L) {x : Bt × Rw} (hx : x ∈ bitesF S q.row) (hn : (L.any fun r => decide (r.row = x.2)) = false) : TrOk S us (L ++ [⟨x.2, q.dep + 1, some (q.row, x.1)⟩]) := by
  obtain ⟨ex, e⟩ := h.me
  refine ⟨?_, fun r hr => ?_, ex ++ [⟨x.2, q.dep + 1, some (q.row, x.1)⟩], by rw [e]; rfl⟩
  · rw [rowsC, List.map_append, List.nodup_append]
    refine ⟨h.nd, List.pairwise_singleton _ _, fun a ha b hb => ?_⟩
    rw [List.mem_singleton.mp hb]
    intro z
    obtain ⟨r, hr, rfl⟩ := List.mem_map.mp ha
    have := List.any_eq_false.mp hn r hr
    exact this (decide_eq_true z)
  · rcases List.mem_append.mp hr with hr | hr
    · rcases h.fr r hr with z | ⟨p, b, h1, ⟨q', h2, h3⟩, h4⟩
      · exact .inl z
      · exact .inr ⟨p, b, h1, ⟨q', List.mem_append_left _ h2, h3⟩, h4⟩
    · rw [List.mem_singleton.mp hr]
      exact .inr ⟨q.row, x.1, rfl, ⟨q, List.mem_append_left _ hq, rfl, rfl⟩, hx⟩
theorem TrOk.words {S : HsD} (ok : HsOk S) {us : Rw} {L : List Came} (h : TrOk S us L) (hw : AllW S us) : ∀ n, ∀ r ∈ L, r.dep = n → AllW S r.row ∧ r.row.length ≤ us.length + 8 * n
  | 0, r, hr, e => by
    rcases h.fr r hr with ⟨z, _, _⟩ | ⟨p, b, _, ⟨q, _, _, dq⟩, _⟩
    · rw [z]; exact ⟨hw, by omega⟩
    · omega
  | n + 1, r, hr, e => by
    rcases h.fr r hr with ⟨_, z, _⟩ | ⟨p, b, _, ⟨q, hq, eq, dq⟩, hb⟩
    · omega
    · obtain ⟨w1, w2⟩ := TrOk.words ok h hw n q hq (by omega)
      rw [eq] at w1 w2
      obtain ⟨v1, v2⟩ := behF_words ok w1 (bitesF_in.mp hb).2
      refine ⟨v1, Nat.le_trans v2 ?_⟩
      show p.length + 8 ≤ _
      omega
/-- the rows ahead of a row on its way, the nearest first -/
def ancF (L : List Came) : Nat → Rw → List Rw
  | 0, _ => []
  | n + 1, u => match cameOf L u with
    | some ⟨_, _, some (p, _)⟩ => p :: ancF L n p
    | _ => []
theorem ancF_some {L : List Came} {n : Nat} {u p : Rw} {b : Bt} {d : Nat} {row : Rw} (h : cameOf L u = some ⟨row, d, some (p, b)⟩) : ancF L (n + 1) u = p :: ancF L n p := by
  show (match cameOf L u with | some ⟨_, _, some (p, _)⟩ => _ | _ => _) = _
  rw [h]
/-- the bites of the way from a row above to a row -/
def wayT (L : List Came) : Nat → Rw → Rw → List Bt
  | 0, _, _ => []
  | n + 1, u, top => if u = top then [] else match cameOf L u with
    | some ⟨_, _, some (p, b)⟩ => wayT L n p top ++ [b]
    | _ => []
theorem wayT_self {L : List Came} {n : Nat} {u : Rw} : wayT L n u u = [] := by
  cases n with
  | zero => rfl
  | succ n => exact if_pos rfl
theorem wayT_some {L : List Came} {n : Nat} {u p top : Rw} {b : Bt} {d : Nat} {row : Rw} (h : cameOf L u = some ⟨row, d, some (p, b)⟩) (ne : u ≠ top) : wayT L (n + 1) u top = wayT L n p top ++ [b] := by
  show (if u = top then [] else match cameOf L u with | some ⟨_, _, some (p, b)⟩ => wayT L n p top ++ [b] | _ => []) = _
  rw [if_neg ne, h]
/-- the row ahead, of a row that has one -/
theorem TrOk.up {S : HsD} {us : Rw} {L : List Came} (h : TrOk S us L) {n : Nat} {r : Came} (hr : r ∈ L) (e : r.dep = n + 1) : ∃ q ∈ L, ∃ b, q.dep = n ∧ (b, r.row) ∈ bitesF S q.row ∧ r.from_ = some (q.row, b) ∧ cameOf L r.row = some ⟨r.row, n + 1, some (q.row, b)⟩ := by
  rcases h.fr r hr with ⟨_, z, _⟩ | ⟨p, b, hf, ⟨q, hq, eq, dq⟩, hb⟩
  · omega
  · subst eq
    refine ⟨q, hq, b, by omega, hb, hf, ?_⟩
    rw [cameOf_of h.nd hr]
    obtain ⟨row, dep, fr⟩ := r
    have e1 : dep = n + 1 := e
    have e2 : fr = some (q.row, b) := hf
    rw [e1, e2]
theorem TrOk.root {S : HsD} {us : Rw} {L : List Came} (h : TrOk S us L) {r : Came} (hr : r ∈ L) (e : r.dep = 0) : r.row = us ∧ r.from_ = none := by
  rcases h.fr r hr with ⟨z, _, y⟩ | ⟨_, _, _, ⟨q, _, _, dq⟩, _⟩
  · exact ⟨z, y⟩
  · omega
/-- each row ahead came too, and the way from it leads to the row -/
theorem TrOk.anc {S : HsD} {us : Rw} {L : List Came} (h : TrOk S us L) : ∀ n, ∀ r ∈ L, r.dep = n → ∀ p ∈ r.row :: ancF L n r.row, (∃ q ∈ L, q.row = p ∧ q.dep ≤ n ∧ (wayT L n r.row p).length + q.dep = n) ∧ walkF S p (wayT L n r.row p) = some r.row
  | 0, r, hr, e, p, hp => by
    rcases List.mem_cons.mp hp with rfl | hp
    · exact ⟨⟨r, hr, rfl, by omega, by rw [wayT_self]; show 0 + r.dep = 0; omega⟩, by rw [wayT_self]; rfl⟩
    · cases hp
  | n + 1, r, hr, e, p, hp => by
    obtain ⟨q, hq, b, dq, hb, hf, hc⟩ := h.up hr e
    by_cases c : r.row = p
    · rw [← c, wayT_self]
      exact ⟨⟨r, hr, rfl, by omega, by show 0 + r.dep = n + 1; omega⟩, rfl⟩
    · rw [ancF_some hc] at hp
      have hp' : p ∈ q.row :: ancF L n q.row := (List.mem_cons.mp hp).resolve_left fun z => c z.symm
      obtain ⟨⟨q', h1, h2, h3, h4⟩, w⟩ := TrOk.anc h n q hq dq p hp'
      rw [wayT_some hc c, walkF_app, w, List.length_append]
      exact ⟨⟨q', h1, h2, by omega, by show (_ + 1) + _ = n + 1; omega⟩, walkF_one hb⟩
theorem TrOk.anc_root {S : HsD} {us : Rw} {L : List Came} (h : TrOk S us L) : ∀ n, ∀ r ∈ L, r.dep = n → us ∈ r.row :: ancF L n r.row
  | 0, r, hr, e => by
    rw [(h.root hr e).1]
    exact List.mem_cons_self ..
  | n + 1, r, hr, e => by
    obtain ⟨q, hq, b, dq, _, _, hc⟩ := h.up hr e
    rw [ancF_some hc]
    exact List.mem_cons_of_mem _ (TrOk.anc_root h n q hq dq)
/-- the nearest row ahead that stands whole within -/
def closeF (L : List Came) (n : Nat) (u : Rw) : Option Rw := (ancF L n u).find? fun p => (placeF p u).isSome
/-- how far the rows have come -/
inductive GoR where
  | on (L : List Came)
  | far
  | round (L : List Came) (r : Came)
def gB (most : Nat) (q : Rw) (d : Nat) (st : GoR) (x : Bt × Rw) : GoR := match st with
  | .on L => if (L.any fun r => decide (r.row = x.2)) = true then .on L else
      if most ≤ L.length then .far else
        if (closeF (L ++ [⟨x.2, d + 1, some (q, x.1)⟩]) (d + 1) x.2).isSome = true then .round (L ++ [⟨x.2, d + 1, some (q, x.1)⟩]) ⟨x.2, d + 1, some (q, x.1)⟩ else .on (L ++ [⟨x.2, d + 1, some (q, x.1)⟩])
  | r => r
def gR (S : HsD) (most : Nat) (st : GoR) (i : Nat) : GoR := match st with
  | .on L => match L[i]? with
    | none => .on L
    | some r => (bitesF S r.row).foldl (gB most r.row r.dep) (.on L)
  | r => r
def gF (S : HsD) (us : Rw) (most n : Nat) : GoR := (List.range n).foldl (gR S most) (.on [⟨us, 0, none⟩])
theorem gF_succ (S : HsD) (us : Rw) (most n : Nat) : gF S us most (n + 1) = gR S most (gF S us most n) n := by
  unfold gF
  rw [List.range_succ, List.foldl_append]
  rfl
theorem gB_far (most : Nat) (q : Rw) (d : Nat) : ∀ xs : List (Bt × Rw), xs.foldl (gB most q d) .far = .far
  | [] => rfl
  | x :: xs => gB_far most q d xs
theorem gB_round (most : Nat) (q : Rw) (d : Nat) (L : List Came) (r : Came) : ∀ xs : List (Bt × Rw), xs.foldl (gB most q d) (.round L r) = .round L r
  | [] => rfl
  | x :: xs => gB_round most q d L r xs
theorem gF_far {S : HsD} {us : Rw} {most n : Nat} (h : gF S us most n = .far) : ∀ m, n ≤ m → gF S us most m = .far
  | 0, hm => by rw [show 0 = n by omega]; exact h
  | m + 1, hm => by
    by_cases c : n = m + 1
    · rw [← c]; exact h
    · rw [gF_succ, gF_far h m (by omega)]
      rfl
theorem gF_round {S : HsD} {us : Rw} {most n : Nat} {L : List Came} {r : Came} (h : gF S us most n = .round L r) : ∀ m, n ≤ m → gF S us most m = .round L r
  | 0, hm => by rw [show 0 = n by omega]; exact h
  | m + 1, hm => by
    by_cases c : n = m + 1
    · rw [← c]; exact h
    · rw [gF_succ, gF_round h m (by omega)]
      rfl
theorem gF_still {S : HsD} {us : Rw} {most n : Nat} {L : List Came} (h : gF S us most n = .on L) (hl : L.length ≤ n) : ∀ m, n ≤ m → gF S us most m = .on L
  | 0, hm => by rw [show 0 = n by omega]; exact h
  | m + 1, hm => by
    by_cases c : n = m + 1
    · rw [← c]; exact h
    · rw [gF_succ, gF_still h hl m (by omega)]
      show (match L[m]? with | none => GoR.on L | some r => _) = _
      rw [List.getElem?_eq_none (by omega)]
/-- what is so of all rows that came -/
structure OnOk (S : HsD) (us : Rw) (most : Nat) (L : List Came) : Prop where
  t : TrOk S us L
  l : L.length ≤ most
  d : ∀ r ∈ L, r.dep < L.length
def GOk (S : HsD) (us : Rw) (most : Nat) : GoR → Prop
  | .on L => OnOk S us most L
  | .far => True
  | .round L r => OnOk S us most L ∧ r ∈ L ∧ (closeF L r.dep r.row).isSome = true
theorem OnOk.add {S : HsD} {us : Rw} {most : Nat} {L : List Came} (h : OnOk S us most L) (hl : L.length < most) {q : Came} (hq : q ∈ L) {x : Bt × Rw} (hx : x ∈ bitesF S q.row) (hn : (L.any fun r => decide (r.row = x.2)) = false) : OnOk S us most (L ++ [⟨x.2, q.dep + 1, some (q.row, x.1)⟩]) := by
  refine ⟨h.t.add hq hx hn, by rw [List.length_append]; show L.length + 1 ≤ most; omega, fun r hr => ?_⟩
  rw [List.length_append]
  show _ < L.length + 1
  rcases List.mem_append.mp hr with hr | hr
  · have := h.d r hr; omega
  · have := h.d q hq
    rw [List.mem_singleton.mp hr]
    show q.dep + 1 < _
    omega
theorem gB_ok {S : HsD} {us : Rw} {most : Nat} {L : List Came} (h : OnOk S us most L) {q : Came} (hq : q ∈ L) {x : Bt × Rw} (hx : x ∈ bitesF S q.row) : GOk S us most (gB most q.row q.dep (.on L) x) ∧ (∀ L', gB most q.row q.dep (.on L) x = .on L' → ∃ ex, L' = L ++ ex) := by
  unfold gB
  by_cases c : (L.any fun r => decide (r.row = x.2)) = true
  · simp only [c, if_true]
    exact ⟨h, fun L' e => ⟨[], by cases e; rw [List.append_nil]⟩⟩
  · simp only [c]
    have c' : (L.any fun r => decide (r.row = x.2)) = false := by simpa using c
    by_cases c2 : most ≤ L.length
    · simp only [c2, if_true]
      exact ⟨trivial, fun L' e => nomatch e⟩
    · simp only [c2, if_false]
      have hA := h.add (by omega) hq hx c'
      by_cases c3 : (closeF (L ++ [⟨x.2, q.dep + 1, some (q.row, x.1)⟩]) (q.dep + 1) x.2).isSome = true
      · simp only [c3, if_true]
        exact ⟨⟨hA, List.mem_append_right _ (List.mem_singleton.mpr rfl), c3⟩, fun L' e => nomatch e⟩
      · simp only [c3]
        exact ⟨hA, fun L' e => ⟨_, by cases e; rfl⟩⟩
theorem gBs_ok {S : HsD} {us : Rw} {most : Nat} {q : Came} : ∀ (xs : List (Bt × Rw)) {L : List Came}, OnOk S us most L → q ∈ L → (∀ x ∈ xs, x ∈ bitesF S q.row) → GOk S us most (xs.foldl (gB most q.row q.dep) (.on L)) ∧ (∀ L', xs.foldl (gB most q.row q.dep) (.on L) = .on L' → ∃ ex, L' = L ++ ex)
  | [], L, h, _, _ => ⟨h, fun L' e => ⟨[], by cases e; rw [List.append_nil]⟩⟩
  | x :: xs, L, h, hq, hx => by
    rw [List.foldl_cons]
    obtain ⟨h1, h2⟩ := gB_ok h hq (hx x (List.mem_cons_self ..))
    cases e : gB most q.row q.dep (.on L) x with
    | far => rw [gB_far]; exact ⟨trivial, fun L' e => nomatch e⟩
    | round L2 r =>
      rw [gB_round]
      rw [e] at h1
      exact ⟨h1, fun L' e => nomatch e⟩
    | on L2 =>
      rw [e] at h1
      obtain ⟨ex, e2⟩ := h2 L2 e
      obtain ⟨g1, g2⟩ := gBs_ok xs (L := L2) h1 (by rw [e2]; exact List.mem_append_left _ hq) fun y hy => hx y (List.mem_cons_of_mem _ hy)
      refine ⟨g1, fun L' e3 => ?_⟩
      obtain ⟨ex2, e4⟩ := g2 L' e3
      exact ⟨ex ++ ex2, by rw [e4, e2, List.append_assoc]⟩
theorem gF_ok (S : HsD) (us : Rw) {most : Nat} (hm : 1 ≤ most) : ∀ n, GOk S us most (gF S us most n)
  | 0 => ⟨TrOk.one S us, hm, fun r hr => by rw [show r = ⟨us, 0, none⟩ from List.mem_singleton.mp hr]; show 0 < 1; decide⟩
  | n + 1 => by
    have h := gF_ok S us hm n
    rw [gF_succ]
    cases e : gF S us most n with
    | far => trivial
    | round L r => rw [e] at h; exact h
    | on L =>
      rw [e] at h
      show GOk S us most (match L[n]? with | none => GoR.on L | some r => _)
      cases e2 : L[n]? with
      | none => exact h
      | some q => exact (gBs_ok (bitesF S q.row) h (List.mem_of_getElem? e2) fun x hx => hx).1
/-! ### ranks -/
abbrev Rk : Type := List (Rw × Nat)
def lkF (st : Rk) (u : Rw) : Option Nat := (st.find? fun q => decide (q.1 = u)).map (·.2)
def nextsF (S : HsD) (u : Rw) : List Rw := (bitesF S u).map (·.2)
def maxN (l : List Nat) : Nat := l.foldl max 0
theorem maxN_ge : ∀ (l : List Nat) (a : Nat), a ≤ l.foldl max a ∧ ∀ x ∈ l, x ≤ l.foldl max a
  | [], a => ⟨Nat.le_refl _, fun x hx => nomatch hx⟩
  | y :: l, a => by
    obtain ⟨h1, h2⟩ := maxN_ge l (max a y)
    refine ⟨Nat.le_trans (Nat.le_max_left ..) h1, fun x hx => ?_⟩
    rcases List.mem_cons.mp hx with rfl | hx
    · exact Nat.le_trans (Nat.le_max_right ..) h1
    · exact h2 x hx
theorem maxN_in : ∀ (l : List Nat) (a : Nat), l.foldl max a = a ∨ l.foldl max a ∈ l
  | [], a => .inl rfl
  | y :: l, a => by
    rcases maxN_in l (max a y) with h | h
    · rw [List.foldl_cons, h]
      rcases Nat.le_total a y with c | c
      · rw [Nat.max_eq_right c]; exact .inr (List.mem_cons_self ..)
      · rw [Nat.max_eq_left c]; exact .inl rfl
    · exact .inr (List.mem_cons_of_mem _ h)
theorem maxN_is {l : List Nat} {m : Nat} (h1 : m ∈ l) (h2 : ∀ x ∈ l, x ≤ m) : maxN l = m := by
  refine Nat.le_antisymm ?_ ((maxN_ge l 0).2 m h1)
  rcases maxN_in l 0 with h | h
  · show l.foldl max 0 ≤ m
    rw [h]
    exact Nat.zero_le _
  · exact h2 _ h
def rk1 (S : HsD) (st : Rk) (u : Rw) : Rk := if ((lkF st u).isNone && (nextsF S u).all fun v => (lkF st v).isSome) = true then st ++ [(u, maxN ((nextsF S u).map fun v => 1 + (lkF st v).getD 0))] else st
def passF (S : HsD) (rows : List Rw) (st : Rk) : Rk := rows.foldl (rk1 S) st
def itF (S : HsD) (rows : List Rw) : Nat → Rk
  | 0 => []
  | n + 1 => passF S rows (itF S rows n)
theorem rk1_pre (S : HsD) (st : Rk) (u : Rw) : ∃ ex, rk1 S st u = st ++ ex := by
  unfold rk1
  split
  · exact ⟨_, rfl⟩
  · exact ⟨[], (List.append_nil _).symm⟩
theorem passF_pre (S : HsD) : ∀ (rows : List Rw) (st : Rk), ∃ ex, passF S rows st = st ++ ex
  | [], st => ⟨[], (List.append_nil _).symm⟩
  | u :: rows, st => by
    obtain ⟨e1, h1⟩ := rk1_pre S st u
    obtain ⟨e2, h2⟩ := passF_pre S rows (rk1 S st u)
    exact ⟨e1 ++ e2, by show passF S rows (rk1 S st u) = _; rw [h2, h1, List.append_assoc]⟩
structure RkOk (rows : List Rw) (st : Rk) : Prop where
  nd : (st.map (·.1)).Nodup
  sub : ∀ u ∈ st.map (·.1), u ∈ rows
theorem lkF_none {st : Rk} {u : Rw} : (lkF st u).isNone = true ↔ u ∉ st.map (·.1) := by
  unfold lkF
  rw [Option.isNone_map, Option.isNone_iff_eq_none, List.find?_eq_none]
  constructor
  · intro h z
    obtain ⟨q, hq, e⟩ := List.mem_map.mp z
    exact h q hq (decide_eq_true e)
  · intro h q hq z
    exact h (List.mem_map.mpr ⟨q, hq, of_decide_eq_true z⟩)
theorem rk1_ok {S : HsD} {rows : List Rw} {st : Rk} (h : RkOk rows st) {u : Rw} (hu : u ∈ rows) : RkOk rows (rk1 S st u) := by
  unfold rk1
  split
  · rename_i c
    have c1 := lkF_none.mp (Bool.and_eq_true_iff.mp c).1
    refine ⟨?_, fun v hv => ?_⟩
    · rw [List.map_append, List.nodup_append]
      exact ⟨h.nd, List.pairwise_singleton _ _, fun a ha b hb z => by
        rw [List.mem_singleton.mp hb] at z
        have z' : a = u := z
        rw [z'] at ha
        exact c1 ha⟩
    · rw [List.map_append] at hv
      rcases List.mem_append.mp hv with hv | hv
      · exact h.sub v hv
      · rw [List.mem_singleton.mp hv]
        exact hu
  · exact h
theorem passs_ok {S : HsD} {rows : List Rw} : ∀ (us : List Rw) {st : Rk}, (∀ u ∈ us, u ∈ rows) → RkOk rows st → RkOk rows (us.foldl (rk1 S) st)
  | [], _, _, h => h
  | u :: us, st, hu, h => passs_ok us (fun v hv => hu v (List.mem_cons_of_mem _ hv)) (rk1_ok h (hu u (List.mem_cons_self ..)))
theorem pass_ok {S : HsD} {rows : List Rw} {st : Rk} (h : RkOk rows st) : RkOk rows (passF S rows st) := passs_ok rows (fun _ h => h) h
theorem it_ok (S : HsD) (rows : List Rw) : ∀ n, RkOk rows (itF S rows n)
  | 0 => ⟨List.nodup_nil, fun _ h => nomatch h⟩
  | n + 1 => pass_ok (it_ok S rows n)
theorem RkOk.len {rows : List Rw} {st : Rk} (h : RkOk rows st) : st.length ≤ rows.length := by
  have := len_le_of_nodup h.nd h.sub
  rwa [List.length_map] at this
theorem it_still {S : HsD} {rows : List Rw} {n : Nat} (h : passF S rows (itF S rows n) = itF S rows n) : ∀ m, n ≤ m → itF S rows m = itF S rows n
  | 0, hm => by rw [show n = 0 by omega]
  | m + 1, hm => by
    by_cases c : n = m + 1
    · rw [c]
    · show passF S rows (itF S rows m) = _
      rw [it_still h m (by omega), h]
theorem it_grow {S : HsD} {rows : List Rw} : ∀ n, n ≤ (itF S rows n).length ∨ ∃ k, k ≤ n ∧ passF S rows (itF S rows k) = itF S rows k
  | 0 => .inl (Nat.zero_le _)
  | n + 1 => by
    rcases it_grow (S := S) (rows := rows) n with h | ⟨k, h1, h2⟩
    · obtain ⟨ex, e⟩ := passF_pre S rows (itF S rows n)
      cases ex with
      | nil => exact .inr ⟨n, by omega, by rw [e, List.append_nil]⟩
      | cons x ex =>
        left
        show n + 1 ≤ (passF S rows (itF S rows n)).length
        rw [e, List.length_append, List.length_cons]
        omega
    · exact .inr ⟨k, by omega, h2⟩
theorem it_fix (S : HsD) (rows : List Rw) : passF S rows (itF S rows rows.length) = itF S rows rows.length := by
  rcases it_grow (S := S) (rows := rows) rows.length with h | ⟨k, h1, h2⟩
  · obtain ⟨ex, e⟩ := passF_pre S rows (itF S rows rows.length)
    have h3 := (pass_ok (S := S) (it_ok S rows rows.length)).len
    rw [e, List.length_append] at h3
    rw [e, List.length_eq_zero_iff.mp (show ex.length = 0 by omega), List.append_nil]
  · rw [it_still h2 _ h1, h2]
/-- both come to the same ranks -/
theorem it_same {S : HsD} {rows : List Rw} {n : Nat} (h : passF S rows (itF S rows n) = itF S rows n) : itF S rows n = itF S rows rows.length := by
  rcases Nat.le_total n rows.length with c | c
  · rw [it_still h _ c]
  · rw [it_still (it_fix S rows) _ c]
abbrev rksF (S : HsD) (L : List Came) : Rk := itF S (rowsC L) (rowsC L).length
/-- how a row goes on -/
inductive FO where
  | ends (n : Nat)
  | round
  | far
def fateF (S : HsD) (us : Rw) (most : Nat) : FO := match gF S us most most with
  | .far => .far
  | .round _ _ => .round
  | .on L => if (rksF S L).length = L.length then .ends ((lkF (rksF S L) us).getD 0) else .round
end Lw
set_option autoImplicit true
set_option pp.maxSteps 1200
set_option Elab.async false
set_option linter.all false
set_option maxRecDepth 100000
set_option maxHeartbeats 1000000
namespace Lw
open PySem PySem.Spec PyProof.Rows L2 Gk

local macro_rules | `(tactic| walk_at "hp") => `(tactic| first | assumption | exact upd_same | (refine' (upd_ne ?n).trans ?h; (case n => assumption); (case h => walk_at "hp")) | (refine' sm_get ?s ?h; (case s => assumption); (case h => walk_at "hp")))
local macro_rules | `(tactic| walk_at "sq") => `(tactic| first | assumption | (refine' sq_l ?h; (case h => walk_at "hp")) | (refine' sm_l ?s ?h; (case s => assumption); (case h => walk_at "sq")))
local macro_rules | `(tactic| walk_at "st") => `(tactic| first | assumption | (refine' sq_t ?h; (case h => walk_at "hp")) | (refine' sm_t ?s ?h; (case s => assumption); (case h => walk_at "st")))
local macro_rules | `(tactic| walk_at "bg") => `(tactic| first | assumption | (refine' BagOk.sm ?s ?h; (case s => assumption); (case h => walk_at "bg")))
local macro_rules | `(tactic| walk_at "sm") => `(tactic| first | assumption | exact Same.refl _ | (refine' Same.trans ?h ?s; (case s => assumption); (case h => walk_at "sm")))
local macro_rules | `(tactic| walk_at "hs") => `(tactic| first | assumption | (refine' HsAt.sm ?s ?h; (case s => assumption); (case h => walk_at "hs")))
local macro_rules | `(tactic| walk_at "ms") => `(tactic| first | assumption | (refine' MAt.sm ?s ?h; (case s => assumption); (case h => walk_at "ms")))
local macro_rules | `(tactic| walk_at "md") => `(tactic| first | assumption | (refine' MDk.sm ?s ?h; (case s => assumption); (case h => walk_at "md")))
local macro_rules | `(tactic| walk_at "dp") => `(tactic| first | assumption | (refine' dp_sm ?s ?h; (case s => assumption); (case h => walk_at "dp")))
local macro_rules | `(tactic| walk_at "sz") => `(tactic| first | decide | assumption | omega | (simp only [List.length_cons, List.length_nil, List.length_map, List.length_append]; omega))
local macro_rules | `(tactic| walk_at "g1") => `(tactic| first
  | with_reducible refine k_seq ?_
  | with_reducible refine k_itB ?_
  | with_reducible refine k_next ?_
  | with_reducible refine k_asg ?_
  | with_reducible refine k_name ?_
  | with_reducible refine k_ret ?_
  | with_reducible refine k_retN ?_
  | with_reducible refine k_drop ?_
  | with_reducible refine k_ifs ?_
  | with_reducible refine k_brk ?_
  | with_reducible refine k_cont ?_
  | with_reducible refine k_ipI ?_
  | with_reducible refine k_test ?_
  | with_reducible refine k_tB ?_
  | with_reducible refine k_bl ?_
  | with_reducible refine k_not ?_
  | with_reducible refine k_and ?_
  | with_reducible refine k_or ?_
  | with_reducible refine k_yes ?_
  | with_reducible refine k_true ?_
  | with_reducible refine k_false ?_
  | with_reducible refine k_nt ?_
  | with_reducible refine k_c ?_
  | with_reducible refine k_op ?_
  | with_reducible refine k_un ?_
  | with_reducible refine k_if ?_
  | with_reducible refine k_chain ?_
  | with_reducible refine k_nil ?_
  | with_reducible refine k_cons ?_
  | with_reducible refine k_cb ?_
  | with_reducible refine k_call ?_
  | with_reducible refine k_callS ?_
  | with_reducible refine k_andV ?_
  | with_reducible refine k_orV ?_
  | with_reducible refine k_notV ?_
  | with_reducible refine k_lst ?_
  | with_reducible refine k_tup ?_
  | with_reducible refine k_nopart ?_
  | with_reducible refine k_part ?_
  | with_reducible refine k_nInt ?_
  | with_reducible refine k_sl ?_
  | with_reducible refine k_bm ?_
  | with_reducible refine k_bm0 ?_
  | with_reducible refine k_nTyS ?_
  | with_reducible refine k_m1 ?_
  | with_reducible refine k_m0 ?_
  | with_reducible refine k_nStr ?_
  | with_reducible refine k_I0 ?_
  | with_reducible refine k_U ?_
  | with_reducible refine k_add_i ?_
  | with_reducible refine k_eq_i ?_
  | with_reducible refine k_eq_s ?_
  | with_reducible refine k_eq_b ?_
  | with_reducible refine k_ne_i ?_
  | with_reducible refine k_ne_s ?_
  | with_reducible refine k_ne_b ?_
  | with_reducible refine k_le_i ?_
  | with_reducible refine k_le_s ?_
  | with_reducible refine k_gnil ?_
  | with_reducible refine k_gcons ?_
  | with_reducible refine k_gsub ?_
  | with_reducible refine k_for ?_
  | with_reducible refine k_lc ?_
  | with_reducible refine k_rng1 ?_
  | with_reducible refine k_rng2 ?_
  | with_reducible refine k_itl ?_
  | with_reducible refine k_itt ?_
  | with_reducible refine k_its ?_
  | with_reducible refine k_ite ?_
  | with_reducible refine k_iteB ?_
  | with_reducible refine k_lrg2 ?_
  | with_reducible refine k_itz ?_
  | with_reducible refine k_nIts ?_
  | with_reducible refine k_inS ?_
  | with_reducible refine k_niS ?_
  | with_reducible refine k_mk ?_
  | with_reducible refine k_meth ?_
  | with_reducible refine k_fld ?_
  | with_reducible refine k_sfld ?_
  | with_reducible refine k_dg ?_
  | with_reducible refine k_dp ?_
  | with_reducible refine k_pr ?_
  | with_reducible refine k_pr0 ?_
  | with_reducible refine k_sg ?_
  | with_reducible refine k_lc2 ?_
  | with_reducible refine k_callN ?_
  | with_reducible refine k_callNS ?_
  | with_reducible refine k_par ?_
  | with_reducible refine k_nPar ?_
  | with_reducible refine k_isNn ?_
  | with_reducible refine k_isNr ?_
  | with_reducible refine k_ntNn ?_
  | with_reducible refine k_ntNr ?_
  | with_reducible refine k_min2 ?_
  | with_reducible refine k_max2 ?_
  | with_reducible refine k_intB ?_
  | with_reducible refine k_intI ?_
  | with_reducible refine k_isBl ?_
  | with_reducible refine k_ntBl ?_
  | ((with_reducible refine' k_var ?kv ?_); (case kv => exact rfl))
  | ((with_reducible refine' k_aug ?kv ?_); (case kv => exact rfl))
  | ((with_reducible refine' k_ix_l ?ks ?ki ?_); (case ks => walk_at "sq"); (case ki => exact rfl))
  | ((with_reducible refine' k_ix_t ?ks ?ki ?_); (case ks => walk_at "st"); (case ki => exact rfl))
  | ((with_reducible refine' k_len_l ?ks ?_); (case ks => walk_at "sq"))
  | ((with_reducible refine' k_len_t ?ks ?_); (case ks => walk_at "st"))
  | ((with_reducible refine' k_setL ?ks ?ki ?_); (case ks => walk_at "hp"); (case ki => exact rfl))
  | ((with_reducible refine' k_nTyL ?ks ?_); (case ks => walk_at "sq"))
  | ((with_reducible refine' k_nItl ?ks ?_); (case ks => walk_at "sq"))
  | ((with_reducible refine' k_nItt ?ks ?_); (case ks => walk_at "st"))
  | ((with_reducible refine' k_nIte ?ks ?_); (case ks => walk_at "sq"))
  | ((with_reducible refine' k_mul ?km ?_); (case km => first | exact Or.inr ⟨by decide, by decide⟩ | exact Or.inl ⟨by decide, by decide⟩))
  | ((with_reducible refine' k_I ?km ?_); (case km => first | assumption | decide | exact ⟨by decide, by decide +kernel⟩ | exact ⟨by decide, by decide, by decide⟩))
  | ((with_reducible refine' k_nMeth ?kp ?kl ?_); (case kp => walk_at "hp"); (case kl => exact rfl))
  | ((with_reducible refine' k_nFld ?kp ?kc ?kn ?kl ?_); (case kp => walk_at "hp"); (case kc => assumption); (case kn => assumption); (case kl => exact rfl))
  | ((with_reducible refine' k_nSFld ?kp ?kc ?kn ?kl ?_); (case kp => walk_at "hp"); (case kc => assumption); (case kn => assumption); (case kl => exact of_decide_eq_true rfl))
  | ((with_reducible refine' k_nDg ?kp ?kl ?_); (case kp => walk_at "hp"); (case kl => exact rfl))
  | ((with_reducible refine' k_nRng1 ?k1 ?k2 ?_); (case k1 => omega); (case k2 => omega))
  | ((with_reducible refine' k_nKw ?k1 ?k2 ?_); (case k1 => exact rfl); (case k2 => exact rfl))
  | ((with_reducible refine' k_hsm ?kh ?_); (case kh => walk_at "hs"))
  | ((with_reducible refine' k_nMethH ?kh ?kl ?_); (case kh => walk_at "hs"); (case kl => exact fun _ _ => rfl))
  | ((with_reducible refine' k_mLet ?kh ?_); (case kh => walk_at "ms"))
  | ((with_reducible refine' k_mChew ?kh ?_); (case kh => walk_at "ms"))
  | ((with_reducible refine' k_mPut ?kh ?_); (case kh => walk_at "ms"))
  | ((with_reducible refine' k_mMost ?kh ?_); (case kh => walk_at "ms"))
  | ((with_reducible refine' k_mCut ?kh ?_); (case kh => walk_at "ms"))
  | ((with_reducible refine' k_mTab ?kh ?_); (case kh => walk_at "md"))
  | ((with_reducible refine' k_mEats ?kh ?_); (case kh => walk_at "md"))
  | ((with_reducible refine' k_gtup ?ks ?kl ?_); (case ks => walk_at "st"); (case kl => exact rfl)))
local macro_rules | `(tactic| walk_at "g") => `(tactic| repeat (walk_at "g1"))
local macro_rules | `(tactic| walk_at "w1") => `(tactic| first
  | walk_at "g1"
  | ((with_reducible refine' k_decT ?kp ?_); (case kp => omega))
  | ((with_reducible refine' k_decF ?kp ?_); (case kp => omega))
  | ((with_reducible refine' k_decNT ?kp ?_); (case kp => omega))
  | ((with_reducible refine' k_decNF ?kp ?_); (case kp => omega)))
local macro_rules | `(tactic| walk_at "w") => `(tactic| repeat (walk_at "w1"))

local macro_rules | `(tactic| walk_at "g1") => `(tactic| first
  | with_reducible refine k_mkP ?_
  | with_reducible refine k_din ?_
  | with_reducible refine k_dni ?_
  | with_reducible refine k_sortF ?_
  | with_reducible refine k_sortL ?_
  | with_reducible refine k_itk ?_
  | with_reducible refine k_revL ?_)

local macro_rules | `(tactic| walk_at "g1") => `(tactic| first
  | with_reducible refine k_maxD ?_)
--! have hTr : TrC K := ⟨He.cls_ok a_Tree, He.noat_ok t1, He.noat_ok t2, He.noat_ok t3, He.noat_ok t4⟩

section
variable {P : Program} {w : World} {K : PySem.W.Frag} {mg : Str → Option Value} {base : Heap} {f : Addr} {fd : FuncData}
theorem k_bF {b : Bool} {A B : Prop} (e : b = false) (h : B) : nIte b A B := by
  subst e
  exact (if_neg Bool.false_ne_true).mpr h
theorem k_bT {b : Bool} {A B : Prop} (e : b = true) (h : A) : nIte b A B := by
  subst e
  exact (if_pos rfl).mpr h
/-! ### a tree as it stands -/
structure TrC (K : PySem.W.Frag) : Prop where
  c : Cls K (He.ga K "Tree")
  n1 : NoAttr K (He.ga K "Tree") "home"
  n2 : NoAttr K (He.ga K "Tree") "line"
  n3 : NoAttr K (He.ga K "Tree") "above"
  n4 : NoAttr K (He.ga K "Tree") "below"
abbrev BN : Type := Rw × List (Bt × Rw)
def NbAt (K : PySem.W.Frag) (H : Hp) (v : V) (x : Bt × Rw) : Prop := ∃ T tb tm, v = .ref T ∧ SqT K H T [.ref tb, .ref tm] ∧ SqT K H tb [.int (x.1.1 : Nat), .str (sdS x.1.2)] ∧ H tm = some (.tup (tS x.2))
abbrev NbAll (K : PySem.W.Frag) (H : Hp) : List V → List (Bt × Rw) → Prop := Paired (NbAt K H)
theorem nb_sm {H H' : Hp} (s : Same H H') : ∀ {vs : List V} {xs : List (Bt × Rw)}, NbAll K H vs xs → NbAll K H' vs xs
  | _, _, .nil => .nil
  | _, _, .cons ⟨T, tb, tm, e, h1, h2, h3⟩ t => .cons ⟨T, tb, tm, e, sm_t s h1, sm_t s h2, s _ _ h3⟩ (nb_sm s t)
theorem nb_upd {H : Hp} {a : Addr} {o o' : HO} (ha : H a = some o') (n : NoTup o') : ∀ {vs : List V} {xs : List (Bt × Rw)}, NbAll K H vs xs → NbAll K (upd H a o) vs xs
  | _, _, .nil => .nil
  | _, _, .cons ⟨T, tb, tm, e, h1, h2, h3⟩ t => .cons ⟨T, tb, tm, e, sqt_upd ha n h1, sqt_upd ha n h2, tup_upd ha n h3⟩ (nb_upd ha n t)
abbrev KB (K : PySem.W.Frag) (H : Hp) (pl : Addr) : List (List Key × V) → List BN → Prop := Paired fun p q => p.1 = rk q.1 ∧ ∃ pn ws, p.2 = .ref pn ∧ pn ≠ pl ∧ H pn = some (.lst ws) ∧ NbAll K H ws q.2
theorem kb_sm {H H' : Hp} {pl : Addr} (s : Same H H') : ∀ {kb : List (List Key × V)} {B : List BN}, KB K H pl kb B → KB K H' pl kb B
  | _, _, .nil => .nil
  | _, _, .cons ⟨h1, pn, ws, h2, h3, h4, h5⟩ t => .cons ⟨h1, pn, ws, h2, h3, s _ _ h4, nb_sm s h5⟩ (kb_sm s t)
theorem kb_updD {H : Hp} {pl a : Addr} {kvs : List (List Key × V)} {o : HO} (ha : H a = some (.dT kvs)) : ∀ {kb : List (List Key × V)} {B : List BN}, KB K H pl kb B → KB K (upd H a o) pl kb B
  | _, _, .nil => .nil
  | _, _, .cons ⟨h1, pn, ws, h2, h3, h4, h5⟩ t => .cons ⟨h1, pn, ws, h2, h3, by rw [upd_ne (ne_of h4 ha (fun z => nomatch z))]; exact h4, nb_upd ha (noTup_dT _) h5⟩ (kb_updD ha t)
theorem kb_updL {H : Hp} {pl : Addr} {xs : List V} {o : HO} (ha : H pl = some (.lst xs)) : ∀ {kb : List (List Key × V)} {B : List BN}, KB K H pl kb B → KB K (upd H pl o) pl kb B
  | _, _, .nil => .nil
  | _, _, .cons ⟨h1, pn, ws, h2, h3, h4, h5⟩ t => .cons ⟨h1, pn, ws, h2, h3, by rw [upd_ne h3]; exact h4, nb_upd ha (noTup_lst _) h5⟩ (kb_updL ha t)
theorem kb_app {H : Hp} {pl : Addr} {p : List Key × V} {q : BN} (h : p.1 = rk q.1 ∧ ∃ pn ws, p.2 = .ref pn ∧ pn ≠ pl ∧ H pn = some (.lst ws) ∧ NbAll K H ws q.2) : ∀ {kb : List (List Key × V)} {B : List BN}, KB K H pl kb B → KB K H pl (kb ++ [p]) (B ++ [q])
  | _, _, .nil => .cons h .nil
  | _, _, .cons g t => .cons g (kb_app h t)
theorem kb_len {H : Hp} {pl : Addr} : ∀ {kb : List (List Key × V)} {B : List BN}, KB K H pl kb B → kb.length = B.length
  | _, _, .nil => rfl
  | _, _, .cons _ t => by rw [List.length_cons, List.length_cons, kb_len t]
theorem kb_none {H : Hp} {pl : Addr} {u : Rw} : ∀ {kb : List (List Key × V)} {B : List BN}, KB K H pl kb B → u ∉ B.map (·.1) → valV kb (rk u) = none
  | _, _, .nil, _ => rfl
  | _, _, .cons ⟨h1, _⟩ t, hn => by
    rw [valV_neg (fun z => hn (by
      have := rk_inj (h1 ▸ z)
      rw [List.map_cons, ← this]
      exact List.mem_cons_self ..))]
    exact kb_none t fun z => hn (List.mem_cons_of_mem _ z)
theorem kb_val {H : Hp} {pl : Addr} : ∀ {kb : List (List Key × V)} {B : List BN} {u : Rw}, KB K H pl kb B → u ∈ B.map (·.1) → ∃ pn ws xs, (u, xs) ∈ B ∧ valV kb (rk u) = some (.ref pn) ∧ pn ≠ pl ∧ H pn = some (.lst ws) ∧ NbAll K H ws xs
  | _, _, _, .nil, h => nomatch h
  | p :: kb, q :: B, u, .cons ⟨h1, pn, ws, h2, h3, h4, h5⟩ t, h => by
    by_cases c : q.1 = u
    · exact ⟨pn, ws, q.2, by rw [← c]; exact List.mem_cons_self .., by rw [valV_pos (by rw [h1, c]), h2], h3, h4, h5⟩
    · obtain ⟨pn', ws', xs', g1, g2, g3, g4, g5⟩ := kb_val t ((List.mem_cons.mp h).resolve_left fun z => c z.symm)
      exact ⟨pn', ws', xs', List.mem_cons_of_mem _ g1, by rw [valV_neg (fun z => c (rk_inj (h1 ▸ z)))]; exact g2, g3, g4, g5⟩
structure TrX (K : PySem.W.Frag) (H0 H : Hp) (t dx ah pl pa pb : Addr) (S : HsD) (L : List Came) (B : List BN) : Prop where
  g : H t = some (.ins (He.ga K "Tree") dx [("home", .ref ah), ("line", .ref pl), ("above", .ref pa), ("below", .ref pb)])
  hs : HsAt K H0 ah S
  l : ∃ es, H pl = some (.lst (es.map V.ref)) ∧ KE_ H es (rowsC L)
  a : ∃ kc, H pa = some (.dT kc) ∧ KC K H kc L
  b : ∃ kb, H pb = some (.dT kb) ∧ KB K H pl kb B
  zl : H0 pl = none
  za : H0 pa = none
  zb : H0 pb = none
  zt : H0 t = none
  ne : pa ≠ pb
  s : Same H0 H
section
variable {H0 H H' : Hp} {t dx ah pl pa pb : Addr} {S : HsD} {L : List Came} {B : List BN}
theorem TrX.sm (s : Same H H') (h : TrX K H0 H t dx ah pl pa pb S L B) : TrX K H0 H' t dx ah pl pa pb S L B := by
  obtain ⟨es, l1, l2⟩ := h.l
  obtain ⟨kc, a1, a2⟩ := h.a
  obtain ⟨kb, b1, b2⟩ := h.b
  exact ⟨s _ _ h.g, h.hs, ⟨es, s _ _ l1, ke_sm s l2⟩, ⟨kc, s _ _ a1, kc_sm s a2⟩, ⟨kb, s _ _ b1, kb_sm s b2⟩, h.zl, h.za, h.zb, h.zt, h.ne, h.s.trans s⟩
theorem TrX.add {es : List Addr} {kc : List (List Key × V)} {u : Addr} {v : V} {q : Came} (h : TrX K H0 H t dx ah pl pa pb S L B) (hl : H pl = some (.lst (es.map V.ref))) (hE : KE_ H es (rowsC L)) (ha : H pa = some (.dT kc)) (hA : KC K H kc L) (hu : H u = some (.tup (tS q.row))) (hv : FromAt K H v q.from_) :
    TrX K H0 (upd (upd H pa (.dT (kc ++ [(rk q.row, v)]))) pl (.lst (es.map V.ref ++ [.ref u]))) t dx ah pl pa pb S (L ++ [q]) B := by
  obtain ⟨kb, b1, b2⟩ := h.b
  have n1 : pl ≠ pa := ne_of hl ha (fun z => nomatch z)
  have hl1 : (upd H pa (.dT (kc ++ [(rk q.row, v)]))) pl = some (.lst (es.map V.ref)) := by rw [upd_ne n1]; exact hl
  refine ⟨?_, h.hs, ⟨es ++ [u], ?_, ?_⟩, ⟨kc ++ [(rk q.row, v)], ?_, ?_⟩, ⟨kb, ?_, kb_updL hl1 (kb_updD ha b2)⟩, h.zl, h.za, h.zb, h.zt, h.ne, sm_mut (sm_mut h.s h.za) h.zl⟩
  · rw [upd_ne (ne_of h.g hl (fun z => nomatch z)), upd_ne (ne_of h.g ha (fun z => nomatch z))]
    exact h.g
  · rw [upd_same, List.map_append]
    rfl
  · rw [rowsC, List.map_append]
    exact ke_upd hl1 (noTup_lst _) (ke_upd ha (noTup_dT _) (ke_app hu hE))
  · rw [upd_ne n1.symm, upd_same]
  · exact kc_upd hl1 (noTup_lst _) (kc_upd ha (noTup_dT _) (kc_app ⟨rfl, hv⟩ hA))
  · rw [upd_ne (ne_of b1 hl (fun z => nomatch z)), upd_ne h.ne.symm]
    exact b1
theorem TrX.nx {kb : List (List Key × V)} {u : Rw} {pn : Addr} {ws : List V} {xs : List (Bt × Rw)} (h : TrX K H0 H t dx ah pl pa pb S L B) (hb : H pb = some (.dT kb)) (hB : KB K H pl kb B) (np : pn ≠ pl) (hp : H pn = some (.lst ws)) (hn : NbAll K H ws xs) :
    TrX K H0 (upd H pb (.dT (kb ++ [(rk u, .ref pn)]))) t dx ah pl pa pb S L (B ++ [(u, xs)]) := by
  obtain ⟨es, l1, l2⟩ := h.l
  obtain ⟨kc, a1, a2⟩ := h.a
  refine ⟨?_, h.hs, ⟨es, ?_, ke_upd hb (noTup_dT _) l2⟩, ⟨kc, ?_, kc_upd hb (noTup_dT _) a2⟩, ⟨kb ++ [(rk u, .ref pn)], upd_same, ?_⟩, h.zl, h.za, h.zb, h.zt, h.ne, sm_mut h.s h.zb⟩
  · rw [upd_ne (ne_of h.g hb (fun z => nomatch z))]
    exact h.g
  · rw [upd_ne (ne_of l1 hb (fun z => nomatch z))]
    exact l1
  · rw [upd_ne h.ne]
    exact a1
  · exact kb_app ⟨rfl, pn, ws, rfl, np, by rw [upd_ne (ne_of hp hb (fun z => nomatch z))]; exact hp, nb_upd hb (noTup_dT _) hn⟩ (kb_updD hb hB)
end
theorem eqv_rowsT (us vs : Rw) : PyData.eqv (.tuple (us.map fun u => PyData.str (tx u))) (.tuple (vs.map fun u => PyData.str (tx u))) = decide (us = vs) := by
  rw [← eqv_rows]
  simp only [PyData.eqv]
theorem good_allWT {S : HsD} (ok : HsOk S) {us : Rw} (h : AllW S us) (hl : us.length ≤ 50000) (j : Nat) : Good (j + 2) (.tuple (us.map fun u => PyData.str (tx u))) := good_allW ok h hl j
theorem k_ntNi {H : Hp} {Q : VK} {i : Int} (h : Q (.bl true) H) : rNotN (.int i) .non H Q := ⟨rfl, h⟩
/-! ### where a row stands within another -/
def spPlace (K : PySem.W.Frag) : Sp := fun vs H Q _ => ∃ (a b : Addr) (S : HsD) (p u : Rw), vs = [.ref a, .ref b] ∧ HsOk S ∧ SqT K H a (tS p) ∧ SqT K H b (tS u) ∧ AllW S p ∧ AllW S u ∧ p.length ≤ 10000 ∧ u.length ≤ 10000 ∧
  (∀ i, placeF p u = some i → ∀ H', Same H H' → Q (.int (i : Nat)) H') ∧ (placeF p u = none → ∀ H', Same H H' → Q .non H')
theorem find_range {n : Nat} {f : Nat → Bool} {i : Nat} (h : i < n) (hf : f i = true) (hb : ∀ j, j < i → f j = false) : (List.range n).find? f = some i := by
  rw [List.find?_eq_some_iff_append]
  refine ⟨hf, List.range i, (List.range (n - i - 1)).map (fun k => i + 1 + k), ?_, fun j hj => by rw [hb j (List.mem_range.mp hj)]; rfl⟩
  have e : n = i + (1 + (n - i - 1)) := by omega
  conv => lhs; rw [e]
  rw [List.range_add, List.range_add]
  simp [Nat.add_assoc]
theorem ok_place_within (F : FnP K "place_within" s_place_within f fd) (hm : mg "place_within" = some (.ref f)) (f_range : mg "range" = none) (f_len : mg "len" = none) : Callee P w K mg base CX0 "place_within" 1 [] (spPlace K) := by
  refine ⟨f, fd, _, [], F.ok sc_place_within (fun vs H Q E h => ?hl) (fun cdv A outer s H vs Q E hr h => ⟨_, PSs.nox (pss_cons (ps_for PassesOwn.never rfl (pi_range1 (by rfl) f_range (pa_cons (pe_op (op_addK K) (pe_op op_sub (pe_callB (call_lenK K) (by rfl) f_len PySem.boot_len (pa_cons (pv 1) pa_nil)) (pe_callB (call_lenK K) (by rfl) f_len PySem.boot_len (pa_cons (pv 0) pa_nil))) pe_int) pa_nil)) (pg_name (i := 2) sc_place_within.nd rfl (by first | exact Or.inl rfl | exact Or.inr rfl)) (pss_one (ps_if (pt_cmpR (op_eqK K hr.units) (pe_slice (sl_k K) (pv 1) (po_some (pv 2)) (po_some (pe_op (op_addK K) (pv 2) (pe_callB (call_lenK K) (by rfl) f_len PySem.boot_len (pa_cons (pv 0) pa_nil))))) (pv 0) (nomark _)) (pss_one (ps_ret (pv 2))) pss_nil)))
      (pss_one (ps_ret pe_non))), ?rd⟩), hm, F.kp, F.bindsN fun _ _ _ _ _ _ us hl => match us, hl with | [_, _], _ => rfl, .nil⟩
  case hl =>
    obtain ⟨a, b, S, p, u, rfl, _⟩ := h
    rfl
  case rd =>
    obtain ⟨a, b, S, p, u, rfl, ok, ha, hb, hp, hu, lp, lu, q1, q2⟩ := h
    refine k_start (σ' := [some _, some _, none]) rfl ?_
    have l1 := len_tS p
    have l2 := len_tS u
    walk_at "g"
    rw [l1, l2]
    walk_at "g"
    have cnt : ((u.length : Int) - (p.length : Int) + 1).toNat = u.length + 1 - p.length := by omega
    rw [cnt]
    refine k_nFor walk_range (fun i σ H' => (∃ y, σ = [some (.ref a), some (.ref b), y]) ∧ Same H H' ∧ ∀ j, j < i → decide ((u.drop j).take p.length = p) = false) ⟨⟨_, rfl⟩, Same.refl _, fun j hj => absurd hj (Nat.not_lt_zero j)⟩ (fun _ _ _ _ _ => trivial) (fun i x σ Ha Hb hi h hy => ?ht) (fun σ H' h => ?he)
    case he =>
      obtain ⟨⟨y, rfl⟩, sa, hno⟩ := h
      walk_at "g"
      refine q2 ?_ _ sa
      unfold placeF
      rw [List.find?_eq_none]
      intro i hi
      rw [hno i (List.mem_range.mp hi)]
      exact Bool.false_ne_true
    case ht =>
      obtain ⟨⟨y, rfl⟩, sa, hno⟩ := h
      obtain ⟨rfl, rfl⟩ := y_rng hy
      have ha' := sm_t sa ha
      have hb' := sm_t sa hb
      walk_at "g"
      rw [l1]
      walk_at "g"
      refine k_sl_t hb' (fun pc H2 s2 e2 => ?_)
      rw [cutV_mid _ _ _ (by omega) (by omega), Int.toNat_natCast, show ((i : Int) + (p.length : Int)).toNat - i = p.length by omega, show ((tS u).drop i).take p.length = tS ((u.drop i).take p.length) by unfold tS; rw [← List.map_drop, ← List.map_take]] at e2
      have hw : AllW S ((u.drop i).take p.length) := fun v hv => hu v (List.mem_of_mem_drop (List.mem_of_mem_take hv))
      walk_at "g"
      refine k_eq_d (.tup e2 (dp_tS _)) (.tup (sm_t s2 ha') (dp_tS _)) ((good_allWT ok hw (by rw [List.length_take]; omega) 0).shaped (by decide)) ((good_allWT ok hp (by omega) 0).shaped (by decide)) ?_
      rw [eqv_rowsT]
      walk_at "g"
      refine k_dec (fun d => ?_) (fun d => ?_)
      · walk_at "g"
        refine q1 i ?_ _ (sa.trans s2)
        exact find_range hi (decide_eq_true d) hno
      · walk_at "g"
        refine ⟨⟨_, rfl⟩, sa.trans s2, fun j hj => ?_⟩
        rcases Nat.lt_or_ge j i with c | c
        · exact hno j c
        · rw [show j = i by omega]
          exact decide_eq_false d
/-! ### a tree made -/
def spTrI (K : PySem.W.Frag) : Sp := fun vs H Q _ => ∃ (H0 : Hp) (S : HsD) (t dx ah r : Addr) (us : Rw), vs = [.ref t, .ref ah, .ref r] ∧ HsAt K H0 ah S ∧ H0 r = some (.tup (tS us)) ∧ us.length ≤ 5000 ∧ Same H0 H ∧ H0 t = none ∧ H t = some (.ins (He.ga K "Tree") dx []) ∧
  ∀ pl pa pb H', TrX K H0 H' t dx ah pl pa pb S [⟨us, 0, none⟩] [] → Q .non H'
theorem ok_Tree_init {f : Addr} (F : FunD K "__init__" "Tree.__init__" (defArgs s_Tree_init) (defBody s_Tree_init) (defScope s_Tree_init) [] [] f fd) (hTr : TrC K) : FnOk P w K mg base CX0 1 f fd ["self", "house", "row"] (spTrI K) := by
  refine F.ok sc_Tree_init (fun vs H Q E h => ?hl) (fun cdv A outer s H vs Q E hr h => ⟨_, PSs.nox (pss_cons (ps_fld (pv 0) (pv 1) rfl)
      (pss_cons (ps_fld (pv 0) (pe_lst (pa_cons (pv 2) pa_nil)) rfl)
      (pss_cons (ps_fld (pv 0) (pe_disp1T hr.units (pv 2) (pe_tup (pa_cons pe_non (pa_cons pe_non pa_nil)))) rfl)
      (pss_one (ps_fld (pv 0) pe_dnewT rfl))))), ?rd⟩)
  case hl =>
    obtain ⟨H0, S, t, dx, ah, r, us, rfl, _⟩ := h
    rfl
  case rd =>
    obtain ⟨H0, S, t, dx, ah, r, us, rfl, hs, hx, lu, s0, ft, et, q⟩ := h
    obtain ⟨hc, n1, n2, n3, n4⟩ := hTr
    refine k_start (σ' := [some _, some _, some _]) rfl ?_
    walk_at "g"
    have e1g : (upd H t (.ins (He.ga K "Tree") dx (putF "home" (.ref ah) []))) t = some (.ins (He.ga K "Tree") dx [("home", .ref ah)]) := upd_same
    have s1 : Same H0 (upd H t (.ins (He.ga K "Tree") dx (putF "home" (.ref ah) []))) := sm_mut s0 ft
    generalize upd H t (.ins (He.ga K "Tree") dx (putF "home" (.ref ah) [])) = H1 at e1g s1 ⊢
    walk_at "g"
    refine k_nLst (by walk_at "sz") (fun pl H2 m2 s2 e2 => ?_)
    have e2g := s2 _ _ e1g
    walk_at "g"
    have zl : H0 pl = none := s1.free m2
    have e4g : (upd H2 t (.ins (He.ga K "Tree") dx (putF "line" (.ref pl) [("home", .ref ah)]))) t = some (.ins (He.ga K "Tree") dx [("home", .ref ah), ("line", .ref pl)]) := upd_same
    have s4 : Same H0 (upd H2 t (.ins (He.ga K "Tree") dx (putF "line" (.ref pl) [("home", .ref ah)]))) := sm_mut (s1.trans s2) ft
    have e4l : (upd H2 t (.ins (He.ga K "Tree") dx (putF "line" (.ref pl) [("home", .ref ah)]))) pl = some (.lst [.ref r]) := by
      rw [upd_ne (ne_of e2 e2g (fun z => nomatch z))]
      exact e2
    generalize upd H2 t (.ins (He.ga K "Tree") dx (putF "line" (.ref pl) [("home", .ref ah)])) = H4 at e4g s4 e4l ⊢
    refine k_disp1T (fun pa H5 m5 s5 e5 => ?_)
    walk_at "g"
    refine k_nTup (by walk_at "sz") (fun t3 H7 m7 s7 e7 => ?_)
    have za : H0 pa = none := s4.free m5
    have e7c := s7 _ _ e5
    have hr7 := (s4.trans (s5.trans s7)) _ _ hx
    refine ⟨e7c, r, rk us, rfl, by rw [rk_kV]; exact hr7, ?_⟩
    have s8 : Same H4 (upd H7 pa (.dT [(rk us, .ref t3)])) := sm_mut (s5.trans s7) m5
    have e8c : (upd H7 pa (.dT [(rk us, .ref t3)])) pa = some (.dT [(rk us, .ref t3)]) := upd_same
    have e8t : (upd H7 pa (.dT [(rk us, .ref t3)])) t3 = some (.tup [.non, .non]) := by rw [upd_ne (ne_of e7 e7c (fun z => nomatch z))]; exact e7
    generalize upd H7 pa (.dT [(rk us, .ref t3)]) = H8 at s8 e8c e8t ⊢
    have e8g := s8 _ _ e4g
    have e8l := s8 _ _ e4l
    walk_at "g"
    have e9g : (upd H8 t (.ins (He.ga K "Tree") dx (putF "above" (.ref pa) [("home", .ref ah), ("line", .ref pl)]))) t = some (.ins (He.ga K "Tree") dx [("home", .ref ah), ("line", .ref pl), ("above", .ref pa)]) := upd_same
    have s9 : Same H0 (upd H8 t (.ins (He.ga K "Tree") dx (putF "above" (.ref pa) [("home", .ref ah), ("line", .ref pl)]))) := sm_mut (s4.trans s8) ft
    have ne9 : ∀ {b : Addr} {o : HO}, H8 b = some o → (∀ C d fs, o ≠ .ins C d fs) → (upd H8 t (.ins (He.ga K "Tree") dx (putF "above" (.ref pa) [("home", .ref ah), ("line", .ref pl)]))) b = some o := fun {b o} hb ho => by
      rw [upd_ne (ne_of hb e8g (fun z => ho _ _ _ z))]
      exact hb
    have e9l := ne9 e8l (fun _ _ _ z => nomatch z)
    have e9c := ne9 e8c (fun _ _ _ z => nomatch z)
    have e9t := ne9 e8t (fun _ _ _ z => nomatch z)
    generalize upd H8 t (.ins (He.ga K "Tree") dx (putF "above" (.ref pa) [("home", .ref ah), ("line", .ref pl)])) = H9 at e9g s9 e9l e9c e9t ⊢
    refine k_dnewT (fun pb H10 m10 s10 e10 => ?_)
    have e10g := s10 _ _ e9g
    walk_at "g"
    have zb : H0 pb = none := s9.free m10
    have ne11 : ∀ {b : Addr} {o : HO}, H10 b = some o → (∀ C d fs, o ≠ .ins C d fs) → (upd H10 t (.ins (He.ga K "Tree") dx (putF "below" (.ref pb) [("home", .ref ah), ("line", .ref pl), ("above", .ref pa)]))) b = some o := fun {b o} hb ho => by
      rw [upd_ne (ne_of hb e10g (fun z => ho _ _ _ z))]
      exact hb
    have s11 : Same H0 (upd H10 t (.ins (He.ga K "Tree") dx (putF "below" (.ref pb) [("home", .ref ah), ("line", .ref pl), ("above", .ref pa)]))) := sm_mut (s9.trans s10) ft
    exact q pl pa pb _ ⟨upd_same, hs, ⟨[r], ne11 (s10 _ _ e9l) (fun _ _ _ z => nomatch z), .cons (s11 _ _ hx) .nil⟩, ⟨_, ne11 (s10 _ _ e9c) (fun _ _ _ z => nomatch z), .cons ⟨rfl, t3, rfl, sq_t (ne11 (s10 _ _ e9t) (fun _ _ _ z => nomatch z))⟩ .nil⟩, ⟨[], ne11 e10 (fun _ _ _ z => nomatch z), .nil⟩, zl, za, zb, ft, (fun z => by rw [z] at e9c; rw [e9c] at m10; cases m10), s11⟩
theorem Tree_made (F : FunD K "__init__" "Tree.__init__" (defArgs s_Tree_init) (defBody s_Tree_init) (defScope s_Tree_init) [] [] (He.ma K (He.ga K "Tree") "__init__") fd) (gC : mg "Tree" = some (.ref (He.ga K "Tree"))) (mk0 : Mk K (He.ga K "Tree") (He.ma K (He.ga K "Tree") "__init__"))
    (ok : FnOk P w K mg base CX0 1 (He.ma K (He.ga K "Tree") "__init__") fd ["self", "house", "row"] (spTrI K)) : OwnP P w K mg base CX0 "Tree" 1 (spTrI K) :=
  ⟨gC, mk0, fd, _, ok, F.bindsN fun _ _ _ _ _ _ us hl => match us, hl with | [_, _, _], _ => rfl⟩
--! have c_Tree := Tree_made $F(Tree.__init__) g_Tree (He.mkr_ok t_mk) c_Tree_init
/-! ### the way from a row above -/
def spTWay (K : PySem.W.Frag) : Sp := fun vs H Q _ => ∃ (H0 : Hp) (t dx ah pl pa pb a b : Addr) (S : HsD) (us : Rw) (most : Nat) (L : List Came) (B : List BN) (r : Came) (top : Rw), vs = [.ref t, .ref a, .ref b] ∧ TrX K H0 H t dx ah pl pa pb S L B ∧ HsOk S ∧ OnOk S us most L ∧ most ≤ 400 ∧ AllW S us ∧ us.length ≤ 100 ∧ r ∈ L ∧ H a = some (.tup (tS r.row)) ∧ H b = some (.tup (tS top)) ∧ top ∈ r.row :: ancF L r.dep r.row ∧
  ∀ p ws H', H p = none → Same H H' → H' p = some (.lst ws) → DpAll K H' ws ((wayT L r.dep r.row top).map dBt) → Q (.ref p) H'
theorem OnOk.rows {S : HsD} (ok : HsOk S) {us : Rw} {most : Nat} {L : List Came} (h : OnOk S us most L) (hm : most ≤ 400) (hw : AllW S us) (lu : us.length ≤ 100) : ∀ r ∈ L, AllW S r.row ∧ r.row.length ≤ 3300 ∧ r.dep < 400 := fun r hr => by
  obtain ⟨w1, w2⟩ := h.t.words ok hw r.dep r hr rfl
  have := h.d r hr
  have := h.l
  exact ⟨w1, by omega, by omega⟩
theorem ok_Tree_way (F : FnM K "way" "Tree.way" s_Tree_way (He.ma K (He.ga K "Tree") "way") fd) (hTr : TrC K) (me : Meth K (He.ga K "Tree") "way" (He.ma K (He.ga K "Tree") "way")) : CalleeM P w K mg base CX0 "Tree" "way" 1 (spTWay K) := by
  refine ⟨hTr.c, me, fd, ["self", "row", "top"], F.ok sc_Tree_way (fun vs H Q E h => ?hl) (fun cdv A outer s H vs Q E hr h => ⟨_, PSs.nox (pss_cons (ps_set (i := 3) sc_Tree_way.nd rfl (by first | exact Or.inl rfl | exact Or.inr rfl) (pe_lst pa_nil))
      (pss_cons (ps_set (i := 4) sc_Tree_way.nd rfl (by first | exact Or.inl rfl | exact Or.inr rfl) (pv 1))
      (pss_cons (ps_while PassesOwn.never (pt_cmpR (op_neK K hr.units) (pv 4) (pv 2) (nomark _)) (pss_cons (ps_asg (pe_dget (hu_of hr) (pe_fldK K (pv 0) rfl) (pv 4) (fun _ _ => rfl)) (pg_tupK K 2 (by rfl) (pgs_cons (pg_name (i := 4) sc_Tree_way.nd rfl (by first | exact Or.inl rfl | exact Or.inr rfl)) (pgs_cons (pg_name (i := 5) sc_Tree_way.nd rfl (by first | exact Or.inl rfl | exact Or.inr rfl)) pgs_nil))))
      (pss_one (ps_expr (pe_bmK K PySem.F.plainAttrs_list PySem.F.slot_list_append PySem.F.type_list_append mt_append (pv 3) (pa_cons (pv 5) pa_nil))))))
      (pss_one (ps_ret (pe_revLK K (pv 3))))))), ?rd⟩), F.bindsN fun _ _ _ _ _ _ us hl => match us, hl with | [_, _, _], _ => rfl⟩
  case hl =>
    obtain ⟨H0, t, dx, ah, pl, pa, pb, a, b, S, us, most, L, B, r, top, rfl, _⟩ := h
    rfl
  case rd =>
    obtain ⟨H0, t, dx, ah, pl, pa, pb, a, b, S, us, most, L, B, r, top, rfl, hX, ok, hL, hm, hw, lu, hr0, ha, hb, htop, q⟩ := h
    have hrows := hL.rows ok hm hw lu
    have htw : AllW S top ∧ top.length ≤ 3300 := by
      obtain ⟨⟨q', h1, h2, _⟩, _⟩ := hL.t.anc r.dep r hr0 rfl top htop
      rw [← h2]
      exact ⟨(hrows q' h1).1, (hrows q' h1).2.1⟩
    obtain ⟨hc, n1, n2, n3, n4⟩ := hTr
    refine k_start (σ' := [some _, some _, some _, none, none, none]) rfl ?_
    walk_at "g"
    refine k_nLst (by walk_at "sz") (fun pf H1 n1' s1 e1 => ?_)
    walk_at "g"
    refine k_while (fun μ σ H' => ∃ (tt : Addr) (rr : Came) (bs : List Bt) (y5 : Option V) (ws : List V), σ = [some (.ref t), some (.ref a), some (.ref b), some (.ref pf), some (.ref tt), y5] ∧ Same H H' ∧ H' tt = some (.tup (tS rr.row)) ∧ rr ∈ L ∧ rr.dep + bs.length = r.dep ∧ top ∈ rr.row :: ancF L rr.dep rr.row ∧ wayT L r.dep r.row top = wayT L rr.dep rr.row top ++ bs.reverse ∧ H' pf = some (.lst ws) ∧ DpAll K H' ws (bs.map dBt) ∧ μ = rr.dep) ⟨_, a, r, [], _, [], rfl, s1, s1 _ _ ha, hr0, rfl, htop, (List.append_nil _).symm, e1, .nil, rfl⟩ (fun μ σ H' h => ?hw)
    obtain ⟨tt, rr, bs, y5, ws, rfl, ss, ett, hrm, hdd, htp, hway, ep, dws, rfl⟩ := h
    obtain ⟨w1, w2, w3⟩ := hrows rr hrm
    have hrd := (hrows r hr0).2.2
    have hX' := hX.sm ss
    obtain ⟨kc, a1, a2⟩ := hX'.a
    have eg := hX'.g
    have nt : ws.length = bs.length := by have := dpall_len dws; rwa [List.length_map] at this
    walk_at "g"
    refine k_ne_d (.tup (sq_t ett) (dp_tS _)) (.tup (sq_t (ss _ _ hb)) (dp_tS _)) ((good_allWT ok w1 (by omega) 0).shaped (by decide)) ((good_allWT ok htw.1 (by omega) 0).shaped (by decide)) ?_
    rw [eqv_rowsT]
    walk_at "g"
    refine k_turnN (fun hne => k_turnT ?_) (fun he => k_turnF ?_)
    · obtain ⟨n, hn⟩ : ∃ n, rr.dep = n + 1 := by
        cases e : rr.dep with
        | zero =>
          rw [e] at htp
          rcases List.mem_cons.mp htp with z | z
          · exact absurd z.symm hne
          · cases z
        | succ n => exact ⟨n, rfl⟩
      obtain ⟨qq, hq, b', dq, hbb, hfr, hco⟩ := hL.t.up hrm hn
      obtain ⟨v, hv, hfv⟩ := kc_came a2 hco
      obtain ⟨T, Tp, Tb, rfl, hT, hTp, hTb⟩ := hfv
      walk_at "g"
      refine k_nDgT a1 (k := rk rr.row) (by rw [rk_kV]; exact ett) hv ?_
      walk_at "g"
      refine k_append ep (by omega) ?_
      walk_at "g"
      rw [hn] at htp hway
      rw [ancF_some hco] at htp
      rw [wayT_some hco hne] at hway
      refine ⟨qq.dep, by omega, Tp, qq, bs ++ [b'], _, ws ++ [.ref Tb], rfl, sm_mut ss n1', ?_, hq, ?_, ?_, ?_, upd_same, ?_, rfl⟩
      · rw [upd_ne (ne_of hTp ep (fun z => nomatch z))]
        exact hTp
      · rw [List.length_append, List.length_singleton]
        omega
      · rw [dq]
        exact (List.mem_cons.mp htp).resolve_left fun z => hne z.symm
      · rw [hway, dq, List.reverse_append, List.append_assoc]
        rfl
      · rw [List.map_append]
        exact dpall_app (bts_upd ep (noTup_lst _) dws) (.tup (sqt_upd ep (noTup_lst _) hTb) (.cons (.int _) (.cons (.str _) .nil)))
    · walk_at "g"
      rw [he, wayT_self, List.nil_append] at hway
      rw [hway] at q
      refine ⟨pf, ws, rfl, sq_l ep, fun p2 np2 => ?_⟩
      have sn : Same H' (upd H' p2 (.lst ws.reverse)) := sm_new np2
      refine q p2 ws.reverse _ (ss.free np2) (ss.trans sn) upd_same ?_
      rw [List.map_reverse]
      exact dpall_rev (dpall_sm sn dws)
/-! ### a round as it is told -/
def RndAt (K : PySem.W.Frag) (H H' : Hp) (v : V) (S : HsD) (us : Rw) (N : Nat) : Prop := ∃ (T p1 p2 p3 p4 : Addr) (ws1 ws2 : List V) (bs1 bs2 : List Bt) (R a c : Rw), v = .ref T ∧ SqT K H' T [.str (Str.ofString "round"), .ref p1, .ref p2, .ref p3, .ref p4] ∧
  (H' p1 = some (.lst ws1) ∧ DpAll K H' ws1 (bs1.map dBt)) ∧ (H' p2 = some (.lst ws2) ∧ DpAll K H' ws2 (bs2.map dBt)) ∧ H' p3 = some (.lst (tS a)) ∧ H' p4 = some (.lst (tS c)) ∧ (H p1 = none ∧ H p2 = none ∧ H p3 = none ∧ H p4 = none) ∧ (p2 ≠ p1 ∧ p3 ≠ p1 ∧ p4 ≠ p1 ∧ p3 ≠ p2 ∧ p4 ≠ p2 ∧ p4 ≠ p3) ∧
  walkF S us bs1 = some R ∧ walkF S R bs2 = some (a ++ R ++ c) ∧ bs2 ≠ [] ∧ bs1.length ≤ N ∧ bs2.length ≤ N
theorem RndAt.from0 {H H1 H' : Hp} {v : V} {S : HsD} {us : Rw} {N : Nat} (s : Same H H1) (h : RndAt K H1 H' v S us N) : RndAt K H H' v S us N := by
  obtain ⟨T, p1, p2, p3, p4, ws1, ws2, bs1, bs2, R, a, c, e, h1, h2, h3, h4, h5, ⟨z1, z2, z3, z4⟩, h7⟩ := h
  exact ⟨T, p1, p2, p3, p4, ws1, ws2, bs1, bs2, R, a, c, e, h1, h2, h3, h4, h5, ⟨s.free z1, s.free z2, s.free z3, s.free z4⟩, h7⟩
def spRoundAt (K : PySem.W.Frag) : Sp := fun vs H Q _ => ∃ (H0 : Hp) (t dx ah pl pa pb a : Addr) (S : HsD) (us : Rw) (most : Nat) (L : List Came) (B : List BN) (r : Came), vs = [.ref t, .ref a] ∧ TrX K H0 H t dx ah pl pa pb S L B ∧ HsOk S ∧ OnOk S us most L ∧ most ≤ 400 ∧ AllW S us ∧ us.length ≤ 100 ∧ r ∈ L ∧ H a = some (.tup (tS r.row)) ∧
  (closeF L r.dep r.row = none → ∀ H', Same H H' → Q .non H') ∧ (∀ p, closeF L r.dep r.row = some p → ∀ v H', Same H H' → RndAt K H H' v S us most → Q v H')
theorem ok_Tree_round_at (F : FnM K "round_at" "Tree.round_at" s_Tree_round_at (He.ma K (He.ga K "Tree") "round_at") fd) (hTr : TrC K) (me : Meth K (He.ga K "Tree") "round_at" (He.ma K (He.ga K "Tree") "round_at")) (f_list : mg "list" = none) (f_len : mg "len" = none) (c_place_within : Callee P w K mg base CX0 "place_within" 1 [] (spPlace K)) (c_Tree_way : CalleeM P w K mg base CX0 "Tree" "way" 1 (spTWay K)) : CalleeM P w K mg base CX0 "Tree" "round_at" 2 (spRoundAt K) := by
  refine ⟨hTr.c, me, fd, ["self", "row"], F.ok sc_Tree_round_at (fun vs H Q E h => ?hl) (fun cdv A outer s H vs Q E hr h => ⟨_, PSs.nox (pss_cons (ps_set (i := 2) sc_Tree_round_at.nd rfl (by first | exact Or.inl rfl | exact Or.inr rfl) (pe_ix (ix_k K) (pe_dget (hu_of hr) (pe_fldK K (pv 0) rfl) (pv 1) (fun _ _ => rfl)) pe_int (fun _ _ => rfl)))
      (pss_cons (ps_while PassesOwn.never (pt_cmpR op_notN1 (pv 2) pe_non (nomark _)) (pss_cons (ps_set (i := 3) sc_Tree_round_at.nd rfl (by first | exact Or.inl rfl | exact Or.inr rfl) (pe_cl c_place_within hr (pa_cons (pv 2) (pa_cons (pv 1) pa_nil)) pass0))
      (pss_cons (ps_if (pt_cmpR op_notN1 (pv 3) pe_non (nomark _)) (pss_cons (ps_set (i := 4) sc_Tree_round_at.nd rfl (by first | exact Or.inl rfl | exact Or.inr rfl) (pe_tup (pa_cons (pe_mt1 c_Tree_way hr (pv 0) (pa_cons (pv 2) (pa_cons (pe_ix (ix_k K) (pe_fldK K (pv 0) rfl) pe_int (fun _ _ => rfl)) pa_nil)) pass0) (pa_cons (pe_mt1 c_Tree_way hr (pv 0) (pa_cons (pv 1) (pa_cons (pv 2) pa_nil)) pass0) pa_nil))))
      (pss_one (ps_ret (pe_tup (pa_cons pe_str (pa_cons (pe_ix (ix_k K) (pv 4) pe_int (fun _ _ => rfl)) (pa_cons (pe_ix (ix_k K) (pv 4) pe_int (fun _ _ => rfl)) (pa_cons (pe_callTy (call_listK K) (by rfl) f_list (by decide +kernel) (pa_cons (pe_slice (sl_k K) (pv 1) po_none (po_some (pv 3))) pa_nil)) (pa_cons (pe_callTy (call_listK K) (by rfl) f_list (by decide +kernel) (pa_cons (pe_slice (sl_k K) (pv 1) (po_some (pe_op (op_addK K) (pv 3) (pe_callB (call_lenK K) (by rfl) f_len PySem.boot_len (pa_cons (pv 2) pa_nil)))) po_none) pa_nil)) pa_nil))))))))) pss_nil)
      (pss_one (ps_set (i := 2) sc_Tree_round_at.nd rfl (by first | exact Or.inl rfl | exact Or.inr rfl) (pe_ix (ix_k K) (pe_dget (hu_of hr) (pe_fldK K (pv 0) rfl) (pv 2) (fun _ _ => rfl)) pe_int (fun _ _ => rfl)))))))
      (pss_one (ps_ret pe_non)))), ?rd⟩), F.bindsN fun _ _ _ _ _ _ us hl => match us, hl with | [_, _], _ => rfl⟩
  case hl =>
    obtain ⟨H0, t, dx, ah, pl, pa, pb, a, S, us, most, L, B, r, rfl, _⟩ := h
    rfl
  case rd =>
    obtain ⟨H0, t, dx, ah, pl, pa, pb, a, S, us, most, L, B, r, rfl, hX, ok, hL, hm, hw, lu, hr0, ha, q1, q2⟩ := h
    have hrows := hL.rows ok hm hw lu
    obtain ⟨wr1, wr2, wr3⟩ := hrows r hr0
    obtain ⟨kc, a1, a2⟩ := hX.a
    have eg := hX.g
    have hvr : ∃ v, valV kc (rk r.row) = some v ∧ FromAt K H v r.from_ := kc_came a2 (cameOf_of hL.t.nd hr0)
    obtain ⟨v0, hv0, hf0⟩ := hvr
    obtain ⟨hc, n1, n2, n3, n4⟩ := id hTr
    have shape : ∀ {v : V} {fr : Option (Rw × Bt)}, FromAt K H v fr → ∃ (T : Addr) (x y : V), v = .ref T ∧ SqT K H T [x, y] ∧ ((fr = none ∧ x = .non) ∨ ∃ p b Tp, fr = some (p, b) ∧ x = .ref Tp ∧ H Tp = some (.tup (tS p))) := fun {v fr} h => by
      match fr, h with
      | none, ⟨T, e, h⟩ => exact ⟨T, _, _, e, h, .inl ⟨rfl, rfl⟩⟩
      | some (p, b), ⟨T, Tp, Tb, e, h1, h2, h3⟩ => exact ⟨T, _, _, e, h1, .inr ⟨p, b, Tp, rfl, rfl, h2⟩⟩
    refine k_start (σ' := [some _, some _, none, none, none]) rfl ?_
    walk_at "g"
    refine k_nDgT a1 (k := rk r.row) (by rw [rk_kV]; exact ha) hv0 ?_
    obtain ⟨T0, x0, y0, rfl, hT0, hx0⟩ := shape hf0
    walk_at "g"
    refine k_while (fun μ σ H' => ∃ (qq : Came) (x : V) (y3 y4 : Option V), σ = [some (.ref t), some (.ref a), some x, y3, y4] ∧ Same H H' ∧ qq ∈ L ∧ qq.dep ≤ r.dep ∧ qq.row ∈ r.row :: ancF L r.dep r.row ∧ closeF L r.dep r.row = (ancF L qq.dep qq.row).find? (fun p => (placeF p r.row).isSome) ∧ ((qq.from_ = none ∧ x = .non) ∨ ∃ p b Tp, qq.from_ = some (p, b) ∧ x = .ref Tp ∧ H Tp = some (.tup (tS p))) ∧ (∀ p, p ∈ ancF L qq.dep qq.row → p ∈ r.row :: ancF L r.dep r.row) ∧ μ = qq.dep) ⟨_, r, x0, _, _, rfl, Same.refl _, hr0, Nat.le_refl _, List.mem_cons_self .., rfl, hx0, fun p hp => List.mem_cons_of_mem _ hp, rfl⟩ (fun μ σ H' h => ?hw)
    obtain ⟨qq, x, y3, y4, rfl, ss, hq, hdq, hqm, hcl, hx, hsub, rfl⟩ := h
    have hX' := hX.sm ss
    have eg' := hX'.g
    rcases hx with ⟨hfn, rfl⟩ | ⟨p, b, Tp, hfs, rfl, hTp⟩
    · have d0 : qq.dep = 0 := by
        cases e : qq.dep with
        | zero => rfl
        | succ n =>
          obtain ⟨_, _, _, _, _, hf, _⟩ := hL.t.up hq e
          rw [hfn] at hf
          cases hf
      rw [d0] at hcl
      walk_at "g"
      refine k_turnF ?_
      walk_at "g"
      exact q1 hcl _ ss
    · obtain ⟨n, hn⟩ : ∃ n, qq.dep = n + 1 := by
        cases e : qq.dep with
        | zero =>
          have := (hL.t.root hq e).2
          rw [hfs] at this
          cases this
        | succ n => exact ⟨n, rfl⟩
      obtain ⟨q3, hq3, b', dq, hbb, hfr, hco⟩ := hL.t.up hq hn
      rw [hfs] at hfr
      obtain ⟨rfl, rfl⟩ : p = q3.row ∧ b = b' := by
        have := Option.some.inj hfr
        exact ⟨congrArg Prod.fst this, congrArg Prod.snd this⟩
      have hTp' := ss _ _ hTp
      have ha' := ss _ _ ha
      obtain ⟨w1, w2, w3⟩ := hrows q3 hq3
      have hanc : ancF L qq.dep qq.row = q3.row :: ancF L q3.dep q3.row := by rw [hn, ancF_some hco, dq]
      have hq3m : q3.row ∈ r.row :: ancF L r.dep r.row := hsub q3.row (by rw [hanc]; exact List.mem_cons_self ..)
      rw [hanc, List.find?_cons] at hcl
      walk_at "g"
      refine k_turnT ?_
      walk_at "g"
      refine ⟨Tp, a, S, q3.row, r.row, rfl, ok, sq_t hTp', sq_t ha', w1, wr1, by omega, by omega, fun i hi H2 s2 => ?_, fun hno H2 s2 => ?_⟩
      · rw [hi] at hcl
        obtain ⟨li, hsp⟩ := placeF_some hi
        have s02 := ss.trans s2
        have hX2 := hX.sm s02
        have eg2 := hX2.g
        obtain ⟨es, l1, l2⟩ := hX2.l
        obtain ⟨ex, hex⟩ := hL.t.me
        obtain ⟨te, es', rfl⟩ : ∃ te es', es = te :: es' := by
          cases es with
          | nil =>
            have := ke_len l2
            rw [hex] at this
            cases this
          | cons te es' => exact ⟨te, es', rfl⟩
        walk_at "g"
        refine k_ntNi ?_
        have hte : H2 te = some (.tup (tS us)) := by
          obtain ⟨u, hu, e⟩ := ke_get (i := 0) (t := te) l2 rfl
          rw [hex] at hu
          cases hu
          exact e
        walk_at "g"
        refine k_ix_l (sq_l l1) (at_n (j := 0) rfl rfl) ?_
        walk_at "g"
        refine ⟨H0, t, dx, ah, pl, pa, pb, Tp, te, S, us, most, L, B, q3, us, rfl, hX2, ok, hL, hm, hw, lu, hq3, s2 _ _ hTp', hte, hL.t.anc_root q3.dep q3 hq3 rfl, fun p1 ws1 H3 np1 s3 ep1 d1 => ?_⟩
        have hX3 := hX2.sm s3
        have eg3 := hX3.g
        walk_at "g"
        refine ⟨H0, t, dx, ah, pl, pa, pb, a, Tp, S, us, most, L, B, r, q3.row, rfl, hX3, ok, hL, hm, hw, lu, hr0, s3 _ _ (s2 _ _ ha'), s3 _ _ (s2 _ _ hTp'), hq3m, fun p2 ws2 H4 np2 s4 ep2 d2 => ?_⟩
        walk_at "g"
        refine k_nTup (by walk_at "sz") (fun tw H5 n5 s5 e5 => ?_)
        have s25 := s3.trans (s4.trans s5)
        have ha5 := s25 _ _ (s2 _ _ ha')
        have hTp5 := s25 _ _ (s2 _ _ hTp')
        walk_at "g"
        refine k_sl_t (sq_t ha5) (fun c1 H6 s6 e6 => ?_)
        rw [cutV_toI _ _ (by omega), Int.toNat_natCast, tS_take] at e6
        walk_at "g"
        refine k_list_t e6 (fun p3 H7 n7 s7 e7 => ?_)
        have s57 := s6.trans s7
        walk_at "g"
        rw [len_tS]
        refine k_sl_t (sq_t (s57 _ _ ha5)) (fun c2 H8 s8 e8 => ?_)
        rw [cutV_fromI _ _ (by omega), show ((i : Int) + (q3.row.length : Int)).toNat = i + q3.row.length by omega, show (tS r.row).drop (i + q3.row.length) = tS (r.row.drop (i + q3.row.length)) by unfold tS; rw [← List.map_drop]] at e8
        walk_at "g"
        refine k_list_t e8 (fun p4 H9 n9 s9 e9 => ?_)
        walk_at "g"
        refine k_nTup (by walk_at "sz") (fun T H10 n10 s10 e10 => ?_)
        have s79 := s8.trans s9
        have s710 := s79.trans s10
        have s510 := s57.trans s710
        have s410 := s5.trans s510
        have s310 := s4.trans s410
        have s210 := s3.trans s310
        have ep1' := s310 _ _ ep1
        have ep2' := s410 _ _ ep2
        obtain ⟨_, ww1⟩ := hL.t.anc q3.dep q3 hq3 rfl us (hL.t.anc_root q3.dep q3 hq3 rfl)
        obtain ⟨⟨q4, hq4, eq4, dq4, lw⟩, ww2⟩ := hL.t.anc r.dep r hr0 rfl q3.row hq3m
        have e34 : q4 = q3 := by
          have h1 := cameOf_of hL.t.nd hq4
          have h2 := cameOf_of hL.t.nd hq3
          rw [eq4, h2] at h1
          exact (Option.some.inj h1).symm
        subst e34
        have w31 : p3 ≠ p1 := fun z => by rw [z, (s4.trans (s5.trans s6)) _ _ ep1] at n7; cases n7
        have w41 : p4 ≠ p1 := fun z => by rw [z, (s4.trans (s5.trans (s57.trans s8))) _ _ ep1] at n9; cases n9
        have w32 : p3 ≠ p2 := fun z => by rw [z, (s5.trans s6) _ _ ep2] at n7; cases n7
        have w42 : p4 ≠ p2 := fun z => by rw [z, (s5.trans (s57.trans s8)) _ _ ep2] at n9; cases n9
        have w43 : p4 ≠ p3 := fun z => by rw [z, s8 _ _ e7] at n9; cases n9
        have w21 : p2 ≠ p1 := fun z => by rw [z, ep1] at np2; cases np2
        have hdl := hL.d r hr0
        have hdl4 := hL.d q4 hq3
        have hll := hL.l
        have lw1 : (wayT L q4.dep q4.row us).length ≤ most := by
          obtain ⟨⟨q5, _, _, _, h⟩, _⟩ := hL.t.anc q4.dep q4 hq3 rfl us (hL.t.anc_root q4.dep q4 hq3 rfl)
          omega
        refine q2 q4.row hcl (.ref T) H10 (s02.trans s210) ⟨T, p1, p2, p3, p4, ws1, ws2, _, _, q4.row, r.row.take i, r.row.drop (i + q4.row.length), rfl, sq_t e10, ⟨ep1', dpall_sm s310 d1⟩, ⟨ep2', dpall_sm s410 d2⟩, s710 _ _ e7, s10 _ _ e9, ⟨s02.free np1, (s02.trans s3).free np2, (s02.trans (s3.trans (s4.trans (s5.trans s6)))).free n7, (s02.trans (s3.trans (s4.trans (s5.trans (s57.trans s8))))).free n9⟩, ⟨w21, w31, w41, w32, w42, w43⟩, ww1, by rw [ww2, ← hsp], fun z => ?_, lw1, by omega⟩
        have z' : (wayT L r.dep r.row q4.row).length = 0 := by rw [z]; rfl
        omega
      · rw [hno] at hcl
        have s02 := ss.trans s2
        have hX2 := hX.sm s02
        have eg2 := hX2.g
        obtain ⟨v3, hv3, hf3⟩ := kc_came a2 (cameOf_of hL.t.nd hq3)
        obtain ⟨T3, x3, y3', rfl, hT3, hx3⟩ := shape hf3
        have a12 := s02 _ _ a1
        walk_at "g"
        refine k_nDgT a12 (k := rk q3.row) (by rw [rk_kV]; exact s2 _ _ hTp') hv3 ?_
        walk_at "g"
        exact ⟨q3.dep, by omega, q3, x3, _, _, rfl, s02, hq3, by omega, hq3m, hcl, hx3, fun p hp => hsub p (by rw [hanc]; exact List.mem_cons_of_mem _ hp), rfl⟩
end
end Lw
set_option autoImplicit true
set_option pp.maxSteps 1200
set_option Elab.async false
set_option linter.all false
set_option maxRecDepth 100000
set_option maxHeartbeats 1000000
namespace Lw
open PySem PySem.Spec PyProof.Rows L2 Gk

local macro_rules | `(tactic| walk_at "hp") => `(tactic| first | assumption | exact upd_same | (refine' (upd_ne ?n).trans ?h; (case n => assumption); (case h => walk_at "hp")) | (refine' sm_get ?s ?h; (case s => assumption); (case h => walk_at "hp")))
local macro_rules | `(tactic| walk_at "sq") => `(tactic| first | assumption | (refine' sq_l ?h; (case h => walk_at "hp")) | (refine' sm_l ?s ?h; (case s => assumption); (case h => walk_at "sq")))
local macro_rules | `(tactic| walk_at "st") => `(tactic| first | assumption | (refine' sq_t ?h; (case h => walk_at "hp")) | (refine' sm_t ?s ?h; (case s => assumption); (case h => walk_at "st")))
local macro_rules | `(tactic| walk_at "bg") => `(tactic| first | assumption | (refine' BagOk.sm ?s ?h; (case s => assumption); (case h => walk_at "bg")))
local macro_rules | `(tactic| walk_at "sm") => `(tactic| first | assumption | exact Same.refl _ | (refine' Same.trans ?h ?s; (case s => assumption); (case h => walk_at "sm")))
local macro_rules | `(tactic| walk_at "hs") => `(tactic| first | assumption | (refine' HsAt.sm ?s ?h; (case s => assumption); (case h => walk_at "hs")))
local macro_rules | `(tactic| walk_at "ms") => `(tactic| first | assumption | (refine' MAt.sm ?s ?h; (case s => assumption); (case h => walk_at "ms")))
local macro_rules | `(tactic| walk_at "md") => `(tactic| first | assumption | (refine' MDk.sm ?s ?h; (case s => assumption); (case h => walk_at "md")))
local macro_rules | `(tactic| walk_at "dp") => `(tactic| first | assumption | (refine' dp_sm ?s ?h; (case s => assumption); (case h => walk_at "dp")))
local macro_rules | `(tactic| walk_at "sz") => `(tactic| first | decide | assumption | omega | (simp only [List.length_cons, List.length_nil, List.length_map, List.length_append]; omega))
local macro_rules | `(tactic| walk_at "g1") => `(tactic| first
  | with_reducible refine k_seq ?_
  | with_reducible refine k_itB ?_
  | with_reducible refine k_next ?_
  | with_reducible refine k_asg ?_
  | with_reducible refine k_name ?_
  | with_reducible refine k_ret ?_
  | with_reducible refine k_retN ?_
  | with_reducible refine k_drop ?_
  | with_reducible refine k_ifs ?_
  | with_reducible refine k_brk ?_
  | with_reducible refine k_cont ?_
  | with_reducible refine k_ipI ?_
  | with_reducible refine k_test ?_
  | with_reducible refine k_tB ?_
  | with_reducible refine k_bl ?_
  | with_reducible refine k_not ?_
  | with_reducible refine k_and ?_
  | with_reducible refine k_or ?_
  | with_reducible refine k_yes ?_
  | with_reducible refine k_true ?_
  | with_reducible refine k_false ?_
  | with_reducible refine k_nt ?_
  | with_reducible refine k_c ?_
  | with_reducible refine k_op ?_
  | with_reducible refine k_un ?_
  | with_reducible refine k_if ?_
  | with_reducible refine k_chain ?_
  | with_reducible refine k_nil ?_
  | with_reducible refine k_cons ?_
  | with_reducible refine k_cb ?_
  | with_reducible refine k_call ?_
  | with_reducible refine k_callS ?_
  | with_reducible refine k_andV ?_
  | with_reducible refine k_orV ?_
  | with_reducible refine k_notV ?_
  | with_reducible refine k_lst ?_
  | with_reducible refine k_tup ?_
  | with_reducible refine k_nopart ?_
  | with_reducible refine k_part ?_
  | with_reducible refine k_nInt ?_
  | with_reducible refine k_sl ?_
  | with_reducible refine k_bm ?_
  | with_reducible refine k_bm0 ?_
  | with_reducible refine k_nTyS ?_
  | with_reducible refine k_m1 ?_
  | with_reducible refine k_m0 ?_
  | with_reducible refine k_nStr ?_
  | with_reducible refine k_I0 ?_
  | with_reducible refine k_U ?_
  | with_reducible refine k_add_i ?_
  | with_reducible refine k_eq_i ?_
  | with_reducible refine k_eq_s ?_
  | with_reducible refine k_eq_b ?_
  | with_reducible refine k_ne_i ?_
  | with_reducible refine k_ne_s ?_
  | with_reducible refine k_ne_b ?_
  | with_reducible refine k_le_i ?_
  | with_reducible refine k_le_s ?_
  | with_reducible refine k_gnil ?_
  | with_reducible refine k_gcons ?_
  | with_reducible refine k_gsub ?_
  | with_reducible refine k_for ?_
  | with_reducible refine k_lc ?_
  | with_reducible refine k_rng1 ?_
  | with_reducible refine k_rng2 ?_
  | with_reducible refine k_itl ?_
  | with_reducible refine k_itt ?_
  | with_reducible refine k_its ?_
  | with_reducible refine k_ite ?_
  | with_reducible refine k_iteB ?_
  | with_reducible refine k_lrg2 ?_
  | with_reducible refine k_itz ?_
  | with_reducible refine k_nIts ?_
  | with_reducible refine k_inS ?_
  | with_reducible refine k_niS ?_
  | with_reducible refine k_mk ?_
  | with_reducible refine k_meth ?_
  | with_reducible refine k_fld ?_
  | with_reducible refine k_sfld ?_
  | with_reducible refine k_dg ?_
  | with_reducible refine k_dp ?_
  | with_reducible refine k_pr ?_
  | with_reducible refine k_pr0 ?_
  | with_reducible refine k_sg ?_
  | with_reducible refine k_lc2 ?_
  | with_reducible refine k_callN ?_
  | with_reducible refine k_callNS ?_
  | with_reducible refine k_par ?_
  | with_reducible refine k_nPar ?_
  | with_reducible refine k_isNn ?_
  | with_reducible refine k_isNr ?_
  | with_reducible refine k_ntNn ?_
  | with_reducible refine k_ntNr ?_
  | with_reducible refine k_min2 ?_
  | with_reducible refine k_max2 ?_
  | with_reducible refine k_intB ?_
  | with_reducible refine k_intI ?_
  | with_reducible refine k_isBl ?_
  | with_reducible refine k_ntBl ?_
  | ((with_reducible refine' k_var ?kv ?_); (case kv => exact rfl))
  | ((with_reducible refine' k_aug ?kv ?_); (case kv => exact rfl))
  | ((with_reducible refine' k_ix_l ?ks ?ki ?_); (case ks => walk_at "sq"); (case ki => exact rfl))
  | ((with_reducible refine' k_ix_t ?ks ?ki ?_); (case ks => walk_at "st"); (case ki => exact rfl))
  | ((with_reducible refine' k_len_l ?ks ?_); (case ks => walk_at "sq"))
  | ((with_reducible refine' k_len_t ?ks ?_); (case ks => walk_at "st"))
  | ((with_reducible refine' k_setL ?ks ?ki ?_); (case ks => walk_at "hp"); (case ki => exact rfl))
  | ((with_reducible refine' k_nTyL ?ks ?_); (case ks => walk_at "sq"))
  | ((with_reducible refine' k_nItl ?ks ?_); (case ks => walk_at "sq"))
  | ((with_reducible refine' k_nItt ?ks ?_); (case ks => walk_at "st"))
  | ((with_reducible refine' k_nIte ?ks ?_); (case ks => walk_at "sq"))
  | ((with_reducible refine' k_mul ?km ?_); (case km => first | exact Or.inr ⟨by decide, by decide⟩ | exact Or.inl ⟨by decide, by decide⟩))
  | ((with_reducible refine' k_I ?km ?_); (case km => first | assumption | decide | exact ⟨by decide, by decide +kernel⟩ | exact ⟨by decide, by decide, by decide⟩))
  | ((with_reducible refine' k_nMeth ?kp ?kl ?_); (case kp => walk_at "hp"); (case kl => exact rfl))
  | ((with_reducible refine' k_nFld ?kp ?kc ?kn ?kl ?_); (case kp => walk_at "hp"); (case kc => assumption); (case kn => assumption); (case kl => exact rfl))
  | ((with_reducible refine' k_nSFld ?kp ?kc ?kn ?kl ?_); (case kp => walk_at "hp"); (case kc => assumption); (case kn => assumption); (case kl => exact of_decide_eq_true rfl))
  | ((with_reducible refine' k_nDg ?kp ?kl ?_); (case kp => walk_at "hp"); (case kl => exact rfl))
  | ((with_reducible refine' k_nRng1 ?k1 ?k2 ?_); (case k1 => omega); (case k2 => omega))
  | ((with_reducible refine' k_nKw ?k1 ?k2 ?_); (case k1 => exact rfl); (case k2 => exact rfl))
  | ((with_reducible refine' k_hsm ?kh ?_); (case kh => walk_at "hs"))
  | ((with_reducible refine' k_nMethH ?kh ?kl ?_); (case kh => walk_at "hs"); (case kl => exact fun _ _ => rfl))
  | ((with_reducible refine' k_mLet ?kh ?_); (case kh => walk_at "ms"))
  | ((with_reducible refine' k_mChew ?kh ?_); (case kh => walk_at "ms"))
  | ((with_reducible refine' k_mPut ?kh ?_); (case kh => walk_at "ms"))
  | ((with_reducible refine' k_mMost ?kh ?_); (case kh => walk_at "ms"))
  | ((with_reducible refine' k_mCut ?kh ?_); (case kh => walk_at "ms"))
  | ((with_reducible refine' k_mTab ?kh ?_); (case kh => walk_at "md"))
  | ((with_reducible refine' k_mEats ?kh ?_); (case kh => walk_at "md"))
  | ((with_reducible refine' k_gtup ?ks ?kl ?_); (case ks => walk_at "st"); (case kl => exact rfl)))
local macro_rules | `(tactic| walk_at "g") => `(tactic| repeat (walk_at "g1"))
local macro_rules | `(tactic| walk_at "w1") => `(tactic| first
  | walk_at "g1"
  | ((with_reducible refine' k_decT ?kp ?_); (case kp => omega))
  | ((with_reducible refine' k_decF ?kp ?_); (case kp => omega))
  | ((with_reducible refine' k_decNT ?kp ?_); (case kp => omega))
  | ((with_reducible refine' k_decNF ?kp ?_); (case kp => omega)))
local macro_rules | `(tactic| walk_at "w") => `(tactic| repeat (walk_at "w1"))

local macro_rules | `(tactic| walk_at "g1") => `(tactic| first
  | with_reducible refine k_mkP ?_
  | with_reducible refine k_din ?_
  | with_reducible refine k_dni ?_
  | with_reducible refine k_sortF ?_
  | with_reducible refine k_sortL ?_
  | with_reducible refine k_itk ?_
  | with_reducible refine k_revL ?_)

local macro_rules | `(tactic| walk_at "g1") => `(tactic| first
  | with_reducible refine k_maxD ?_)

section
variable {P : Program} {w : World} {K : PySem.W.Frag} {mg : Str → Option Value} {base : Heap} {f : Addr} {fd : FuncData}
/-! ### the rows to which one bite leads -/
def spNext (K : PySem.W.Frag) : Sp := fun vs H Q _ => ∃ (H0 : Hp) (t dx ah pl pa pb a : Addr) (S : HsD) (L : List Came) (B : List BN) (u : Rw), vs = [.ref t, .ref a] ∧ TrX K H0 H t dx ah pl pa pb S L B ∧ HsOk S ∧ AllW S u ∧ u.length ≤ 5000 ∧ H a = some (.tup (tS u)) ∧ u ∉ B.map (·.1) ∧ B.length ≤ 1000 ∧
  ∀ pn ws H', TrX K H0 H' t dx ah pl pa pb S L (B ++ [(u, bitesF S u)]) → pn ≠ pl → H' pn = some (.lst ws) → NbAll K H' ws (bitesF S u) → (∀ b o, b ≠ pb → H b = some o → H' b = some o) → Q (.ref pn) H'
theorem ok_Tree_next_rows (F : FnM K "next_rows" "Tree.next_rows" s_Tree_next_rows (He.ma K (He.ga K "Tree") "next_rows") fd) (hTr : TrC K) (me : Meth K (He.ga K "Tree") "next_rows" (He.ma K (He.ga K "Tree") "next_rows")) (f_list : mg "list" = none) (f_tuple : mg "tuple" = none) (c_bites_of : Callee P w K mg base CX0 "bites_of" 4 [] (spBitesOf K)) : CalleeM P w K mg base CX0 "Tree" "next_rows" 5 (spNext K) := by
  refine ⟨hTr.c, me, fd, ["self", "row"], F.ok sc_Tree_next_rows (fun vs H Q E h => ?hl) (fun cdv A outer s H vs Q E hr h => ⟨_, PSs.nox (pss_cons (ps_if (pt_cmp (pc_dnotin (hu_of hr) (pv 1) (pe_fldK K (pv 0) rfl))) (pss_one (ps_dput (hu_of hr) (pe_fldK K (pv 0) rfl) (pv 1) (pe_lc (own := [("bite", 2), ("made", 3)]) rfl sc_Tree_next_rows.nd (pi_listK K (pe_cl c_bites_of hr (pa_cons (pe_fldK K (pv 0) rfl) (pa_cons (pe_callTy (call_listK K) (by rfl) f_list (by decide +kernel) (pa_cons (pv 1) pa_nil)) pa_nil)) pass0)) (blkOk_by (N := ["self", "row", "bite", "made"]) (sc := defScope s_Tree_next_rows) (by decide +kernel)) (fun _ _ _ _ _ => (pg_tupK K 2 (by rfl) (pgs_cons (pg_name (i := 2) sc_Tree_next_rows.nd rfl (by first | exact Or.inl rfl | exact Or.inr rfl)) (pgs_cons (pg_name (i := 3) sc_Tree_next_rows.nd rfl (by first | exact Or.inl rfl | exact Or.inr rfl)) pgs_nil)))) (fun _ _ _ _ _ => pts_nil) (fun _ _ _ _ _ => (pe_tup (pa_cons (pv 2) (pa_cons (pe_callTy (call_tupK K) (by rfl) f_tuple (by decide +kernel) (pa_cons (pv 3) pa_nil)) pa_nil))))) rfl)) pss_nil)
      (pss_one (ps_ret (pe_dget (hu_of hr) (pe_fldK K (pv 0) rfl) (pv 1) (fun _ _ => rfl))))), ?rd⟩), F.bindsN fun _ _ _ _ _ _ us hl => match us, hl with | [_, _], _ => rfl⟩
  case hl =>
    obtain ⟨H0, t, dx, ah, pl, pa, pb, a, S, L, B, u, rfl, _⟩ := h
    rfl
  case rd =>
    obtain ⟨H0, t, dx, ah, pl, pa, pb, a, S, L, B, u, rfl, hX, ok, hw, lu, ha, hn, lB, q⟩ := h
    obtain ⟨kb, b1, b2⟩ := hX.b
    have eg := hX.g
    have hs := hX.hs.sm hX.s
    obtain ⟨hc, n1, n2, n3, n4⟩ := id hTr
    refine k_start (σ' := [some _, some _, none, none]) rfl ?_
    walk_at "g"
    refine k_nDiT b1 (k := rk u) (by rw [rk_kV]; exact ha) ?_
    rw [kb_none b2 hn]
    walk_at "g"
    refine (show nIte true _ _ from ?_)
    walk_at "g"
    refine k_list_t (sq_t ha) (fun p1 H1 n1' s1 e1 => ?_)
    walk_at "g"
    refine ⟨ah, p1, S, u, rfl, hs.sm s1, ok, sq_l e1, hw, by omega, fun p2 ws2 H2 n2' s2 e2 b2' => ?_⟩
    have l2 := b2'.len
    have fl : (bitesF S u).length ≤ 10000 := Nat.le_trans (flat_len (S := S) (us := u) u.length) (by omega)
    have s02 := s1.trans s2
    walk_at "g"
    refine k_nLcD (walk_list (xs := ws2)) (fun H' s => sq_l (s _ _ e2)) (fun i zs H3 => NbAll K H3 zs ((bitesF S u).take i)) (fun i zs Ha Hb s h => nb_sm s h) .nil (fun i zs Ha hi h => ?hz) (fun i x p Ha Hb zs Kp Ks hi hp sa ea hzs hy hKp hKs => ?ht) (fun pn H3 zs hp sb eb hzs => ?he)
    case hz =>
      have := Paired.length h
      rw [List.length_take] at this
      omega
    case ht =>
      obtain ⟨rfl, hv⟩ := hy
      obtain ⟨x, hx1, hbx⟩ := b2'.get hv
      obtain ⟨tt, tb, tm, rfl, h1, h2, h3, h4⟩ := hbx
      have h1a := sm_t sa h1
      walk_at "g"
      refine ⟨rfl, ?_⟩
      walk_at "g"
      refine k_tup_l (sq_l (sa _ _ h3)) (fun pm Hm nm sm em => ?_)
      walk_at "g"
      refine k_nTup (by walk_at "sz") (fun T H5 n5 s5 e5 => ?_)
      have s35 := sm.trans s5
      refine hKp _ _ s35 ?_
      rw [take_more hx1]
      have nTp : T ≠ p := fun z => by rw [z, sm _ _ ea] at n5; cases n5
      have nmp : pm ≠ p := fun z => by rw [z, ea] at nm; cases nm
      exact paired_app ⟨T, tb, pm, rfl, sq_t (by rw [del_ne nTp]; exact e5), del_t (s35 _ _ ea) (sm_t s35 (sm_t sa h2)), by rw [del_ne nmp]; exact s5 _ _ em⟩ (nb_sm (del_mono s35) hzs)
    case he =>
      rw [l2, List.take_length] at hzs
      have s03 := s02.trans sb
      have hX3 := hX.sm s03
      have eg3 := hX3.g
      have b13 := s03 _ _ b1
      have ha3 := s03 _ _ ha
      have hp0 : H0 pn = none := hX.s.free (s02.free hp)
      have npl : pn ≠ pl := fun z => by
        obtain ⟨es, l1, _⟩ := (hX.sm s02).l
        rw [z, l1] at hp
        cases hp
      walk_at "g"
      refine k_nDpTz b13 (k := rk u) (by rw [rk_kV]; exact ha3) (by rw [kb_len b2]; omega) ?_
      rw [putK_new _ (kb_none b2 hn)]
      have A1 := hX3.nx (u := u) b13 (kb_sm s03 b2) npl eb hzs
      have e4 : (upd H3 pb (.dT (kb ++ [(rk u, .ref pn)]))) pb = some (.dT (kb ++ [(rk u, .ref pn)])) := upd_same
      have ep4 : (upd H3 pb (.dT (kb ++ [(rk u, .ref pn)]))) pn = some (.lst zs) := by rw [upd_ne (ne_of eb b13 (fun z => nomatch z))]; exact eb
      have nb4 := nb_upd (o := .dT (kb ++ [(rk u, .ref pn)])) b13 (noTup_dT _) hzs
      have ha4 : (upd H3 pb (.dT (kb ++ [(rk u, .ref pn)]))) a = some (.tup (tS u)) := by rw [upd_ne (ne_of ha3 b13 (fun z => nomatch z))]; exact ha3
      have keep : ∀ b o, b ≠ pb → H b = some o → (upd H3 pb (.dT (kb ++ [(rk u, .ref pn)]))) b = some o := fun b o nb e => by rw [upd_ne nb]; exact s03 _ _ e
      generalize upd H3 pb (.dT (kb ++ [(rk u, .ref pn)])) = H4 at A1 e4 ep4 nb4 ha4 keep ⊢
      have eg4 := A1.g
      walk_at "g"
      refine k_nDgT e4 (k := rk u) (v := .ref pn) (by rw [rk_kV]; exact ha4) ?_ ?_
      · have h0 : valV kb (rk u) = none := kb_none b2 hn
        rw [← putK_new (.ref pn) h0, valV_put, if_pos rfl]
      · exact q pn zs H4 A1 npl ep4 nb4 keep
/-! ### all rows let come -/
def nbF (S : HsD) (rs : List Came) : List BN := rs.map fun r => (r.row, bitesF S r.row)
theorem nbF_keys (S : HsD) (rs : List Came) : (nbF S rs).map (·.1) = rowsC rs := by
  unfold nbF rowsC
  rw [List.map_map]
  rfl
def spGrown2 (K : PySem.W.Frag) : Sp := fun vs H Q _ => ∃ (H0 : Hp) (t dx ah pl pa pb : Addr) (S : HsD) (us : Rw) (most : Nat), vs = [.ref t, .int (most : Nat)] ∧ TrX K H0 H t dx ah pl pa pb S [⟨us, 0, none⟩] [] ∧ HsOk S ∧ AllW S us ∧ us.length ≤ 100 ∧ 1 ≤ most ∧ most ≤ 400 ∧
  (gF S us most most = .far → ∀ T H', Same H0 H' → H' T = some (.tup [.str (Str.ofString "far"), .int (most : Nat)]) → Q (.ref T) H') ∧
  (∀ L r, gF S us most most = .round L r → ∀ v H', Same H0 H' → RndAt K H0 H' v S us most → Q v H') ∧
  (∀ L, gF S us most most = .on L → ∀ H', TrX K H0 H' t dx ah pl pa pb S L (nbF S L) → Q .non H')
theorem ok_Tree_grown (F : FnM K "grown" "Tree.grown" s_Tree_grown (He.ma K (He.ga K "Tree") "grown") fd) (hTr : TrC K) (me : Meth K (He.ga K "Tree") "grown" (He.ma K (He.ga K "Tree") "grown")) (f_len : mg "len" = none) (c_Tree_next_rows : CalleeM P w K mg base CX0 "Tree" "next_rows" 5 (spNext K)) (c_Tree_round_at : CalleeM P w K mg base CX0 "Tree" "round_at" 2 (spRoundAt K)) : CalleeM P w K mg base CX0 "Tree" "grown" 6 (spGrown2 K) := by
  refine ⟨hTr.c, me, fd, ["self", "most"], F.ok sc_Tree_grown (fun vs H Q E h => ?hl) (fun cdv A outer s H vs Q E hr h => ⟨_, PSs.nox (pss_cons (ps_set (i := 2) sc_Tree_grown.nd rfl (by first | exact Or.inl rfl | exact Or.inr rfl) pe_int)
      (pss_cons (ps_while PassesOwn.never (pt_cmpR op_lt (pv 2) (pe_callB (call_lenK K) (by rfl) f_len PySem.boot_len (pa_cons (pe_fldK K (pv 0) rfl) pa_nil)) (nomark _)) (pss_cons (ps_set (i := 3) sc_Tree_grown.nd rfl (by first | exact Or.inl rfl | exact Or.inr rfl) (pe_ix (ix_k K) (pe_fldK K (pv 0) rfl) (pv 2) (fun _ _ => rfl)))
      (pss_cons (ps_aug (i := 2) sc_Tree_grown.nd rfl (by first | exact Or.inl rfl | exact Or.inr rfl) pe_int ip_add)
      (pss_one (ps_for PassesOwn.never rfl (pi_listK K (pe_mt1 c_Tree_next_rows hr (pv 0) (pa_cons (pv 3) pa_nil) pass0)) (pg_tupK K 2 (by rfl) (pgs_cons (pg_name (i := 4) sc_Tree_grown.nd rfl (by first | exact Or.inl rfl | exact Or.inr rfl)) (pgs_cons (pg_name (i := 5) sc_Tree_grown.nd rfl (by first | exact Or.inl rfl | exact Or.inr rfl)) pgs_nil))) (pss_one (ps_if (pt_cmp (pc_dnotin (hu_of hr) (pv 5) (pe_fldK K (pv 0) rfl))) (pss_cons (ps_if (pt_cmpR op_ge (pe_callB (call_lenK K) (by rfl) f_len PySem.boot_len (pa_cons (pe_fldK K (pv 0) rfl) pa_nil)) (pv 1) (nomark _)) (pss_one (ps_ret (pe_tup (pa_cons pe_str (pa_cons (pv 1) pa_nil))))) pss_nil)
      (pss_cons (ps_dput (hu_of hr) (pe_fldK K (pv 0) rfl) (pv 5) (pe_tup (pa_cons (pv 3) (pa_cons (pv 4) pa_nil))) rfl)
      (pss_cons (ps_expr (pe_bmK K PySem.F.plainAttrs_list PySem.F.slot_list_append PySem.F.type_list_append mt_append (pe_fldK K (pv 0) rfl) (pa_cons (pv 5) pa_nil)))
      (pss_cons (ps_set (i := 6) sc_Tree_grown.nd rfl (by first | exact Or.inl rfl | exact Or.inr rfl) (pe_mt1 c_Tree_round_at hr (pv 0) (pa_cons (pv 5) pa_nil) pass0))
      (pss_one (ps_if (pt_cmpR op_notN1 (pv 6) pe_non (nomark _)) (pss_one (ps_ret (pv 6))) pss_nil)))))) pss_nil)))))))
      (pss_one (ps_ret pe_non)))), ?rd⟩), F.bindsN fun _ _ _ _ _ _ us hl => match us, hl with | [_, _], _ => rfl⟩
  case hl =>
    obtain ⟨H0, t, dx, ah, pl, pa, pb, S, us, most, rfl, _⟩ := h
    rfl
  case rd =>
    obtain ⟨H0, t, dx, ah, pl, pa, pb, S, us, most, rfl, hX, ok, hw, lu, m1, m4, q1, q2, q3⟩ := h
    obtain ⟨hc, n1, n2, n3, n4⟩ := id hTr
    refine k_start (σ' := [some _, some _, none, none, none, none, none]) rfl ?_
    walk_at "g"
    refine k_while (fun μ σ H' => ∃ (n : Nat) (L : List Came) (y3 y4 y5 y6 : Option V), σ = [some (.ref t), some (.int (most : Nat)), some (.int (n : Nat)), y3, y4, y5, y6] ∧ gF S us most n = .on L ∧ n ≤ L.length ∧ TrX K H0 H' t dx ah pl pa pb S L (nbF S (L.take n)) ∧ μ = 401 - n) ⟨_, 0, _, _, _, _, _, rfl, rfl, Nat.zero_le _, hX, rfl⟩ (fun μ σ H' h => ?hw)
    obtain ⟨n, L, y3, y4, y5, y6, rfl, hg, hn, hXn, rfl⟩ := h
    have hOn : OnOk S us most L := by
      have := gF_ok S us m1 n
      rw [hg] at this
      exact this
    have lL := hOn.l
    have hrows := hOn.rows ok m4 hw lu
    obtain ⟨es, l1, l2⟩ := hXn.l
    have eg := hXn.g
    have les : es.length = L.length := by have := ke_len l2; rwa [rowsC, List.length_map] at this
    walk_at "g"
    rw [List.length_map, les]
    walk_at "g"
    refine k_turnD (fun hlt => k_turnT ?_) (fun hge => k_turnF ?_)
    · have hlt' : n < L.length := by omega
      obtain ⟨rr, hrr⟩ : ∃ rr, L[n]? = some rr := ⟨_, List.getElem?_eq_getElem hlt'⟩
      obtain ⟨te, hte⟩ : ∃ te, es[n]? = some te := ⟨_, List.getElem?_eq_getElem (by omega)⟩
      have hrm := List.mem_of_getElem? hrr
      obtain ⟨w1, w2, w3⟩ := hrows rr hrm
      obtain ⟨u0, hu0, etp⟩ := ke_get l2 hte
      have eu0 : u0 = rr.row := by
        rw [List.getElem?_map, hrr] at hu0
        exact (Option.some.inj hu0).symm
      subst eu0
      have hstep : gF S us most (n + 1) = (bitesF S rr.row).foldl (gB most rr.row rr.dep) (.on L) := by
        rw [gF_succ, hg]
        show (match L[n]? with | none => GoR.on L | some r => _) = _
        rw [hrr]
      have nin : rr.row ∉ (nbF S (L.take n)).map (·.1) := by
        rw [nbF_keys]
        intro z
        obtain ⟨r2, hr2, er2⟩ := List.mem_map.mp z
        obtain ⟨i, hi, ei⟩ := List.mem_take_iff_getElem.mp hr2
        have hi2 : i < n := by omega
        have nd := hOn.t.nd
        have g1 : (rowsC L)[i]? = some rr.row := by
          rw [List.getElem?_map, List.getElem?_eq_getElem (by omega)]
          rw [ei]
          exact congrArg some er2
        have g2 : (rowsC L)[n]? = some rr.row := by rw [List.getElem?_map, hrr]; rfl
        have := (List.getElem?_inj (by rw [List.length_map]; omega) nd).mp (g1.trans g2.symm)
        omega
      walk_at "g"
      refine k_ix_l (sq_l l1) (at_n rfl (v := .ref te) (by rw [List.getElem?_map, hte]; rfl)) ?_
      walk_at "g"
      refine ⟨H0, t, dx, ah, pl, pa, pb, te, S, L, nbF S (L.take n), rr.row, rfl, hXn, ok, w1, by omega, etp, nin, by unfold nbF; rw [List.length_map, List.length_take]; omega, fun pn ws H2 hX2 npl ep nb keep => ?_⟩
      have enb : nbF S (L.take n) ++ [(rr.row, bitesF S rr.row)] = nbF S (L.take (n + 1)) := by
        rw [take_more hrr]
        unfold nbF
        rw [List.map_append]
        rfl
      rw [enb] at hX2
      have etp2 : H2 te = some (.tup (tS rr.row)) := keep _ _ (ne_of etp hXn.b.choose_spec.1 (fun z => nomatch z)) etp
      clear keep
      have lws := Paired.length nb
      walk_at "g"
      refine k_nFor (walk_list (xs := ws)) (fun j σ H' => ∃ (y4 y5 y6 : Option V) (L' : List Came), σ = [some (.ref t), some (.int (most : Nat)), some (.int ((n : Nat) + 1)), some (.ref te), y4, y5, y6] ∧ ((bitesF S rr.row).take j).foldl (gB most rr.row rr.dep) (.on L) = .on L' ∧ TrX K H0 H' t dx ah pl pa pb S L' (nbF S (L.take (n + 1))) ∧ H' te = some (.tup (tS rr.row)) ∧ H' pn = some (.lst ws) ∧ NbAll K H' ws (bitesF S rr.row)) ⟨_, _, _, L, rfl, rfl, hX2, etp2, ep, nb⟩ (fun j σ H' _ h => by
        obtain ⟨_, _, _, _, _, _, _, _, e, _⟩ := h
        exact sq_l e) (fun j x σ Hc Hd hj h hy => ?ht) (fun σ H' h => ?he)
      case he =>
        obtain ⟨y4, y5, y6, L', rfl, hf, hX3, et3, ep3, nb3⟩ := h
        rw [lws, List.take_length, ← hstep] at hf
        obtain ⟨ex, hex⟩ := (gBs_ok (bitesF S rr.row) hOn hrm fun x hx => hx).2 L' (by rw [← hstep]; exact hf)
        have hl' : n + 1 ≤ L'.length := by rw [hex, List.length_append]; omega
        have etk : L'.take (n + 1) = L.take (n + 1) := by rw [hex, List.take_append_of_le_length (by omega)]
        walk_at "g"
        exact ⟨401 - (n + 1), by omega, n + 1, L', _, _, _, _, rfl, hf, hl', by rw [etk]; exact hX3, rfl⟩
      case ht =>
        obtain ⟨y4, y5, y6, L', rfl, hf, hX3, et3, ep3, nb3⟩ := h
        obtain ⟨rfl, hv⟩ := hy
        obtain ⟨xb, hxb, T, tb, tm, rfl, h1, h2, h3⟩ := paired_at nb3 hv
        have hbm := List.mem_of_getElem? hxb
        have htk : (bitesF S rr.row).take (j + 1) = (bitesF S rr.row).take j ++ [xb] := take_more hxb
        have hone : ((bitesF S rr.row).take (j + 1)).foldl (gB most rr.row rr.dep) (.on L) = gB most rr.row rr.dep (.on L') xb := by rw [htk, List.foldl_append, hf]; rfl
        have hall : gF S us most (n + 1) = ((bitesF S rr.row).drop (j + 1)).foldl (gB most rr.row rr.dep) (gB most rr.row rr.dep (.on L') xb) := by
          rw [hstep, ← hone, ← List.foldl_append, List.take_append_drop]
        obtain ⟨z1, z2⟩ := gBs_ok ((bitesF S rr.row).take j) hOn hrm fun x hx => List.mem_of_mem_take hx
        rw [hf] at z1
        have hOn' : OnOk S us most L' := z1
        obtain ⟨ex, hex⟩ := z2 L' hf
        have hrm' : rr ∈ L' := by rw [hex]; exact List.mem_append_left _ hrm
        obtain ⟨es3, l13, l23⟩ := hX3.l
        obtain ⟨kc, a13, a23⟩ := hX3.a
        have eg3 := hX3.g
        have les3 : es3.length = L'.length := by have := ke_len l23; rwa [rowsC, List.length_map] at this
        walk_at "g"
        refine k_nDiT a13 (k := rk xb.2) (by rw [rk_kV]; exact h3) ?_
        rw [kc_val a23]
        walk_at "g"
        refine k_bool (fun hb2 => ?_) (fun hb2 => ?_)
        · have hb3 : (L'.any fun r => decide (r.row = xb.2)) = false := by simpa using hb2
          walk_at "g"
          rw [List.length_map, les3]
          walk_at "g"
          refine k_dec (fun d => ?_) (fun d => ?_)
          · have efar : gB most rr.row rr.dep (.on L') xb = .far := by
              unfold gB
              simp only [hb3, Bool.false_eq_true, if_false]
              rw [if_pos (by omega)]
            rw [efar, gB_far] at hall
            walk_at "g"
            refine k_nTup (by walk_at "sz") (fun T2 H5 n5 s5 e5 => ?_)
            exact q1 (gF_far hall most (by omega)) T2 H5 (hX3.s.trans s5) e5
          · have d' : L'.length < most := by omega
            have hA := hOn'.add d' hrm' hbm hb3
            have egB : gB most rr.row rr.dep (.on L') xb = if (closeF (L' ++ [⟨xb.2, rr.dep + 1, some (rr.row, xb.1)⟩]) (rr.dep + 1) xb.2).isSome = true then .round (L' ++ [⟨xb.2, rr.dep + 1, some (rr.row, xb.1)⟩]) ⟨xb.2, rr.dep + 1, some (rr.row, xb.1)⟩ else .on (L' ++ [⟨xb.2, rr.dep + 1, some (rr.row, xb.1)⟩]) := by
              unfold gB
              simp only [hb3, Bool.false_eq_true, if_false]
              rw [if_neg (by omega)]
            walk_at "g"
            refine k_nTup (by walk_at "sz") (fun tv H6 n6 s6 e6 => ?_)
            have hX6 := hX3.sm s6
            have eg6 := hX6.g
            have a16 := s6 _ _ a13
            have l16 := s6 _ _ l13
            have h36 := s6 _ _ h3
            have et6 := s6 _ _ et3
            have ep6 := s6 _ _ ep3
            have A1 := hX6.add (q := ⟨xb.2, rr.dep + 1, some (rr.row, xb.1)⟩) (u := tm) (v := .ref tv) l16 (ke_sm s6 l23) a16 (kc_sm s6 a23) h36 ⟨tv, te, tb, rfl, sq_t e6, et6, sm_t s6 h2⟩
            walk_at "g"
            refine k_nDpTz a16 (k := rk xb.2) (by rw [rk_kV]; exact h36) (by rw [kc_len a23]; omega) ?_
            rw [putK_new _ (kc_none (kc_sm s6 a23) hb3)]
            have npa : pl ≠ pa := ne_of l16 a16 (fun z => nomatch z)
            have l17 : (upd H6 pa (.dT (kc ++ [(rk xb.2, .ref tv)]))) pl = some (.lst (es3.map V.ref)) := by rw [upd_ne npa]; exact l16
            have eg7 : (upd H6 pa (.dT (kc ++ [(rk xb.2, .ref tv)]))) t = some (.ins (He.ga K "Tree") dx [("home", .ref ah), ("line", .ref pl), ("above", .ref pa), ("below", .ref pb)]) := by rw [upd_ne (ne_of eg6 a16 (fun z => nomatch z))]; exact eg6
            walk_at "g"
            refine k_appendZ l17 (by rw [List.length_map]; omega) ?_
            have et8 : (upd (upd H6 pa (.dT (kc ++ [(rk xb.2, .ref tv)]))) pl (.lst (es3.map V.ref ++ [.ref tm]))) te = some (.tup (tS rr.row)) := tup_upd l17 (noTup_lst _) (tup_upd a16 (noTup_dT _) et6)
            have h38 : (upd (upd H6 pa (.dT (kc ++ [(rk xb.2, .ref tv)]))) pl (.lst (es3.map V.ref ++ [.ref tm]))) tm = some (.tup (tS xb.2)) := tup_upd l17 (noTup_lst _) (tup_upd a16 (noTup_dT _) h36)
            have ep8 : (upd (upd H6 pa (.dT (kc ++ [(rk xb.2, .ref tv)]))) pl (.lst (es3.map V.ref ++ [.ref tm]))) pn = some (.lst ws) := by rw [upd_ne npl, upd_ne (ne_of ep6 a16 (fun z => nomatch z))]; exact ep6
            have nb8 := nb_upd (o := .lst (es3.map V.ref ++ [.ref tm])) l17 (noTup_lst _) (nb_upd (o := .dT (kc ++ [(rk xb.2, .ref tv)])) a16 (noTup_dT _) (nb_sm s6 nb3))
            generalize upd (upd H6 pa (.dT (kc ++ [(rk xb.2, .ref tv)]))) pl (.lst (es3.map V.ref ++ [.ref tm])) = H8 at A1 et8 h38 ep8 nb8 ⊢
            have eg8 := A1.g
            walk_at "g"
            refine ⟨H0, t, dx, ah, pl, pa, pb, tm, S, us, most, _, _, ⟨xb.2, rr.dep + 1, some (rr.row, xb.1)⟩, rfl, A1, ok, hA, m4, hw, lu, List.mem_append_right _ (List.mem_singleton.mpr rfl), h38, fun hcn H9 s9 => ?_, fun p hcs v H9 s9 hR => ?_⟩
            · have hcn' : closeF (L' ++ [⟨xb.2, rr.dep + 1, some (rr.row, xb.1)⟩]) (rr.dep + 1) xb.2 = none := hcn
              rw [hcn'] at egB
              walk_at "g"
              refine ⟨_, _, _, _, rfl, ?_, A1.sm s9, s9 _ _ et8, s9 _ _ ep8, nb_sm s9 nb8⟩
              rw [hone, egB]
              rfl
            · have hcs' : closeF (L' ++ [⟨xb.2, rr.dep + 1, some (rr.row, xb.1)⟩]) (rr.dep + 1) xb.2 = some p := hcs
              rw [hcs'] at egB
              have egB' : gB most rr.row rr.dep (.on L') xb = .round (L' ++ [⟨xb.2, rr.dep + 1, some (rr.row, xb.1)⟩]) ⟨xb.2, rr.dep + 1, some (rr.row, xb.1)⟩ := egB
              rw [egB', gB_round] at hall
              have hR0 := hR.from0 A1.s
              obtain ⟨T9, hT9⟩ : ∃ T9, v = .ref T9 := by
                obtain ⟨T9, _, _, _, _, _, _, _, _, _, _, _, e, _⟩ := hR
                exact ⟨T9, e⟩
              subst hT9
              walk_at "g"
              exact q2 _ _ (gF_round hall most (by omega)) _ H9 (A1.s.trans s9) hR0
        · have hb3 : (L'.any fun r => decide (r.row = xb.2)) = true := by simpa using hb2
          walk_at "g"
          refine ⟨_, _, _, L', rfl, ?_, hX3, et3, ep3, nb3⟩
          rw [hone]
          unfold gB
          simp only [hb3, if_true]
    · have e : n = L.length := by omega
      have hg2 := gF_still hg (by omega) most (by omega)
      rw [e, List.take_length] at hXn
      walk_at "g"
      exact q3 L hg2 _ hXn
end
end Lw
set_option autoImplicit true
set_option pp.maxSteps 1200
set_option Elab.async false
set_option linter.all false
set_option maxRecDepth 100000
set_option maxHeartbeats 1000000
namespace Lw
open PySem PySem.Spec PyProof.Rows L2 Gk

local macro_rules | `(tactic| walk_at "hp") => `(tactic| first | assumption | exact upd_same | (refine' (upd_ne ?n).trans ?h; (case n => assumption); (case h => walk_at "hp")) | (refine' sm_get ?s ?h; (case s => assumption); (case h => walk_at "hp")))
local macro_rules | `(tactic| walk_at "sq") => `(tactic| first | assumption | (refine' sq_l ?h; (case h => walk_at "hp")) | (refine' sm_l ?s ?h; (case s => assumption); (case h => walk_at "sq")))
local macro_rules | `(tactic| walk_at "st") => `(tactic| first | assumption | (refine' sq_t ?h; (case h => walk_at "hp")) | (refine' sm_t ?s ?h; (case s => assumption); (case h => walk_at "st")))
local macro_rules | `(tactic| walk_at "bg") => `(tactic| first | assumption | (refine' BagOk.sm ?s ?h; (case s => assumption); (case h => walk_at "bg")))
local macro_rules | `(tactic| walk_at "sm") => `(tactic| first | assumption | exact Same.refl _ | (refine' Same.trans ?h ?s; (case s => assumption); (case h => walk_at "sm")))
local macro_rules | `(tactic| walk_at "hs") => `(tactic| first | assumption | (refine' HsAt.sm ?s ?h; (case s => assumption); (case h => walk_at "hs")))
local macro_rules | `(tactic| walk_at "ms") => `(tactic| first | assumption | (refine' MAt.sm ?s ?h; (case s => assumption); (case h => walk_at "ms")))
local macro_rules | `(tactic| walk_at "md") => `(tactic| first | assumption | (refine' MDk.sm ?s ?h; (case s => assumption); (case h => walk_at "md")))
local macro_rules | `(tactic| walk_at "dp") => `(tactic| first | assumption | (refine' dp_sm ?s ?h; (case s => assumption); (case h => walk_at "dp")))
local macro_rules | `(tactic| walk_at "sz") => `(tactic| first | decide | assumption | omega | (simp only [List.length_cons, List.length_nil, List.length_map, List.length_append]; omega))
local macro_rules | `(tactic| walk_at "g1") => `(tactic| first
  | with_reducible refine k_seq ?_
  | with_reducible refine k_itB ?_
  | with_reducible refine k_next ?_
  | with_reducible refine k_asg ?_
  | with_reducible refine k_name ?_
  | with_reducible refine k_ret ?_
  | with_reducible refine k_retN ?_
  | with_reducible refine k_drop ?_
  | with_reducible refine k_ifs ?_
  | with_reducible refine k_brk ?_
  | with_reducible refine k_cont ?_
  | with_reducible refine k_ipI ?_
  | with_reducible refine k_test ?_
  | with_reducible refine k_tB ?_
  | with_reducible refine k_bl ?_
  | with_reducible refine k_not ?_
  | with_reducible refine k_and ?_
  | with_reducible refine k_or ?_
  | with_reducible refine k_yes ?_
  | with_reducible refine k_true ?_
  | with_reducible refine k_false ?_
  | with_reducible refine k_nt ?_
  | with_reducible refine k_c ?_
  | with_reducible refine k_op ?_
  | with_reducible refine k_un ?_
  | with_reducible refine k_if ?_
  | with_reducible refine k_chain ?_
  | with_reducible refine k_nil ?_
  | with_reducible refine k_cons ?_
  | with_reducible refine k_cb ?_
  | with_reducible refine k_call ?_
  | with_reducible refine k_callS ?_
  | with_reducible refine k_andV ?_
  | with_reducible refine k_orV ?_
  | with_reducible refine k_notV ?_
  | with_reducible refine k_lst ?_
  | with_reducible refine k_tup ?_
  | with_reducible refine k_nopart ?_
  | with_reducible refine k_part ?_
  | with_reducible refine k_nInt ?_
  | with_reducible refine k_sl ?_
  | with_reducible refine k_bm ?_
  | with_reducible refine k_bm0 ?_
  | with_reducible refine k_nTyS ?_
  | with_reducible refine k_m1 ?_
  | with_reducible refine k_m0 ?_
  | with_reducible refine k_nStr ?_
  | with_reducible refine k_I0 ?_
  | with_reducible refine k_U ?_
  | with_reducible refine k_add_i ?_
  | with_reducible refine k_eq_i ?_
  | with_reducible refine k_eq_s ?_
  | with_reducible refine k_eq_b ?_
  | with_reducible refine k_ne_i ?_
  | with_reducible refine k_ne_s ?_
  | with_reducible refine k_ne_b ?_
  | with_reducible refine k_le_i ?_
  | with_reducible refine k_le_s ?_
  | with_reducible refine k_gnil ?_
  | with_reducible refine k_gcons ?_
  | with_reducible refine k_gsub ?_
  | with_reducible refine k_for ?_
  | with_reducible refine k_lc ?_
  | with_reducible refine k_rng1 ?_
  | with_reducible refine k_rng2 ?_
  | with_reducible refine k_itl ?_
  | with_reducible refine k_itt ?_
  | with_reducible refine k_its ?_
  | with_reducible refine k_ite ?_
  | with_reducible refine k_iteB ?_
  | with_reducible refine k_lrg2 ?_
  | with_reducible refine k_itz ?_
  | with_reducible refine k_nIts ?_
  | with_reducible refine k_inS ?_
  | with_reducible refine k_niS ?_
  | with_reducible refine k_mk ?_
  | with_reducible refine k_meth ?_
  | with_reducible refine k_fld ?_
  | with_reducible refine k_sfld ?_
  | with_reducible refine k_dg ?_
  | with_reducible refine k_dp ?_
  | with_reducible refine k_pr ?_
  | with_reducible refine k_pr0 ?_
  | with_reducible refine k_sg ?_
  | with_reducible refine k_lc2 ?_
  | with_reducible refine k_callN ?_
  | with_reducible refine k_callNS ?_
  | with_reducible refine k_par ?_
  | with_reducible refine k_nPar ?_
  | with_reducible refine k_isNn ?_
  | with_reducible refine k_isNr ?_
  | with_reducible refine k_ntNn ?_
  | with_reducible refine k_ntNr ?_
  | with_reducible refine k_min2 ?_
  | with_reducible refine k_max2 ?_
  | with_reducible refine k_intB ?_
  | with_reducible refine k_intI ?_
  | with_reducible refine k_isBl ?_
  | with_reducible refine k_ntBl ?_
  | ((with_reducible refine' k_var ?kv ?_); (case kv => exact rfl))
  | ((with_reducible refine' k_aug ?kv ?_); (case kv => exact rfl))
  | ((with_reducible refine' k_ix_l ?ks ?ki ?_); (case ks => walk_at "sq"); (case ki => exact rfl))
  | ((with_reducible refine' k_ix_t ?ks ?ki ?_); (case ks => walk_at "st"); (case ki => exact rfl))
  | ((with_reducible refine' k_len_l ?ks ?_); (case ks => walk_at "sq"))
  | ((with_reducible refine' k_len_t ?ks ?_); (case ks => walk_at "st"))
  | ((with_reducible refine' k_setL ?ks ?ki ?_); (case ks => walk_at "hp"); (case ki => exact rfl))
  | ((with_reducible refine' k_nTyL ?ks ?_); (case ks => walk_at "sq"))
  | ((with_reducible refine' k_nItl ?ks ?_); (case ks => walk_at "sq"))
  | ((with_reducible refine' k_nItt ?ks ?_); (case ks => walk_at "st"))
  | ((with_reducible refine' k_nIte ?ks ?_); (case ks => walk_at "sq"))
  | ((with_reducible refine' k_mul ?km ?_); (case km => first | exact Or.inr ⟨by decide, by decide⟩ | exact Or.inl ⟨by decide, by decide⟩))
  | ((with_reducible refine' k_I ?km ?_); (case km => first | assumption | decide | exact ⟨by decide, by decide +kernel⟩ | exact ⟨by decide, by decide, by decide⟩))
  | ((with_reducible refine' k_nMeth ?kp ?kl ?_); (case kp => walk_at "hp"); (case kl => exact rfl))
  | ((with_reducible refine' k_nFld ?kp ?kc ?kn ?kl ?_); (case kp => walk_at "hp"); (case kc => assumption); (case kn => assumption); (case kl => exact rfl))
  | ((with_reducible refine' k_nSFld ?kp ?kc ?kn ?kl ?_); (case kp => walk_at "hp"); (case kc => assumption); (case kn => assumption); (case kl => exact of_decide_eq_true rfl))
  | ((with_reducible refine' k_nDg ?kp ?kl ?_); (case kp => walk_at "hp"); (case kl => exact rfl))
  | ((with_reducible refine' k_nRng1 ?k1 ?k2 ?_); (case k1 => omega); (case k2 => omega))
  | ((with_reducible refine' k_nKw ?k1 ?k2 ?_); (case k1 => exact rfl); (case k2 => exact rfl))
  | ((with_reducible refine' k_hsm ?kh ?_); (case kh => walk_at "hs"))
  | ((with_reducible refine' k_nMethH ?kh ?kl ?_); (case kh => walk_at "hs"); (case kl => exact fun _ _ => rfl))
  | ((with_reducible refine' k_mLet ?kh ?_); (case kh => walk_at "ms"))
  | ((with_reducible refine' k_mChew ?kh ?_); (case kh => walk_at "ms"))
  | ((with_reducible refine' k_mPut ?kh ?_); (case kh => walk_at "ms"))
  | ((with_reducible refine' k_mMost ?kh ?_); (case kh => walk_at "ms"))
  | ((with_reducible refine' k_mCut ?kh ?_); (case kh => walk_at "ms"))
  | ((with_reducible refine' k_mTab ?kh ?_); (case kh => walk_at "md"))
  | ((with_reducible refine' k_mEats ?kh ?_); (case kh => walk_at "md"))
  | ((with_reducible refine' k_gtup ?ks ?kl ?_); (case ks => walk_at "st"); (case kl => exact rfl)))
local macro_rules | `(tactic| walk_at "g") => `(tactic| repeat (walk_at "g1"))
local macro_rules | `(tactic| walk_at "w1") => `(tactic| first
  | walk_at "g1"
  | ((with_reducible refine' k_decT ?kp ?_); (case kp => omega))
  | ((with_reducible refine' k_decF ?kp ?_); (case kp => omega))
  | ((with_reducible refine' k_decNT ?kp ?_); (case kp => omega))
  | ((with_reducible refine' k_decNF ?kp ?_); (case kp => omega)))
local macro_rules | `(tactic| walk_at "w") => `(tactic| repeat (walk_at "w1"))

local macro_rules | `(tactic| walk_at "g1") => `(tactic| first
  | with_reducible refine k_mkP ?_
  | with_reducible refine k_din ?_
  | with_reducible refine k_dni ?_
  | with_reducible refine k_sortF ?_
  | with_reducible refine k_sortL ?_
  | with_reducible refine k_itk ?_
  | with_reducible refine k_revL ?_)

local macro_rules | `(tactic| walk_at "g1") => `(tactic| first
  | with_reducible refine k_maxD ?_)

section
variable {P : Program} {w : World} {K : PySem.W.Frag} {mg : Str → Option Value} {base : Heap} {f : Addr} {fd : FuncData}
/-! ### ranks as a dict -/
abbrev rkV (st : Rk) : List (List Key × V) := st.map fun q => (rk q.1, V.int (q.2 : Nat))
theorem rkV_app (a b : Rk) : rkV (a ++ b) = rkV a ++ rkV b := List.map_append
theorem rkV_val (u : Rw) : ∀ st : Rk, valV (rkV st) (rk u) = (lkF st u).map fun (n : Nat) => V.int (n : Int)
  | [] => rfl
  | q :: st => by
    by_cases c : q.1 = u
    · rw [show rkV (q :: st) = (rk q.1, V.int (q.2 : Nat)) :: rkV st from rfl, valV_pos (by rw [c])]
      unfold lkF
      rw [List.find?_cons, decide_eq_true c]
      rfl
    · rw [show rkV (q :: st) = (rk q.1, V.int (q.2 : Nat)) :: rkV st from rfl, valV_neg (fun z => c (rk_inj z)), rkV_val u st]
      unfold lkF
      rw [List.find?_cons, decide_eq_false c]
theorem rkV_some {st : Rk} {u : Rw} : (valV (rkV st) (rk u)).isSome = (lkF st u).isSome := by rw [rkV_val, Option.isSome_map]
theorem nb_of {S : HsD} {L : List Came} {u : Rw} {xs : List (Bt × Rw)} (h : (u, xs) ∈ nbF S L) : xs = bitesF S u := by
  obtain ⟨r, _, e⟩ := List.mem_map.mp h
  have e1 : r.row = u := congrArg Prod.fst e
  have e2 : bitesF S r.row = xs := congrArg Prod.snd e
  rw [← e2, e1]
theorem rk1_nexts {S : HsD} {u : Rw} : (nextsF S u).length = (bitesF S u).length := List.length_map _
theorem maxN_int {l : List Nat} {m : Int} (h1 : m ∈ l.map fun (n : Nat) => (n : Int)) (h2 : ∀ z ∈ l.map (fun (n : Nat) => (n : Int)), z ≤ m) : m = ((maxN l : Nat) : Int) := by
  obtain ⟨k, hk, rfl⟩ := List.mem_map.mp h1
  rw [maxN_is hk fun x hx => by
    have := h2 _ (List.mem_map_of_mem hx)
    omega]
def spLongest (K : PySem.W.Frag) : Sp := fun vs H Q _ => ∃ (H0 : Hp) (t dx ah pl pa pb : Addr) (S : HsD) (L : List Came), vs = [.ref t] ∧ TrX K H0 H t dx ah pl pa pb S L (nbF S L) ∧ (rowsC L).Nodup ∧ L.length ≤ 400 ∧ (∀ r ∈ L, r.row.length ≤ 5000) ∧
  ∀ d H', H d = none → Same H H' → H' d = some (.dT (rkV (rksF S L))) → Q (.ref d) H'
theorem ok_Tree_longest (F : FnM K "longest" "Tree.longest" s_Tree_longest (He.ma K (He.ga K "Tree") "longest") fd) (hTr : TrC K) (me : Meth K (He.ga K "Tree") "longest" (He.ma K (He.ga K "Tree") "longest")) (f_all : mg "all" = none) (f_max : mg "max" = none) : CalleeM P w K mg base CX0 "Tree" "longest" 1 (spLongest K) := by
  refine ⟨hTr.c, me, fd, ["self"], F.ok sc_Tree_longest (fun vs H Q E h => ?hl) (fun cdv A outer s H vs Q E hr h => ⟨_, PSs.nox (pss_cons (ps_set (i := 1) sc_Tree_longest.nd rfl (by first | exact Or.inl rfl | exact Or.inr rfl) pe_dnewT)
      (pss_cons (ps_set (i := 2) sc_Tree_longest.nd rfl (by first | exact Or.inl rfl | exact Or.inr rfl) pe_bl)
      (pss_cons (ps_while PassesOwn.never (pt_val (pv 2)) (pss_cons (ps_set (i := 2) sc_Tree_longest.nd rfl (by first | exact Or.inl rfl | exact Or.inr rfl) pe_bl)
      (pss_one (ps_for PassesOwn.never rfl (pi_listK K (pe_fldK K (pv 0) rfl)) (pg_name (i := 3) sc_Tree_longest.nd rfl (by first | exact Or.inl rfl | exact Or.inr rfl)) (pss_cons (ps_setLc (i := 4) (own := [("bite", 5), ("there", 6)]) rfl sc_Tree_longest.nd rfl rfl (sw_true rfl rfl rfl (by decide +kernel)) (pi_listK K (pe_dget (hu_of hr) (pe_fldK K (pv 0) rfl) (pv 3) (fun _ _ => rfl))) (blkOk_by (N := ["self", "found", "fresh", "row", "some", "bite", "there"]) (sc := defScope s_Tree_longest) (by decide +kernel)) (fun _ _ _ _ _ => (pg_tupK K 2 (by rfl) (pgs_cons (pg_name (i := 5) sc_Tree_longest.nd rfl (by first | exact Or.inl rfl | exact Or.inr rfl)) (pgs_cons (pg_name (i := 6) sc_Tree_longest.nd rfl (by first | exact Or.inl rfl | exact Or.inr rfl)) pgs_nil)))) (fun _ _ _ _ _ => pts_nil) (fun _ _ _ _ _ => (pv 6)))
      (pss_one (ps_if (PW.pt (pw_and (pt_cmp (pc_dnotin (hu_of hr) (pv 3) (pv 1))) (pw_and1 (pt_val (pe_callB (cr_allK K) (by rfl) f_all (by decide +kernel) (pa_cons (pe_lc (own := [("there", 6)]) rfl sc_Tree_longest.nd (pi_listK K (pv 4)) (blkOk_by (N := ["self", "found", "fresh", "row", "some", "bite", "there"]) (sc := defScope s_Tree_longest) (by decide +kernel)) (fun _ _ _ _ _ => (pg_name (i := 6) sc_Tree_longest.nd rfl (by first | exact Or.inl rfl | exact Or.inr rfl))) (fun _ _ _ _ _ => pts_nil) (fun _ _ _ _ _ => (pe_cmp (pc_din (hu_of hr) (pv 6) (pv 1))))) pa_nil)))))) (pss_cons (ps_dput (hu_of hr) (pv 1) (pv 3) (pe_maxD K f_max (pe_lc (own := [("there", 6)]) rfl sc_Tree_longest.nd (pi_listK K (pv 4)) (blkOk_by (N := ["self", "found", "fresh", "row", "some", "bite", "there"]) (sc := defScope s_Tree_longest) (by decide +kernel)) (fun _ _ _ _ _ => (pg_name (i := 6) sc_Tree_longest.nd rfl (by first | exact Or.inl rfl | exact Or.inr rfl))) (fun _ _ _ _ _ => pts_nil) (fun _ _ _ _ _ => (pe_op (op_addK K) pe_int (pe_dget (hu_of hr) (pv 1) (pv 6) (fun _ _ => rfl))))) pe_int hr.units) rfl)
      (pss_one (ps_set (i := 2) sc_Tree_longest.nd rfl (by first | exact Or.inl rfl | exact Or.inr rfl) pe_bl))) pss_nil)))))))
      (pss_one (ps_ret (pv 1)))))), ?rd⟩), F.bindsN fun _ _ _ _ _ _ us hl => match us, hl with | [_], _ => rfl⟩
  case hl =>
    obtain ⟨H0, t, dx, ah, pl, pa, pb, S, L, rfl, _⟩ := h
    rfl
  case rd =>
    obtain ⟨H0, t, dx, ah, pl, pa, pb, S, L, rfl, hX, nd, lL, lr, q⟩ := h
    obtain ⟨hc, n1, n2, n3, n4⟩ := id hTr
    obtain ⟨es, l1, l2⟩ := hX.l
    obtain ⟨kb, b1, b2⟩ := hX.b
    have eg := hX.g
    have les : es.length = L.length := by have := ke_len l2; rwa [rowsC, List.length_map] at this
    have lrows : (rowsC L).length = L.length := List.length_map _
    refine k_start (σ' := [some _, none, none, none, none, none, none]) rfl ?_
    walk_at "g"
    refine k_dnewT (fun d H1 nd1 s1 e1 => ?_)
    walk_at "g"
    refine k_while (fun μ σ H' => ∃ (n : Nat) (b : Bool) (y3 y4 y5 y6 : Option V), σ = [some (.ref t), some (.ref d), some (.bl b), y3, y4, y5, y6] ∧ Same H H' ∧ H' d = some (.dT (rkV (itF S (rowsC L) n))) ∧ (b = false → passF S (rowsC L) (itF S (rowsC L) n) = itF S (rowsC L) n) ∧ μ = if b then L.length + 1 - (itF S (rowsC L) n).length else 0) ⟨_, 0, true, _, _, _, _, rfl, s1, e1, (fun z => nomatch z), rfl⟩ (fun μ σ H' h => ?hw)
    obtain ⟨n, b, y3, y4, y5, y6, rfl, ss, ed, hb, rfl⟩ := h
    have hok := it_ok S (rowsC L) n
    have hlen := hok.len
    generalize hst : itF S (rowsC L) n = st0 at ed hb hok hlen
    cases b with
    | false =>
      walk_at "g"
      refine k_turnF ?_
      walk_at "g"
      have e := it_same (S := S) (rows := rowsC L) (n := n) (by rw [hst]; exact hb rfl)
      rw [hst] at e
      rw [e] at ed
      exact q d H' nd1 ss ed
    | true =>
      walk_at "g"
      refine k_turnT ?_
      have l1' := ss _ _ l1
      have egS := ss _ _ eg
      walk_at "g"
      refine k_nFor (walk_list (xs := es.map V.ref)) (fun j σ H2 => ∃ (y3 y4 y5 y6 : Option V) (st : Rk), σ = [some (.ref t), some (.ref d), some (.bl (decide (st0.length < st.length))), y3, y4, y5, y6] ∧ Same H H2 ∧ H2 d = some (.dT (rkV st)) ∧ st = ((rowsC L).take j).foldl (rk1 S) st0 ∧ RkOk (rowsC L) st) ⟨_, _, _, _, st0, by rw [decide_eq_false (Nat.lt_irrefl _)]; rfl, ss, ed, rfl, hok⟩ (fun j σ H2 _ h => by
        obtain ⟨_, _, _, _, _, _, s, _⟩ := h
        exact sq_l (s _ _ l1)) (fun j x σ Ha Hb hj h hy => ?ht) (fun σ H2 h => ?he)
      case he =>
        obtain ⟨y3, y4, y5, y6, st, rfl, s2, e2, est, hok2⟩ := h
        rw [List.length_map, les, ← lrows, List.take_length] at est
        have est' : st = itF S (rowsC L) (n + 1) := by rw [est, ← hst]; rfl
        have hlen2 := hok2.len
        obtain ⟨ex, hex⟩ := passF_pre S (rowsC L) st0
        have hp : st = st0 ++ ex := est.trans hex
        walk_at "g"
        refine ⟨(if decide (st0.length < st.length) then L.length + 1 - st.length else 0), ?_, n + 1, _, _, _, _, _, rfl, s2, by rw [← est']; exact e2, fun hbf => ?_, by rw [← est']⟩
        · show _ < L.length + 1 - st0.length
          by_cases c : st0.length < st.length
          · rw [decide_eq_true c]
            show L.length + 1 - st.length < _
            omega
          · rw [decide_eq_false c]
            show 0 < _
            omega
        · have c := of_decide_eq_false hbf
          have hx : ex = [] := List.length_eq_zero_iff.mp (by rw [hp, List.length_append] at c; omega)
          have e0 : st = st0 := by rw [hp, hx, List.append_nil]
          rw [← est', e0]
          exact (est.symm.trans e0 : passF S (rowsC L) st0 = st0)
      case ht =>
        obtain ⟨y3, y4, y5, y6, st, rfl, s2, e2, est, hok2⟩ := h
        obtain ⟨rfl, hv⟩ := hy
        obtain ⟨te, hte, rfl⟩ := map_get hv
        obtain ⟨u, hu, etp⟩ := ke_get (ke_sm s2 l2) hte
        have hum := List.mem_of_getElem? hu
        have hlen2 := hok2.len
        have hX2 := hX.sm s2
        have eg2 := hX2.g
        have b12 := s2 _ _ b1
        obtain ⟨pn, ws, xs, hxs, hval, npl, ep, nb⟩ := kb_val (kb_sm s2 b2) (u := u) (by rw [nbF_keys]; exact hum)
        rw [nb_of hxs] at nb
        have lws := Paired.length nb
        have fl : (bitesF S u).length ≤ 10000 := by
          obtain ⟨r, hr, rfl⟩ := List.mem_map.mp hum
          have := lr r hr
          exact Nat.le_trans (flat_len (S := S) (us := r.row) r.row.length) (by omega)
        have tk : (rowsC L).take (j + 1) = (rowsC L).take j ++ [u] := take_more hu
        have hnext : ((rowsC L).take (j + 1)).foldl (rk1 S) st0 = rk1 S st u := by rw [tk, List.foldl_append, ← est]; rfl
        have lle : st0.length ≤ st.length := by
          rw [est]
          obtain ⟨ex, e⟩ := passF_pre S ((rowsC L).take j) st0
          rw [show ((rowsC L).take j).foldl (rk1 S) st0 = st0 ++ ex from e, List.length_append]
          omega
        walk_at "g"
        refine k_nDgT b12 (k := rk u) (by rw [rk_kV]; exact etp) hval ?_
        walk_at "g"
        refine k_nLcD (walk_list (xs := ws)) (fun H' s => sq_l (s _ _ ep)) (fun i zs H3 => ∃ es' : List Addr, zs = es'.map V.ref ∧ KE_ H3 es' ((nextsF S u).take i)) (fun i zs Ha Hb s h => ?hm) ⟨[], rfl, .nil⟩ (fun i zs Ha hi h => ?hz) (fun i x p Ha Hb zs Kp Ks hi hp sa ea hzs hy hKp hKs => ?ht2) (fun po H3 zs hp sb eb hzs => ?he2)
        case hm =>
          obtain ⟨es', h1, h2⟩ := h
          exact ⟨es', h1, ke_sm s h2⟩
        case hz =>
          obtain ⟨es', rfl, h2⟩ := h
          have := ke_len h2
          rw [List.length_take] at this
          rw [List.length_map]
          omega
        case ht2 =>
          obtain ⟨rfl, hv2⟩ := hy
          obtain ⟨x, hx1, T, tb, tm, rfl, h1, h2, h3⟩ := paired_at nb hv2
          have h1a := sm_t sa h1
          walk_at "g"
          refine ⟨rfl, ?_⟩
          walk_at "g"
          obtain ⟨es', rfl, h2'⟩ := hzs
          have hnx : (nextsF S u)[i]? = some x.2 := by unfold nextsF; rw [List.getElem?_map, hx1]; rfl
          have e3 := sa _ _ h3
          refine hKp _ _ (Same.refl _) ⟨es' ++ [tm], by rw [List.map_append]; rfl, ?_⟩
          rw [take_more hnx]
          exact ke_app (by rw [del_ne (ne_of e3 ea (fun z => nomatch z))]; exact e3) h2'
        case he2 =>
          obtain ⟨es', rfl, hE⟩ := hzs
          rw [lws, ← rk1_nexts (S := S) (u := u), List.take_length] at hE
          have les' := ke_len hE
          have ln : (nextsF S u).length ≤ 10000 := by rw [rk1_nexts]; exact fl
          have s3 := s2.trans sb
          have e23 := sb _ _ e2
          have et3 := sb _ _ etp
          have key : ∀ v, (valV (rkV st) (rk v)).isSome = (lkF st v).isSome := fun v => rkV_some
          walk_at "g"
          refine k_nDiT e23 (k := rk u) (by rw [rk_kV]; exact et3) ?_
          rw [key]
          have done : ∀ {y4' y5' y6' : Option V} {H'' : Hp}, rk1 S st u = st → Same H H'' → H'' d = some (.dT (rkV st)) → (∃ (y3 y4 y5 y6 : Option V) (st' : Rk), [some (V.ref t), some (V.ref d), some (V.bl (decide (st0.length < st.length))), some (V.ref te), y4', y5', y6'] = [some (.ref t), some (.ref d), some (.bl (decide (st0.length < st'.length))), y3, y4, y5, y6] ∧ Same H H'' ∧ H'' d = some (.dT (rkV st')) ∧ st' = ((rowsC L).take (j + 1)).foldl (rk1 S) st0 ∧ RkOk (rowsC L) st') := fun e s e' => ⟨_, _, _, _, st, rfl, s, e', by rw [hnext, e], hok2⟩
          cases hk : (lkF st u).isSome with
          | true =>
            have e0 : rk1 S st u = st := by
              unfold rk1
              rw [if_neg (fun z => by
                have := (Bool.and_eq_true_iff.mp z).1
                cases e : lkF st u with
                | none => rw [e] at hk; cases hk
                | some m => rw [e] at this; cases this)]
            walk_at "g"
            refine k_bF rfl ?_
            walk_at "g"
            exact done e0 s3 e23
          | false =>
            walk_at "g"
            refine k_bT rfl ?_
            walk_at "g"
            refine k_nLc (walk_list (xs := es'.map V.ref)) (fun H' s => sq_l (s _ _ eb)) (fun i ws => ws = ((nextsF S u).take i).map fun v => V.bl (lkF st v).isSome) rfl (fun i ws hi hw => ?hz3) (fun i x Hc Hd ws3 Kp Ks hi sc hws hy3 hKp hKs => ?ht3) (fun p3 H4 ws3 n3 s4 e4 hws3 => ?he3)
            case hz3 =>
              rw [hw, List.length_map, List.length_take]
              omega
            case ht3 =>
              obtain ⟨rfl, hv3⟩ := hy3
              obtain ⟨tm, htm, rfl⟩ := map_get hv3
              obtain ⟨v, hv4, etm⟩ := ke_get hE htm
              walk_at "g"
              refine ⟨rfl, ?_⟩
              walk_at "g"
              refine k_nDiT (sc _ _ e23) (k := rk v) (by rw [rk_kV]; exact sc _ _ etm) ?_
              rw [key]
              refine hKp _ _ (Same.refl _) ?_
              rw [hws, take_more hv4, List.map_append]
              rfl
            case he3 =>
              rw [List.length_map, les', List.take_length] at hws3
              have s34 := s3.trans s4
              have e24 := s4 _ _ e23
              have et4 := s4 _ _ et3
              have eb4 := s4 _ _ eb
              have hE4 := ke_sm s4 hE
              walk_at "g"
              refine k_all (bs := (nextsF S u).map fun v => (lkF st v).isSome) (sq_l (by rw [e4, hws3, List.map_map]; rfl)) ?_
              rw [show ((nextsF S u).map fun v => (lkF st v).isSome).all id = (nextsF S u).all fun v => (lkF st v).isSome by rw [List.all_map]; rfl]
              cases ha : (nextsF S u).all fun v => (lkF st v).isSome with
              | false =>
                have e0 : rk1 S st u = st := by
                  unfold rk1
                  rw [ha, Bool.and_false, if_neg Bool.false_ne_true]
                walk_at "g"
                exact done e0 s34 e24
              | true =>
                have hall := List.all_eq_true.mp ha
                have e0 : rk1 S st u = st ++ [(u, maxN ((nextsF S u).map fun v => 1 + (lkF st v).getD 0))] := by
                  unfold rk1
                  have hn : (lkF st u).isNone = true := by
                    cases e : lkF st u with
                    | none => rfl
                    | some m => rw [e] at hk; cases hk
                  rw [ha, hn, Bool.and_true, if_pos rfl]
                walk_at "g"
                refine k_nLc (walk_list (xs := es'.map V.ref)) (fun H' s => sq_l (s _ _ eb4)) (fun i ws => ws = ((nextsF S u).take i).map fun v => V.int ((1 + (lkF st v).getD 0 : Nat) : Int)) rfl (fun i ws hi hw => ?hz5) (fun i x Hc Hd ws5 Kp Ks hi sc hws hy3 hKp hKs => ?ht5) (fun p5 H5 ws5 n5 s5 e5 hws5 => ?he5)
                case hz5 =>
                  rw [hw, List.length_map, List.length_take]
                  omega
                case ht5 =>
                  obtain ⟨rfl, hv3⟩ := hy3
                  obtain ⟨tm, htm, rfl⟩ := map_get hv3
                  obtain ⟨v, hv4, etm⟩ := ke_get hE4 htm
                  have hsm := hall v (List.mem_of_getElem? hv4)
                  obtain ⟨m, hm⟩ := Option.isSome_iff_exists.mp hsm
                  walk_at "g"
                  refine ⟨rfl, ?_⟩
                  walk_at "g"
                  refine k_nDgT (sc _ _ e24) (k := rk v) (v := .int (m : Nat)) (by rw [rk_kV]; exact sc _ _ etm) (by rw [rkV_val, hm]; rfl) ?_
                  walk_at "g"
                  refine hKp _ _ (Same.refl _) ?_
                  rw [hws, take_more hv4, List.map_append, List.map_cons, List.map_nil, hm, show ((1 + (some m).getD 0 : Nat) : Int) = 1 + (m : Int) by show ((1 + m : Nat) : Int) = _; omega]
                case he5 =>
                  rw [List.length_map, les', List.take_length] at hws5
                  have s35 := s34.trans s5
                  have e25 := s5 _ _ e24
                  have et5 := s5 _ _ et4
                  have egm : st.length < 10000 := by omega
                  walk_at "g"
                  have put : ∀ {R : Hp → Prop}, (∀ H6, Same H H6 → H6 d = some (.dT (rkV (rk1 S st u))) → R H6) → nDp (.ref d) (.ref te) (.int ((maxN ((nextsF S u).map fun v => 1 + (lkF st v).getD 0) : Nat) : Int)) H5 R := fun hR => by
                    refine k_nDpTz e25 (k := rk u) (by rw [rk_kV]; exact et5) (by rw [List.length_map]; omega) (hR _ (sm_mut s35 nd1) ?_)
                    have hnone : valV (rkV st) (rk u) = none := by
                      have := key u
                      rw [hk] at this
                      cases e : valV (rkV st) (rk u) with
                      | none => rfl
                      | some z => rw [e] at this; cases this
                    rw [upd_same, putK_new _ hnone, e0, rkV_app]
                    rfl
                  have last : ∀ (m : Int), m = ((maxN ((nextsF S u).map fun v => 1 + (lkF st v).getD 0) : Nat) : Int) → ∀ {R : Hp → Prop}, (∀ H6, Same H H6 → H6 d = some (.dT (rkV (rk1 S st u))) → R H6) → nDp (.ref d) (.ref te) (.int m) H5 R := fun m e => by
                    rw [e]
                    exact put
                  have lenlt : decide (st0.length < (rk1 S st u).length) = true := decide_eq_true (by rw [e0, List.length_append]; show st0.length < st.length + 1; omega)
                  refine k_nMaxD (ns := ((nextsF S u).map fun v => 1 + (lkF st v).getD 0).map fun (n : Nat) => (n : Int)) (sq_l (by rw [e5, hws5, List.map_map, List.map_map]; rfl)) (fun hnil => ?_) (fun m hm1 hm2 => ?_)
                  · have hn0 : nextsF S u = [] := List.map_eq_nil_iff.mp (List.map_eq_nil_iff.mp hnil)
                    walk_at "g"
                    refine last 0 (by rw [hn0]; rfl) (fun H6 s6 e6 => ?_)
                    walk_at "g"
                    exact ⟨_, _, _, _, rk1 S st u, by rw [lenlt]; rfl, s6, e6, hnext.symm, rk1_ok hok2 hum⟩
                  · walk_at "g"
                    refine last m (maxN_int hm1 hm2) (fun H6 s6 e6 => ?_)
                    walk_at "g"
                    exact ⟨_, _, _, _, rk1 S st u, by rw [lenlt]; rfl, s6, e6, hnext.symm, rk1_ok hok2 hum⟩
/-! ### what can come of rows that came has come -/
theorem gBs_all {most : Nat} {q : Rw} {d : Nat} : ∀ (xs : List (Bt × Rw)) {L L' : List Came}, xs.foldl (gB most q d) (.on L) = .on L' → (∃ ex, L' = L ++ ex) ∧ ∀ x ∈ xs, x.2 ∈ rowsC L'
  | [], L, L', h => by
    cases h
    exact ⟨⟨[], (List.append_nil _).symm⟩, fun x hx => nomatch hx⟩
  | x :: xs, L, L', h => by
    rw [List.foldl_cons] at h
    cases e : gB most q d (.on L) x with
    | far => rw [e, gB_far] at h; cases h
    | round L2 r => rw [e, gB_round] at h; cases h
    | on L2 =>
      rw [e] at h
      obtain ⟨⟨ex, e1⟩, h2⟩ := gBs_all xs h
      have h3 : (∃ ex, L2 = L ++ ex) ∧ x.2 ∈ rowsC L2 := by
        have e' : (if (L.any fun r => decide (r.row = x.2)) = true then GoR.on L else if most ≤ L.length then GoR.far else
          if (closeF (L ++ [⟨x.2, d + 1, some (q, x.1)⟩]) (d + 1) x.2).isSome = true then GoR.round (L ++ [⟨x.2, d + 1, some (q, x.1)⟩]) ⟨x.2, d + 1, some (q, x.1)⟩ else GoR.on (L ++ [⟨x.2, d + 1, some (q, x.1)⟩])) = .on L2 := e
        by_cases c : (L.any fun r => decide (r.row = x.2)) = true
        · rw [if_pos c] at e'
          cases e'
          refine ⟨⟨[], (List.append_nil _).symm⟩, ?_⟩
          obtain ⟨r, hr, z⟩ := List.any_eq_true.mp c
          exact List.mem_map.mpr ⟨r, hr, of_decide_eq_true z⟩
        · rw [if_neg c] at e'
          by_cases c2 : most ≤ L.length
          · rw [if_pos c2] at e'
            cases e'
          · rw [if_neg c2] at e'
            split at e'
            · cases e'
            · cases e'
              exact ⟨⟨_, rfl⟩, List.mem_map.mpr ⟨_, List.mem_append_right _ (List.mem_singleton.mpr rfl), rfl⟩⟩
      obtain ⟨⟨ex2, e2⟩, h4⟩ := h3
      refine ⟨⟨ex2 ++ ex, by rw [e1, e2, List.append_assoc]⟩, fun y hy => ?_⟩
      rcases List.mem_cons.mp hy with rfl | hy
      · rw [e1, rowsC, List.map_append]
        exact List.mem_append_left _ h4
      · exact h2 y hy
theorem gF_closed {S : HsD} {us : Rw} {most : Nat} : ∀ n {L : List Came}, gF S us most n = .on L → ∀ i r, i < n → L[i]? = some r → ∀ x ∈ bitesF S r.row, x.2 ∈ rowsC L
  | 0, L, _, i, r, hi, _ => absurd hi (Nat.not_lt_zero i)
  | n + 1, L', h, i, r, hi, hr => by
    rw [gF_succ] at h
    cases e : gF S us most n with
    | far => rw [e] at h; cases h
    | round L2 r2 => rw [e] at h; cases h
    | on L =>
      rw [e] at h
      have h' : (match L[n]? with | none => GoR.on L | some r => (bitesF S r.row).foldl (gB most r.row r.dep) (.on L)) = .on L' := h
      cases e2 : L[n]? with
      | none =>
        rw [e2] at h'
        cases h'
        have hi2 : i < n := by
          have h1 := (List.getElem?_eq_some_iff.mp hr).1
          have h2 := List.getElem?_eq_none_iff.mp e2
          omega
        exact gF_closed n e i r hi2 hr
      | some q =>
        rw [e2] at h'
        obtain ⟨⟨ex, hex⟩, hall⟩ := gBs_all (bitesF S q.row) h'
        have hn := (List.getElem?_eq_some_iff.mp e2).1
        have hr2 : L[i]? = some r := by
          rw [hex, List.getElem?_append_left (by omega)] at hr
          exact hr
        by_cases c : i = n
        · subst c
          rw [e2] at hr2
          cases hr2
          exact hall
        · intro x hx
          have := gF_closed n e i r (by omega) hr2 x hx
          rw [hex, rowsC, List.map_append]
          exact List.mem_append_left _ this
/-- where not all is ranked, an unranked row has an unranked row behind it -/
theorem pass_fix {S : HsD} : ∀ {rows : List Rw} {st : Rk}, passF S rows st = st → ∀ u ∈ rows, rk1 S st u = st
  | v :: rows, st, h, u, hu => by
    obtain ⟨e1, h1⟩ := rk1_pre S st v
    obtain ⟨e2, h2⟩ := passF_pre S rows (rk1 S st v)
    have h' : passF S rows (rk1 S st v) = st := h
    rw [h2, h1, List.append_assoc] at h'
    have hz : e1 ++ e2 = [] := by
      have := congrArg List.length h'
      rw [List.length_append] at this
      exact List.length_eq_zero_iff.mp (by omega)
    have hz1 := (List.append_eq_nil_iff.mp hz).1
    have e0 : rk1 S st v = st := by rw [h1, hz1, List.append_nil]
    rcases List.mem_cons.mp hu with rfl | hu
    · exact e0
    · exact pass_fix (by have h3 : passF S rows (rk1 S st v) = st := h; rw [e0] at h3; exact h3) u hu
theorem fix_next {S : HsD} {rows : List Rw} {st : Rk} (h : passF S rows st = st) {u : Rw} (hu : u ∈ rows) (hn : lkF st u = none) : ∃ x ∈ bitesF S u, lkF st x.2 = none := by
  have e := pass_fix h u hu
  unfold rk1 at e
  by_cases c : ((lkF st u).isNone && (nextsF S u).all fun v => (lkF st v).isSome) = true
  · rw [if_pos c] at e
    have := congrArg List.length e
    rw [List.length_append] at this
    have h1 : ([(u, maxN ((nextsF S u).map fun v => 1 + (lkF st v).getD 0))] : Rk).length = 1 := rfl
    omega
  · rw [hn] at c
    have c' : ¬ ((nextsF S u).all fun v => (lkF st v).isSome) = true := fun z => c (by rw [z]; rfl)
    rw [List.all_eq_true] at c'
    apply Classical.byContradiction
    intro hno
    refine c' fun v hv => ?_
    obtain ⟨x, hx, rfl⟩ := List.mem_map.mp hv
    cases e2 : lkF st x.2 with
    | none => exact absurd ⟨x, hx, e2⟩ hno
    | some m => rfl
/-! ### a ring -/
def spRing (K : PySem.W.Frag) : Sp := fun vs H Q _ => ∃ (H0 : Hp) (t dx ah pl pa pb d : Addr) (S : HsD) (us : Rw) (most : Nat) (L : List Came) (st : Rk), vs = [.ref t, .ref d] ∧ TrX K H0 H t dx ah pl pa pb S L (nbF S L) ∧ HsOk S ∧ OnOk S us most L ∧ most ≤ 400 ∧ AllW S us ∧ us.length ≤ 100 ∧ (∀ r ∈ L, ∀ x ∈ bitesF S r.row, x.2 ∈ rowsC L) ∧ H d = some (.dT (rkV st)) ∧ passF S (rowsC L) st = st ∧ RkOk (rowsC L) st ∧ st.length ≠ L.length ∧
  ∀ v H', Same H H' → RndAt K H H' v S us most → Q v H'
theorem dpall_drop {H : Hp} : ∀ {vs : List V} {ds : List PyData} (_ : DpAll K H vs ds) (n : Nat), DpAll K H (vs.drop n) (ds.drop n)
  | _, _, .nil, n => by rw [List.drop_nil, List.drop_nil]; exact .nil
  | _, _, .cons h t, 0 => .cons h t
  | _, _, .cons h t, n + 1 => dpall_drop t n
theorem lkF_mem {st : Rk} {u : Rw} {n : Nat} (h : lkF st u = some n) : (u, n) ∈ st := by
  unfold lkF at h
  obtain ⟨q, h1, h2⟩ := Option.map_eq_some_iff.mp h
  have h3 := List.mem_of_find?_eq_some h1
  have h4 : q.1 = u := by simpa using List.find?_some h1
  rw [← h4, ← h2]
  exact h3
theorem ok_Tree_ring (F : FnM K "ring" "Tree.ring" s_Tree_ring (He.ma K (He.ga K "Tree") "ring") fd) (hTr : TrC K) (me : Meth K (He.ga K "Tree") "ring" (He.ma K (He.ga K "Tree") "ring")) (f_len : mg "len" = none) (c_Tree_way : CalleeM P w K mg base CX0 "Tree" "way" 1 (spTWay K)) : CalleeM P w K mg base CX0 "Tree" "ring" 2 (spRing K) := by
  refine ⟨hTr.c, me, fd, ["self", "known"], F.ok sc_Tree_ring (fun vs H Q E h => ?hl) (fun cdv A outer s H vs Q E hr h => ⟨_, PSs.nox (pss_cons (ps_set (i := 2) sc_Tree_ring.nd rfl (by first | exact Or.inl rfl | exact Or.inr rfl) (pe_ix (ix_k K) (pe_lc (own := [("row", 6)]) rfl sc_Tree_ring.nd (pi_listK K (pe_fldK K (pv 0) rfl)) (blkOk_by (N := ["self", "known", "here", "met", "steps", "bite", "row", "there"]) (sc := defScope s_Tree_ring) (by decide +kernel)) (fun _ _ _ _ _ => (pg_name (i := 6) sc_Tree_ring.nd rfl (by first | exact Or.inl rfl | exact Or.inr rfl))) (fun _ _ _ _ _ => (pts_one (pt_cmp (pc_dnotin (hu_of hr) (pv 6) (pv 1))))) (fun _ _ _ _ _ => (pv 6))) pe_int (fun _ _ => rfl)))
      (pss_cons (ps_set (i := 3) sc_Tree_ring.nd rfl (by first | exact Or.inl rfl | exact Or.inr rfl) pe_dnewT)
      (pss_cons (ps_set (i := 4) sc_Tree_ring.nd rfl (by first | exact Or.inl rfl | exact Or.inr rfl) (pe_lst pa_nil))
      (pss_cons (ps_while PassesOwn.never (pt_cmp (pc_dnotin (hu_of hr) (pv 2) (pv 3))) (pss_cons (ps_dput (hu_of hr) (pv 3) (pv 2) (pe_callB (call_lenK K) (by rfl) f_len PySem.boot_len (pa_cons (pv 4) pa_nil)) rfl)
      (pss_cons (ps_asg (pe_ix (ix_k K) (pe_lc (own := [("bite", 5), ("there", 7)]) rfl sc_Tree_ring.nd (pi_listK K (pe_dget (hu_of hr) (pe_fldK K (pv 0) rfl) (pv 2) (fun _ _ => rfl))) (blkOk_by (N := ["self", "known", "here", "met", "steps", "bite", "row", "there"]) (sc := defScope s_Tree_ring) (by decide +kernel)) (fun _ _ _ _ _ => (pg_tupK K 2 (by rfl) (pgs_cons (pg_name (i := 5) sc_Tree_ring.nd rfl (by first | exact Or.inl rfl | exact Or.inr rfl)) (pgs_cons (pg_name (i := 7) sc_Tree_ring.nd rfl (by first | exact Or.inl rfl | exact Or.inr rfl)) pgs_nil)))) (fun _ _ _ _ _ => (pts_one (pt_cmp (pc_dnotin (hu_of hr) (pv 7) (pv 1))))) (fun _ _ _ _ _ => (pe_tup (pa_cons (pv 5) (pa_cons (pv 7) pa_nil))))) pe_int (fun _ _ => rfl)) (pg_tupK K 2 (by rfl) (pgs_cons (pg_name (i := 5) sc_Tree_ring.nd rfl (by first | exact Or.inl rfl | exact Or.inr rfl)) (pgs_cons (pg_name (i := 2) sc_Tree_ring.nd rfl (by first | exact Or.inl rfl | exact Or.inr rfl)) pgs_nil))))
      (pss_one (ps_expr (pe_bmK K PySem.F.plainAttrs_list PySem.F.slot_list_append PySem.F.type_list_append mt_append (pv 4) (pa_cons (pv 5) pa_nil)))))))
      (pss_one (ps_ret (pe_tup (pa_cons pe_str (pa_cons (pe_mt1 c_Tree_way hr (pv 0) (pa_cons (pv 2) (pa_cons (pe_ix (ix_k K) (pe_fldK K (pv 0) rfl) pe_int (fun _ _ => rfl)) pa_nil)) pass0) (pa_cons (pe_slice (sl_k K) (pv 4) (po_some (pe_dget (hu_of hr) (pv 3) (pv 2) (fun _ _ => rfl))) po_none) (pa_cons (pe_lst pa_nil) (pa_cons (pe_lst pa_nil) pa_nil)))))))))))), ?rd⟩), F.bindsN fun _ _ _ _ _ _ us hl => match us, hl with | [_, _], _ => rfl⟩
  case hl =>
    obtain ⟨H0, t, dx, ah, pl, pa, pb, d, S, us, most, L, st, rfl, _⟩ := h
    rfl
  case rd =>
    obtain ⟨H0, t, dx, ah, pl, pa, pb, d, S, us, most, L, st, rfl, hX, ok, hL, hm, hw, lu, hcl, hd, hfix, hok, hne, q⟩ := h
    obtain ⟨hc, n1, n2, n3, n4⟩ := id hTr
    have hrows := hL.rows ok hm hw lu
    have lL := hL.l
    have lrows : (rowsC L).length = L.length := List.length_map _
    obtain ⟨es, l1, l2⟩ := hX.l
    obtain ⟨kb, b1, b2⟩ := hX.b
    have eg := hX.g
    have les : es.length = L.length := by have := ke_len l2; rwa [rowsC, List.length_map] at this
    have key : ∀ (s : Rk) v, (valV (rkV s) (rk v)).isSome = (lkF s v).isSome := fun s v => rkV_some
    refine k_start (σ' := [some _, some _, none, none, none, none, none, none]) rfl ?_
    walk_at "g"
    refine k_nLcD (walk_list (xs := es.map V.ref)) (fun H' s => sq_l (s _ _ l1)) (fun i zs H3 => ∃ es' : List Addr, zs = es'.map V.ref ∧ KE_ H3 es' (((rowsC L).take i).filter fun v => (lkF st v).isNone)) (fun i zs Ha Hb s h => ?hm) ⟨[], rfl, .nil⟩ (fun i zs Ha hi h => ?hz) (fun i x p Ha Hb zs Kp Ks hi hp sa ea hzs hy hKp hKs => ?ht) (fun po H1 zs hp s1 e1 hzs => ?he)
    case hm =>
      obtain ⟨es', h1, h2⟩ := h
      exact ⟨es', h1, ke_sm s h2⟩
    case hz =>
      obtain ⟨es', rfl, h2⟩ := h
      have h3 := ke_len h2
      rw [List.length_map] at hi
      have := Nat.le_trans (Nat.le_of_eq h3) (List.length_filter_le _ _)
      rw [List.length_take] at this
      rw [List.length_map]
      omega
    case ht =>
      obtain ⟨rfl, hv⟩ := hy
      obtain ⟨te, hte, rfl⟩ := map_get hv
      obtain ⟨u, hu, etp⟩ := ke_get l2 hte
      obtain ⟨es', rfl, hE⟩ := hzs
      have et := sa _ _ etp
      walk_at "g"
      refine ⟨rfl, ?_⟩
      walk_at "g"
      refine k_nDiT (sa _ _ hd) (k := rk u) (by rw [rk_kV]; exact et) ?_
      rw [key]
      cases hk : lkF st u with
      | none =>
        walk_at "g"
        refine k_bT rfl ?_
        walk_at "g"
        refine hKp _ _ (Same.refl _) ⟨es' ++ [te], by rw [List.map_append]; rfl, ?_⟩
        rw [take_more hu, List.filter_append, List.filter_cons_of_pos (p := fun v => (lkF st v).isNone) (by show (lkF st u).isNone = true; rw [hk]; rfl)]
        exact ke_app (by rw [del_ne (ne_of et ea (fun z => nomatch z))]; exact et) hE
      | some m =>
        walk_at "g"
        refine k_bF rfl ?_
        walk_at "g"
        refine hKs _ (Same.refl _) ⟨es', rfl, ?_⟩
        rw [take_more hu, List.filter_append, List.filter_cons_of_neg (p := fun v => (lkF st v).isNone) (by show ¬ (lkF st u).isNone = true; rw [hk]; exact Bool.false_ne_true)]
        simpa using hE
    case he =>
      obtain ⟨es', rfl, hE⟩ := hzs
      rw [List.length_map, les, ← lrows, List.take_length] at hE
      obtain ⟨t0, es'', rfl⟩ : ∃ t0 es'', es' = t0 :: es'' := by
        cases es' with
        | nil =>
          exfalso
          have hnil : ((rowsC L).filter fun v => (lkF st v).isNone) = [] := List.length_eq_zero_iff.mp (ke_len hE).symm
          have hall : ∀ u ∈ rowsC L, u ∈ st.map (·.1) := fun u hu => by
            apply Classical.byContradiction
            intro z
            have : u ∈ (rowsC L).filter fun v => (lkF st v).isNone := List.mem_filter.mpr ⟨hu, lkF_none.mpr z⟩
            rw [hnil] at this
            cases this
          have h1 : L.length ≤ st.length := by
            have h := len_le_of_nodup hL.t.nd hall
            rwa [List.length_map, List.length_map] at h
          have h2 := hok.len
          omega
        | cons t0 es'' => exact ⟨t0, es'', rfl⟩
      obtain ⟨u0, hu0, et0⟩ := ke_get (i := 0) hE rfl
      obtain ⟨hu0r, hu0n⟩ := List.mem_filter.mp (List.mem_of_getElem? hu0)
      have hu0n' : lkF st u0 = none := Option.isNone_iff_eq_none.mp hu0n
      clear hu0 hE
      have hX1 := hX.sm s1
      have eg1 := hX1.g
      walk_at "g"
      refine k_ix_l (sq_l e1) (at_n (j := 0) rfl rfl) ?_
      walk_at "g"
      refine k_dnewT (fun pm H2 n2' s2 e2 => ?_)
      walk_at "g"
      refine k_nLst (by walk_at "sz") (fun ps H3 n3' s3 e3 => ?_)
      have s13 := s2.trans s3
      have s03 := s1.trans s13
      have npm : H1 pm = none := n2'
      have nps : H1 ps = none := s2.free n3'
      have nmp : pm ≠ ps := fun z => by rw [← z, e2] at n3'; cases n3'
      walk_at "g"
      refine k_while (fun μ σ H' => ∃ (tt : Addr) (cur : Rw) (sq : Rk) (bs : List Bt) (ws : List V) (y5 y6 y7 : Option V), σ = [some (.ref t), some (.ref d), some (.ref tt), some (.ref pm), some (.ref ps), y5, y6, y7] ∧ Same H1 H' ∧ H' tt = some (.tup (tS cur)) ∧ cur ∈ rowsC L ∧ lkF st cur = none ∧ H' pm = some (.dT (rkV sq)) ∧ H' ps = some (.lst ws) ∧ DpAll K H' ws (bs.map dBt) ∧ RkOk (rowsC L) sq ∧ sq.length = bs.length ∧ (∀ p ∈ sq, p.2 < bs.length ∧ walkF S p.1 (bs.drop p.2) = some cur) ∧ μ = L.length + 1 - sq.length) ⟨_, t0, u0, [], [], [], _, _, _, rfl, s13, s13 _ _ et0, hu0r, hu0n', s3 _ _ e2, e3, .nil, ⟨List.nodup_nil, fun _ h => nomatch h⟩, rfl, fun _ h => (nomatch h), rfl⟩ (fun μ σ H' h => ?hw)
      obtain ⟨tt, cur, sq, bs, ws, y5, y6, y7, rfl, ss, ett, hcur, hcn, em, ep, dws, hsq, lsq, hwk, rfl⟩ := h
      have hsl := hsq.len
      have nt : ws.length = bs.length := by have := dpall_len dws; rwa [List.length_map] at this
      have s0s := s1.trans ss
      have hXs := hX.sm s0s
      have egs := hXs.g
      have b1s := s0s _ _ b1
      have hds := s0s _ _ hd
      walk_at "g"
      refine k_nDiT em (k := rk cur) (by rw [rk_kV]; exact ett) ?_
      rw [key]
      cases hk : lkF sq cur with
      | some i =>
        obtain ⟨hi1, hi2⟩ := hwk (cur, i) (lkF_mem hk)
        walk_at "g"
        refine k_turnF ?_
        obtain ⟨rc, hrc, erc⟩ := List.mem_map.mp hcur
        obtain ⟨ess, l1s, l2s⟩ := hXs.l
        obtain ⟨ex, hex⟩ := hL.t.me
        obtain ⟨te, es3, rfl⟩ : ∃ te es3, ess = te :: es3 := by
          cases ess with
          | nil =>
            have := ke_len l2s
            rw [hex] at this
            cases this
          | cons te es3 => exact ⟨te, es3, rfl⟩
        have hte : H' te = some (.tup (tS us)) := by
          obtain ⟨u, hu, e⟩ := ke_get (i := 0) (t := te) l2s rfl
          rw [hex] at hu
          cases hu
          exact e
        walk_at "g"
        refine k_ix_l (sq_l l1s) (at_n (j := 0) rfl rfl) ?_
        walk_at "g"
        refine ⟨H0, t, dx, ah, pl, pa, pb, tt, te, S, us, most, L, nbF S L, rc, us, rfl, hXs, ok, hL, hm, hw, lu, hrc, by rw [erc]; exact ett, hte, hL.t.anc_root rc.dep rc hrc rfl, fun p1 ws1 H5 np1 s5 ep1 d1 => ?_⟩
        walk_at "g"
        refine k_nDgT (s5 _ _ em) (k := rk cur) (v := .int (i : Nat)) (by rw [rk_kV]; exact s5 _ _ ett) (by rw [rkV_val, hk]; rfl) ?_
        walk_at "g"
        refine k_sl_l (sq_l (s5 _ _ ep)) (fun p2 H6 np2 s6 ep2 => ?_)
        rw [cutV_fromI _ _ (by omega), Int.toNat_natCast] at ep2
        walk_at "g"
        refine k_nLst (by walk_at "sz") (fun p3 H7 np3 s7 ep3 => ?_)
        walk_at "g"
        refine k_nLst (by walk_at "sz") (fun p4 H8 np4 s8 ep4 => ?_)
        walk_at "g"
        refine k_nTup (by walk_at "sz") (fun T H9 n9 s9 e9 => ?_)
        have s89 := s8.trans s9
        have s69 := s7.trans s89
        have s59 := s6.trans s69
        have s49 := s5.trans s59
        obtain ⟨⟨qq, _, _, _, lw⟩, ww1⟩ := hL.t.anc rc.dep rc hrc rfl us (hL.t.anc_root rc.dep rc hrc rfl)
        have hrd := (hrows rc hrc).2.2
        have hdl := hL.d rc hrc
        have hll := hL.l
        have w21 : p2 ≠ p1 := fun z => by rw [z, ep1] at np2; cases np2
        have w31 : p3 ≠ p1 := fun z => by rw [z, s6 _ _ ep1] at np3; cases np3
        have w41 : p4 ≠ p1 := fun z => by rw [z, (s6.trans s7) _ _ ep1] at np4; cases np4
        have w32 : p3 ≠ p2 := fun z => by rw [z, ep2] at np3; cases np3
        have w42 : p4 ≠ p2 := fun z => by rw [z, s7 _ _ ep2] at np4; cases np4
        have w43 : p4 ≠ p3 := fun z => by rw [z, ep3] at np4; cases np4
        refine q (.ref T) H9 (s0s.trans s49) ⟨T, p1, p2, p3, p4, ws1, ws.drop i, _, bs.drop i, cur, [], [], rfl, sq_t e9, ⟨s59 _ _ ep1, dpall_sm s59 d1⟩, ⟨s69 _ _ ep2, by rw [List.map_drop]; exact dpall_drop (dpall_sm s49 dws) i⟩, s89 _ _ ep3, s9 _ _ ep4, ⟨s0s.free np1, (s0s.trans s5).free np2, (s0s.trans (s5.trans s6)).free np3, (s0s.trans (s5.trans (s6.trans s7))).free np4⟩, ⟨w21, w31, w41, w32, w42, w43⟩, by rw [← erc]; exact ww1, by rw [hi2, List.nil_append, List.append_nil], fun z => ?_, by omega, by rw [List.length_drop]; omega⟩
        have := congrArg List.length z
        rw [List.length_drop] at this
        have h0 : ([] : List Bt).length = 0 := rfl
        omega
      | none =>
        obtain ⟨xs0, hx0, hx0n⟩ := fix_next hfix hcur hcn
        obtain ⟨rc, hrc, erc⟩ := List.mem_map.mp hcur
        walk_at "g"
        refine k_turnT ?_
        walk_at "g"
        have hnone : valV (rkV sq) (rk cur) = none := by rw [rkV_val, hk]; rfl
        refine k_nDpTz em (k := rk cur) (by rw [rk_kV]; exact ett) (by rw [List.length_map]; omega) ?_
        rw [putK_new _ hnone, nt]
        have e5m : (upd H' pm (.dT (rkV sq ++ [(rk cur, .int (bs.length : Nat))]))) pm = some (.dT (rkV (sq ++ [(cur, bs.length)]))) := by rw [upd_same, rkV_app]; rfl
        have s5 : Same H1 (upd H' pm (.dT (rkV sq ++ [(rk cur, .int (bs.length : Nat))]))) := sm_mut ss npm
        have ep5 : (upd H' pm (.dT (rkV sq ++ [(rk cur, .int (bs.length : Nat))]))) ps = some (.lst ws) := by rw [upd_ne nmp.symm]; exact ep
        have et5 : (upd H' pm (.dT (rkV sq ++ [(rk cur, .int (bs.length : Nat))]))) tt = some (.tup (tS cur)) := tup_upd em (noTup_dT _) ett
        have d5 := bts_upd (o := .dT (rkV sq ++ [(rk cur, .int (bs.length : Nat))])) em (noTup_dT _) dws
        generalize upd H' pm (.dT (rkV sq ++ [(rk cur, .int (bs.length : Nat))])) = H5 at e5m s5 ep5 et5 d5 ⊢
        have s05 := s1.trans s5
        have hX5 := hX.sm s05
        have eg5 := hX5.g
        have b15 := s05 _ _ b1
        have hd5 := s05 _ _ hd
        obtain ⟨pn, wn, xs, hxs, hval, npl, epn, nb⟩ := kb_val (kb_sm s05 b2) (u := cur) (by rw [nbF_keys]; exact hcur)
        rw [nb_of hxs] at nb
        have lwn := Paired.length nb
        have fl : (bitesF S cur).length ≤ 10000 := by
          have := (hrows rc hrc).2.1
          rw [erc] at this
          exact Nat.le_trans (flat_len (S := S) (us := cur) cur.length) (by omega)
        walk_at "g"
        refine k_nDgT b15 (k := rk cur) (by rw [rk_kV]; exact et5) hval ?_
        walk_at "g"
        refine k_nLcD (walk_list (xs := wn)) (fun H' s => sq_l (s _ _ epn)) (fun i zs H3 => NbAll K H3 zs (((bitesF S cur).take i).filter fun x => (lkF st x.2).isNone)) (fun i zs Ha Hb s h => nb_sm s h) .nil (fun i zs Ha hi h => ?hz2) (fun i x p Ha Hb zs Kp Ks hi hp sa ea hzs hy hKp hKs => ?ht2) (fun pq H6 zs hpq s6 e6 hzs => ?he2)
        case hz2 =>
          have h3 := Paired.length h
          have := Nat.le_trans (Nat.le_of_eq h3) (List.length_filter_le _ _)
          rw [List.length_take] at this
          omega
        case ht2 =>
          obtain ⟨rfl, hv⟩ := hy
          obtain ⟨x, hx1, T, tb, tm, rfl, h1, h2, h3⟩ := paired_at nb hv
          have h1a := sm_t sa h1
          have h3a := sa _ _ h3
          walk_at "g"
          refine ⟨rfl, ?_⟩
          walk_at "g"
          refine k_nDiT (sa _ _ hd5) (k := rk x.2) (by rw [rk_kV]; exact h3a) ?_
          rw [key]
          cases hkx : lkF st x.2 with
          | none =>
            walk_at "g"
            refine k_bT rfl ?_
            walk_at "g"
            refine k_nTup (by walk_at "sz") (fun T5 H7 n7 s7 e7 => ?_)
            refine hKp _ _ s7 ?_
            rw [take_more hx1, List.filter_append, List.filter_cons_of_pos (p := fun x : Bt × Rw => (lkF st x.2).isNone) (by show (lkF st x.2).isNone = true; rw [hkx]; rfl)]
            have nTp : T5 ≠ p := fun z => by rw [z, ea] at n7; cases n7
            have h3b := s7 _ _ h3a
            exact paired_app ⟨T5, tb, tm, rfl, sq_t (by rw [del_ne nTp]; exact e7), del_t (s7 _ _ ea) (sm_t (sa.trans s7) h2), by rw [del_ne (ne_of h3b (s7 _ _ ea) (fun z => nomatch z))]; exact h3b⟩ (nb_sm (del_mono s7) hzs)
          | some m =>
            walk_at "g"
            refine k_bF rfl ?_
            walk_at "g"
            refine hKs _ (Same.refl _) ?_
            rw [take_more hx1, List.filter_append, List.filter_cons_of_neg (p := fun x : Bt × Rw => (lkF st x.2).isNone) (by show ¬ (lkF st x.2).isNone = true; rw [hkx]; exact Bool.false_ne_true)]
            simpa using hzs
        case he2 =>
          rw [lwn, List.take_length] at hzs
          obtain ⟨z0, zs', rfl⟩ : ∃ z0 zs', zs = z0 :: zs' := by
            cases zs with
            | nil =>
              exfalso
              have hnil : ((bitesF S cur).filter fun x => (lkF st x.2).isNone) = [] := List.length_eq_zero_iff.mp (Paired.length hzs).symm
              have : xs0 ∈ (bitesF S cur).filter fun x => (lkF st x.2).isNone := List.mem_filter.mpr ⟨hx0, by rw [hx0n]; rfl⟩
              rw [hnil] at this
              cases this
            | cons z0 zs' => exact ⟨z0, zs', rfl⟩
          obtain ⟨x, hx1, T, tb, tm, rfl, h1, h2, h3⟩ := paired_at (i := 0) hzs rfl
          obtain ⟨hxb, hxn⟩ := List.mem_filter.mp (List.mem_of_getElem? hx1)
          have hxn' : lkF st x.2 = none := Option.isNone_iff_eq_none.mp hxn
          have s56 := s5.trans s6
          have ep6 := s6 _ _ ep5
          walk_at "g"
          refine k_ix_l (sq_l e6) (at_n (j := 0) rfl rfl) ?_
          walk_at "g"
          refine k_append ep6 (by omega) ?_
          walk_at "g"
          have hw1 : ∀ u i, walkF S u (bs.drop i) = some cur → i ≤ bs.length → walkF S u ((bs ++ [x.1]).drop i) = some x.2 := fun u i h hi => by
            rw [List.drop_append_of_le_length hi, walkF_app, h]
            exact walkF_one hxb
          refine ⟨L.length + 1 - (sq ++ [(cur, bs.length)]).length, by rw [List.length_append]; show L.length + 1 - (sq.length + 1) < _; omega, tm, x.2, sq ++ [(cur, bs.length)], bs ++ [x.1], ws ++ [.ref tb], _, _, _, rfl, sm_mut s56 nps, tup_upd ep6 (noTup_lst _) h3, ?_, hxn', ?_, upd_same, ?_, ⟨?_, fun v hv => ?_⟩, by rw [List.length_append, List.length_append, lsq]; rfl, fun p hp => ?_, rfl⟩
          · exact hcl rc hrc x (by rw [erc]; exact hxb)
          · rw [upd_ne nmp]
            exact s6 _ _ e5m
          · rw [List.map_append]
            exact dpall_app (bts_upd ep6 (noTup_lst _) (dpall_sm s6 d5)) (.tup (sqt_upd ep6 (noTup_lst _) h2) (.cons (.int _) (.cons (.str _) .nil)))
          · rw [List.map_append, List.nodup_append]
            refine ⟨hsq.nd, List.pairwise_singleton _ _, fun a ha b hb z => ?_⟩
            rw [List.mem_singleton.mp hb] at z
            have z' : a = cur := z
            rw [z'] at ha
            exact lkF_none.mp (by rw [hk]; rfl) ha
          · rw [List.map_append] at hv
            rcases List.mem_append.mp hv with hv | hv
            · exact hsq.sub v hv
            · rw [List.mem_singleton.mp hv]
              exact hcur
          · rw [List.length_append]
            show p.2 < bs.length + 1 ∧ _
            rcases List.mem_append.mp hp with hp | hp
            · obtain ⟨g1, g2⟩ := hwk p hp
              exact ⟨by omega, hw1 p.1 p.2 g2 (by omega)⟩
            · rw [List.mem_singleton.mp hp]
              exact ⟨by show bs.length < bs.length + 1; omega, hw1 cur bs.length (by rw [List.drop_length]; rfl) (Nat.le_refl _)⟩
theorem rk_all {rows : List Rw} {st : Rk} (h : RkOk rows st) (hl : st.length = rows.length) (u : Rw) (hu : u ∈ rows) : ∃ n, lkF st u = some n := by
  cases e : lkF st u with
  | some n => exact ⟨n, rfl⟩
  | none =>
    exfalso
    have hn : u ∉ st.map (·.1) := lkF_none.mp (by rw [e]; rfl)
    have h1 := len_le_of_nodup (l := u :: st.map (·.1)) (m := rows) (List.nodup_cons.mpr ⟨hn, h.nd⟩) fun v hv => by
      rcases List.mem_cons.mp hv with rfl | hv
      · exact hu
      · exact h.sub v hv
    rw [List.length_cons, List.length_map] at h1
    omega
/-! ### how a row goes on -/
def FatAt (K : PySem.W.Frag) (H H' : Hp) (v : V) (S : HsD) (us : Rw) (most : Nat) : FO → Prop
  | .far => ∃ T, v = .ref T ∧ SqT K H' T [.str (Str.ofString "far"), .int (most : Nat)]
  | .ends n => ∃ T, v = .ref T ∧ SqT K H' T [.str (Str.ofString "ends"), .int (n : Nat)]
  | .round => RndAt K H H' v S us most
def spFate (K : PySem.W.Frag) : Sp := fun vs H Q E => ∃ (a r : Addr) (m : Int) (S : HsD) (us : Rw) (tq : Bool), vs = [.ref a, .ref r, .int m] ∧ HsAt K H a S ∧ HsOk S ∧ RowB K tq H r us ∧ us.length ≤ 1000 ∧ (∀ u ∈ us, u.length ≤ 1000) ∧
  (badAt S us = none → 1 ≤ m → m ≤ 400 → ∀ v H', Same H H' → FatAt K H H' v S us m.toNat (fateF S us m.toNat) → Q v H') ∧
  (badAt S us = none → ¬ (1 ≤ m ∧ m ≤ 400) → ∀ d H', H d = none → Same H H' → H' d = some (.xd (xfs "BadNumber" "number" (.int m))) → E (.ref (He.ga K "BadNumber")) (some d) H') ∧
  (∀ i, badAt S us = some i → ∀ d H', H d = none → Same H H' → H' d = some (.xd (xfs "BadWord" "at" (.int (i : Nat)))) → E (.ref (He.ga K "BadWord")) (some d) H')

theorem made_BadNumber (F : FunD K "__init__" "BadNumber.__init__" (defArgs s_BadNumber_init) (defBody s_BadNumber_init) (defScope s_BadNumber_init) [] [] (He.ma K (He.ga K "BadNumber") "__init__") fd) (gC : mg "BadNumber" = some (.ref (He.ga K "BadNumber"))) (O : Oex K (He.ga K "BadNumber") (He.ma K (He.ga K "BadNumber") "__init__"))
    (nw : PySem.W.findIn K (.ref (He.ga K "BadNumber")) "word" = some none) (nf : PySem.W.findIn K (.ref (He.ga K "BadNumber")) "number" = some none) : XCls P w K mg base "BadNumber" 1 "BadNumber" "number" := by
  refine ⟨gC, O, nw, nf, fd, ["self", "number"], F.ok sc_BadNumber_init (fun vs H Q E h => ?_) (fun cdv A outer s H vs Q E hr h => ⟨_, PSs.nox (pss_cons (ps_ost (pv 0) pe_str) (pss_one (ps_ost (pv 0) (pv 1)))), x1_read O.T nw nf h rfl⟩), F.bindsN fun _ _ _ _ _ _ us hl => match us, hl with | [_, _], _ => rfl⟩
  obtain ⟨a, v, rfl, _⟩ := h
  rfl

abbrev FnFate (K : PySem.W.Frag) (f : Addr) (fd : FuncData) : Prop := FunD K "fate" "fate" (defArgs s_fate) (defBody s_fate) (defScope s_fate) [] [("most", .int 120)] f fd
theorem fn_fate (F : FnFate K f fd) (f_len : mg "len" = none) (f_tuple : mg "tuple" = none) (c_MOST_FAR : ∃ t, mg "MOST_FAR" = some (.int 400 t)) (c_need_row : Callee P w K mg base (L2.CX P w) "need_row" 3 [] (spNeedRow K)) (c_BadNumber : XCls P w K mg base "BadNumber" 1 "BadNumber" "number") (c_Tree : OwnP P w K mg base CX0 "Tree" 1 (spTrI K)) (c_Tree_grown : CalleeM P w K mg base CX0 "Tree" "grown" 6 (spGrown2 K)) (c_Tree_longest : CalleeM P w K mg base CX0 "Tree" "longest" 1 (spLongest K)) (c_Tree_ring : CalleeM P w K mg base CX0 "Tree" "ring" 2 (spRing K)) (hTr : TrC K) : FnOk P w K mg base (L2.CX P w) 7 f fd ["house", "row", "most"] (spFate K) := by
  refine F.ok sc_fate (fun vs H Q E h => ?hl) (fun cdv A outer s H vs Q E hr h => ⟨_, (pss_cons (ps_expr (pe_cl c_need_row hr (pa_cons (pv 0) (pa_cons (pv 1) pa_nil)) (passE (takes_of rfl rfl rfl rfl))))
      (pss_cons (ps_if (pt_not (pt_chain op_leU op_leU pe_int (pv 2) (pe_gi c_MOST_FAR))) (pss_one (ps_raise rfl (takes_of rfl rfl rfl rfl) (pmk_x1 c_BadNumber hr (pa_cons (pv 2) pa_nil)))) pss_nil)
      (pss_cons (ps_set (i := 3) sc_fate.nd rfl (by first | exact Or.inl rfl | exact Or.inr rfl) (pe_mkP c_Tree hr (pa_cons (pv 0) (pa_cons (pe_callTy (call_tupK K) (by rfl) f_tuple (by decide +kernel) (pa_cons (pv 1) pa_nil)) pa_nil)) pass0))
      (pss_cons (ps_set (i := 4) sc_fate.nd rfl (by first | exact Or.inl rfl | exact Or.inr rfl) (pe_mt1 c_Tree_grown hr (pv 3) (pa_cons (pv 2) pa_nil) pass0))
      (pss_cons (ps_if (pt_cmpR op_notN1 (pv 4) pe_non (nomark _)) (pss_one (ps_ret (pv 4))) pss_nil)
      (pss_cons (ps_set (i := 5) sc_fate.nd rfl (by first | exact Or.inl rfl | exact Or.inr rfl) (pe_mt0 c_Tree_longest hr (pv 3) pass0))
      (pss_one (ps_ret (pe_ifExp (pt_cmpR (op_eqK K hr.units) (pe_callB call_len_dT (by rfl) f_len PySem.boot_len (pa_cons (pv 5) pa_nil)) (pe_callB (call_lenK K) (by rfl) f_len PySem.boot_len (pa_cons (pe_fldK K (pv 3) rfl) pa_nil)) (nomark _)) (pe_tup (pa_cons pe_str (pa_cons (pe_dget (hu_of hr) (pv 5) (pe_callTy (call_tupK K) (by rfl) f_tuple (by decide +kernel) (pa_cons (pv 1) pa_nil)) (fun _ _ => rfl)) pa_nil))) (pe_mt1 c_Tree_ring hr (pv 3) (pa_cons (pv 5) pa_nil) pass0)))))))))), ?rd⟩)
  case hl =>
    obtain ⟨a, r, m, S, us, tq, rfl, _⟩ := h
    rfl
  case rd =>
    obtain ⟨a, r, m, S, us, tq, rfl, hs, ok, hx, lu, lw, q1, q2, q3⟩ := h
    obtain ⟨hc, n1, n2, n3, n4⟩ := id hTr
    refine k_start (σ' := [some _, some _, some _, none, none, none]) rfl ?_
    walk_at "g"
    refine ⟨a, r, S, us, tq, rfl, hs, hx.sq, by omega, lw, fun hb H1 s1 => ?_, fun i hb d H1 n1' s1 e1 => q3 i hb d H1 n1' s1 e1⟩
    obtain ⟨hw, l12⟩ := badAt_none ok hb
    walk_at "g"
    by_cases hm : 1 ≤ m ∧ m ≤ 400
    · obtain ⟨n, rfl⟩ : ∃ n : Nat, m = (n : Int) := ⟨m.toNat, by omega⟩
      have hn1 : 1 ≤ n := by omega
      have hn4 : n ≤ 400 := by omega
      have q := q1 hb hm.1 hm.2
      rw [Int.toNat_natCast] at q
      unfold fateF at q
      clear q1 q2 q3
      walk_at "w"
      refine k_tup_B (hx.sm s1) (fun tu H2 s2 e2 => ?_)
      have s02 := s1.trans s2
      have hs2 := hs.sm s02
      walk_at "g"
      refine fun g dx ng nd ne => ⟨H2, S, g, dx, a, tu, us, rfl, hs2, e2, by omega, (sm_new nd).trans (sm_new (by rw [upd_ne ne.symm]; exact ng)), ng, upd_same, fun pl pa pb H3 hX => ⟨rfl, ?_⟩⟩
      have eg3 := hX.g
      walk_at "g"
      refine ⟨H2, g, dx, a, pl, pa, pb, S, us, n, rfl, hX, ok, hw, by omega, hn1, hn4, fun hfar T H4 s4 e4 => ?_, fun L rr hrd v H4 s4 hR => ?_, fun L hon H4 hX4 => ?_⟩
      · rw [hfar] at q
        walk_at "g"
        exact q (.ref T) H4 (s02.trans s4) ⟨T, rfl, sq_t e4⟩
      · rw [hrd] at q
        obtain ⟨T9, hT9⟩ : ∃ T9, v = .ref T9 := by
          obtain ⟨T9, _, _, _, _, _, _, _, _, _, _, _, e, _⟩ := hR
          exact ⟨T9, e⟩
        subst hT9
        walk_at "g"
        exact q _ H4 (s02.trans s4) (hR.from0 s02)
      · rw [hon] at q
        have hOn : OnOk S us n L := by
          have := gF_ok S us hn1 n
          rw [hon] at this
          exact this
        have hrows := hOn.rows ok hn4 hw (by omega)
        have lL := hOn.l
        have eg4 := hX4.g
        walk_at "g"
        refine ⟨H2, g, dx, a, pl, pa, pb, S, L, rfl, hX4, hOn.t.nd, by omega, fun r hr => by have := (hrows r hr).2.1; omega, fun d H5 nd5 s5 e5 => ?_⟩
        have hX5 := hX4.sm s5
        have eg5 := hX5.g
        obtain ⟨es, l1, l2⟩ := hX5.l
        have les : es.length = L.length := by have := ke_len l2; rwa [rowsC, List.length_map] at this
        have e25 := hX5.s _ _ e2
        walk_at "g"
        refine k_lenT e5 ?_
        walk_at "g"
        rw [List.length_map, List.length_map, les]
        walk_at "g"
        have hus : us ∈ rowsC L := by
          obtain ⟨ex, e⟩ := hOn.t.me
          rw [e]
          exact List.mem_cons_self ..
        have hrk := it_ok S (rowsC L) (rowsC L).length
        have hfx := it_fix S (rowsC L)
        refine k_dec (fun d1 => ?_) (fun d1 => ?_)
        · have d1' : (rksF S L).length = L.length := by omega
          simp only [d1', if_true] at q
          obtain ⟨k, hk⟩ := rk_all hrk (d1'.trans (List.length_map _).symm) us hus
          rw [show lkF (rksF S L) us = some k from hk] at q
          walk_at "g"
          refine k_tup_B (hx.sm (s1.trans (s2.trans hX5.s))) (fun tv H6 s6 e6 => ?_)
          walk_at "g"
          refine k_nDgT (s6 _ _ e5) (k := rk us) (v := .int (k : Nat)) (by rw [rk_kV]; exact e6) (by rw [rkV_val, show lkF (rksF S L) us = some k from hk]; rfl) ?_
          walk_at "g"
          refine k_nTup (by walk_at "sz") (fun T H7 n7 s7 e7 => ?_)
          exact q (.ref T) H7 (s02.trans (hX5.s.trans (s6.trans s7))) ⟨T, rfl, sq_t e7⟩
        · have d1' : ¬ (rksF S L).length = L.length := by omega
          simp only [d1', if_false] at q
          walk_at "g"
          refine ⟨H2, g, dx, a, pl, pa, pb, d, S, us, n, L, rksF S L, rfl, hX5, ok, hOn, hn4, hw, by omega, fun r hr x hx => ?_, e5, hfx, hrk, d1', fun v H6 s6 hR => ?_⟩
          · obtain ⟨i, hi, ei⟩ := List.getElem_of_mem hr
            exact gF_closed n hon i r (by omega) (by rw [List.getElem?_eq_getElem hi, ei]) x hx
          · exact q v H6 (s02.trans (hX5.s.trans s6)) (hR.from0 (s02.trans hX5.s))
    · clear q1
      refine k_dec (fun d1 => ?_) (fun d1 => ?_)
      · walk_at "g"
        refine k_dec (fun d2 => ?_) (fun d2 => ?_)
        · exact absurd ⟨d1, d2⟩ hm
        · walk_at "g"
          exact k_x1 fun d H' nd sd ed => q2 hb hm d H' (s1.free nd) (s1.trans sd) ed
      · walk_at "g"
        exact k_x1 fun d H' nd sd ed => q2 hb hm d H' (s1.free nd) (s1.trans sd) ed
theorem ok_fate__most (F : FnFate K f fd) (hm : mg "fate" = some (.ref f)) (f_len : mg "len" = none) (f_tuple : mg "tuple" = none) (c_MOST_FAR : ∃ t, mg "MOST_FAR" = some (.int 400 t)) (c_need_row : Callee P w K mg base (L2.CX P w) "need_row" 3 [] (spNeedRow K)) (c_BadNumber : XCls P w K mg base "BadNumber" 1 "BadNumber" "number") (c_Tree : OwnP P w K mg base CX0 "Tree" 1 (spTrI K)) (c_Tree_grown : CalleeM P w K mg base CX0 "Tree" "grown" 6 (spGrown2 K)) (c_Tree_longest : CalleeM P w K mg base CX0 "Tree" "longest" 1 (spLongest K)) (c_Tree_ring : CalleeM P w K mg base CX0 "Tree" "ring" 2 (spRing K)) (hTr : TrC K) : CalleeN P w K mg base (L2.CX P w) "fate" 7 2 ["most"] (fun vs zs => vs ++ zs) (spFate K) := by
  obtain ⟨mv, h⟩ := FunD.kbinds0 (ps := ["house", "row", "most"]) F 2 ["most"] [] (fun {α} us mz ws => us ++ ws) (by simp) (fun q hq => nomatch hq) (fun r1 _ r3 => r1.append r3) (fun D doc pm an cdv ct us mv ws l1 l2 l3 => by
    match us, mv, ws, l1, l2, l3 with
    | [_, _], [], [_], _, _, _ => rfl)
  exact ⟨f, fd, _, _, fn_fate F f_len f_tuple c_MOST_FAR c_need_row c_BadNumber c_Tree c_Tree_grown c_Tree_longest c_Tree_ring hTr, hm, F.kp, h⟩
theorem ok_fate (F : FnFate K f fd) (hm : mg "fate" = some (.ref f)) (f_len : mg "len" = none) (f_tuple : mg "tuple" = none) (c_MOST_FAR : ∃ t, mg "MOST_FAR" = some (.int 400 t)) (c_need_row : Callee P w K mg base (L2.CX P w) "need_row" 3 [] (spNeedRow K)) (c_BadNumber : XCls P w K mg base "BadNumber" 1 "BadNumber" "number") (c_Tree : OwnP P w K mg base CX0 "Tree" 1 (spTrI K)) (c_Tree_grown : CalleeM P w K mg base CX0 "Tree" "grown" 6 (spGrown2 K)) (c_Tree_longest : CalleeM P w K mg base CX0 "Tree" "longest" 1 (spLongest K)) (c_Tree_ring : CalleeM P w K mg base CX0 "Tree" "ring" 2 (spRing K)) (hTr : TrC K) : Callee P w K mg base (L2.CX P w) "fate" 7 [.int 120] (spFate K) := by
  have h : ∃ ds, Vals [V.int 120] ds ∧ Binds K fd ["house", "row", "most"] ds := FunD.binds0 (ps := ["house", "row", "most"]) F 2 (by simp) rfl (fun D doc pm an cdv ct us ks l1 l2 => by
    match us, ks, l1, l2 with
    | [_, _], [_], _, _ => exact ⟨_, _, _, _, _, _, rfl, rfl, rfl⟩)
  obtain ⟨ds, h1, h2⟩ := h
  exact ⟨f, fd, _, ds, fn_fate F f_len f_tuple c_MOST_FAR c_need_row c_BadNumber c_Tree c_Tree_grown c_Tree_longest c_Tree_ring hTr, hm, F.kp, h2, h1⟩
end
end Lw
set_option autoImplicit true
set_option pp.maxSteps 1200
set_option Elab.async false
set_option linter.all false
set_option maxRecDepth 100000
set_option maxHeartbeats 1000000
namespace Lw
open PySem PySem.Spec PyProof.Rows L2 Gk
section
variable {K : PySem.W.Frag}
/-! ### bites by what stands ahead and behind -/
/-! ### letters -/
/-! ### ends -/
end
end Lw
namespace Lw
open PySem PySem.Spec PyProof.Rows L2 Gk
/-! ### a lean house has no rounds -/
end Lw
namespace Lw
open PySem PySem.Spec PyProof.Rows L2 Gk
/-! ### an even house keeps its letters -/
end Lw
set_option autoImplicit true
set_option pp.maxSteps 1200
set_option Elab.async false
set_option linter.all false
set_option maxRecDepth 100000
set_option maxHeartbeats 1000000
namespace Lw
open PySem PySem.Spec PyProof.Rows L2 Gk

local macro_rules | `(tactic| walk_at "hp") => `(tactic| first | assumption | exact upd_same | (refine' (upd_ne ?n).trans ?h; (case n => assumption); (case h => walk_at "hp")) | (refine' sm_get ?s ?h; (case s => assumption); (case h => walk_at "hp")))
local macro_rules | `(tactic| walk_at "sq") => `(tactic| first | assumption | (refine' sq_l ?h; (case h => walk_at "hp")) | (refine' sm_l ?s ?h; (case s => assumption); (case h => walk_at "sq")))
local macro_rules | `(tactic| walk_at "st") => `(tactic| first | assumption | (refine' sq_t ?h; (case h => walk_at "hp")) | (refine' sm_t ?s ?h; (case s => assumption); (case h => walk_at "st")))
local macro_rules | `(tactic| walk_at "bg") => `(tactic| first | assumption | (refine' BagOk.sm ?s ?h; (case s => assumption); (case h => walk_at "bg")))
local macro_rules | `(tactic| walk_at "sm") => `(tactic| first | assumption | exact Same.refl _ | (refine' Same.trans ?h ?s; (case s => assumption); (case h => walk_at "sm")))
local macro_rules | `(tactic| walk_at "hs") => `(tactic| first | assumption | (refine' HsAt.sm ?s ?h; (case s => assumption); (case h => walk_at "hs")))
local macro_rules | `(tactic| walk_at "ms") => `(tactic| first | assumption | (refine' MAt.sm ?s ?h; (case s => assumption); (case h => walk_at "ms")))
local macro_rules | `(tactic| walk_at "md") => `(tactic| first | assumption | (refine' MDk.sm ?s ?h; (case s => assumption); (case h => walk_at "md")))
local macro_rules | `(tactic| walk_at "dp") => `(tactic| first | assumption | (refine' dp_sm ?s ?h; (case s => assumption); (case h => walk_at "dp")))
local macro_rules | `(tactic| walk_at "sz") => `(tactic| first | decide | assumption | omega | (simp only [List.length_cons, List.length_nil, List.length_map, List.length_append]; omega))
local macro_rules | `(tactic| walk_at "g1") => `(tactic| first
  | with_reducible refine k_seq ?_
  | with_reducible refine k_itB ?_
  | with_reducible refine k_next ?_
  | with_reducible refine k_asg ?_
  | with_reducible refine k_name ?_
  | with_reducible refine k_ret ?_
  | with_reducible refine k_retN ?_
  | with_reducible refine k_drop ?_
  | with_reducible refine k_ifs ?_
  | with_reducible refine k_brk ?_
  | with_reducible refine k_cont ?_
  | with_reducible refine k_ipI ?_
  | with_reducible refine k_test ?_
  | with_reducible refine k_tB ?_
  | with_reducible refine k_bl ?_
  | with_reducible refine k_not ?_
  | with_reducible refine k_and ?_
  | with_reducible refine k_or ?_
  | with_reducible refine k_yes ?_
  | with_reducible refine k_true ?_
  | with_reducible refine k_false ?_
  | with_reducible refine k_nt ?_
  | with_reducible refine k_c ?_
  | with_reducible refine k_op ?_
  | with_reducible refine k_un ?_
  | with_reducible refine k_if ?_
  | with_reducible refine k_chain ?_
  | with_reducible refine k_nil ?_
  | with_reducible refine k_cons ?_
  | with_reducible refine k_cb ?_
  | with_reducible refine k_call ?_
  | with_reducible refine k_callS ?_
  | with_reducible refine k_andV ?_
  | with_reducible refine k_orV ?_
  | with_reducible refine k_notV ?_
  | with_reducible refine k_lst ?_
  | with_reducible refine k_tup ?_
  | with_reducible refine k_nopart ?_
  | with_reducible refine k_part ?_
  | with_reducible refine k_nInt ?_
  | with_reducible refine k_sl ?_
  | with_reducible refine k_bm ?_
  | with_reducible refine k_bm0 ?_
  | with_reducible refine k_nTyS ?_
  | with_reducible refine k_m1 ?_
  | with_reducible refine k_m0 ?_
  | with_reducible refine k_nStr ?_
  | with_reducible refine k_I0 ?_
  | with_reducible refine k_U ?_
  | with_reducible refine k_add_i ?_
  | with_reducible refine k_eq_i ?_
  | with_reducible refine k_eq_s ?_
  | with_reducible refine k_eq_b ?_
  | with_reducible refine k_ne_i ?_
  | with_reducible refine k_ne_s ?_
  | with_reducible refine k_ne_b ?_
  | with_reducible refine k_le_i ?_
  | with_reducible refine k_le_s ?_
  | with_reducible refine k_gnil ?_
  | with_reducible refine k_gcons ?_
  | with_reducible refine k_gsub ?_
  | with_reducible refine k_for ?_
  | with_reducible refine k_lc ?_
  | with_reducible refine k_rng1 ?_
  | with_reducible refine k_rng2 ?_
  | with_reducible refine k_itl ?_
  | with_reducible refine k_itt ?_
  | with_reducible refine k_its ?_
  | with_reducible refine k_ite ?_
  | with_reducible refine k_iteB ?_
  | with_reducible refine k_lrg2 ?_
  | with_reducible refine k_itz ?_
  | with_reducible refine k_nIts ?_
  | with_reducible refine k_inS ?_
  | with_reducible refine k_niS ?_
  | with_reducible refine k_mk ?_
  | with_reducible refine k_meth ?_
  | with_reducible refine k_fld ?_
  | with_reducible refine k_sfld ?_
  | with_reducible refine k_dg ?_
  | with_reducible refine k_dp ?_
  | with_reducible refine k_pr ?_
  | with_reducible refine k_pr0 ?_
  | with_reducible refine k_sg ?_
  | with_reducible refine k_lc2 ?_
  | with_reducible refine k_callN ?_
  | with_reducible refine k_callNS ?_
  | with_reducible refine k_par ?_
  | with_reducible refine k_nPar ?_
  | with_reducible refine k_isNn ?_
  | with_reducible refine k_isNr ?_
  | with_reducible refine k_ntNn ?_
  | with_reducible refine k_ntNr ?_
  | with_reducible refine k_min2 ?_
  | with_reducible refine k_max2 ?_
  | with_reducible refine k_intB ?_
  | with_reducible refine k_intI ?_
  | with_reducible refine k_isBl ?_
  | with_reducible refine k_ntBl ?_
  | ((with_reducible refine' k_var ?kv ?_); (case kv => exact rfl))
  | ((with_reducible refine' k_aug ?kv ?_); (case kv => exact rfl))
  | ((with_reducible refine' k_ix_l ?ks ?ki ?_); (case ks => walk_at "sq"); (case ki => exact rfl))
  | ((with_reducible refine' k_ix_t ?ks ?ki ?_); (case ks => walk_at "st"); (case ki => exact rfl))
  | ((with_reducible refine' k_len_l ?ks ?_); (case ks => walk_at "sq"))
  | ((with_reducible refine' k_len_t ?ks ?_); (case ks => walk_at "st"))
  | ((with_reducible refine' k_setL ?ks ?ki ?_); (case ks => walk_at "hp"); (case ki => exact rfl))
  | ((with_reducible refine' k_nTyL ?ks ?_); (case ks => walk_at "sq"))
  | ((with_reducible refine' k_nItl ?ks ?_); (case ks => walk_at "sq"))
  | ((with_reducible refine' k_nItt ?ks ?_); (case ks => walk_at "st"))
  | ((with_reducible refine' k_nIte ?ks ?_); (case ks => walk_at "sq"))
  | ((with_reducible refine' k_mul ?km ?_); (case km => first | exact Or.inr ⟨by decide, by decide⟩ | exact Or.inl ⟨by decide, by decide⟩))
  | ((with_reducible refine' k_I ?km ?_); (case km => first | assumption | decide | exact ⟨by decide, by decide +kernel⟩ | exact ⟨by decide, by decide, by decide⟩))
  | ((with_reducible refine' k_nMeth ?kp ?kl ?_); (case kp => walk_at "hp"); (case kl => exact rfl))
  | ((with_reducible refine' k_nFld ?kp ?kc ?kn ?kl ?_); (case kp => walk_at "hp"); (case kc => assumption); (case kn => assumption); (case kl => exact rfl))
  | ((with_reducible refine' k_nSFld ?kp ?kc ?kn ?kl ?_); (case kp => walk_at "hp"); (case kc => assumption); (case kn => assumption); (case kl => exact of_decide_eq_true rfl))
  | ((with_reducible refine' k_nDg ?kp ?kl ?_); (case kp => walk_at "hp"); (case kl => exact rfl))
  | ((with_reducible refine' k_nRng1 ?k1 ?k2 ?_); (case k1 => omega); (case k2 => omega))
  | ((with_reducible refine' k_nKw ?k1 ?k2 ?_); (case k1 => exact rfl); (case k2 => exact rfl))
  | ((with_reducible refine' k_hsm ?kh ?_); (case kh => walk_at "hs"))
  | ((with_reducible refine' k_nMethH ?kh ?kl ?_); (case kh => walk_at "hs"); (case kl => exact fun _ _ => rfl))
  | ((with_reducible refine' k_mLet ?kh ?_); (case kh => walk_at "ms"))
  | ((with_reducible refine' k_mChew ?kh ?_); (case kh => walk_at "ms"))
  | ((with_reducible refine' k_mPut ?kh ?_); (case kh => walk_at "ms"))
  | ((with_reducible refine' k_mMost ?kh ?_); (case kh => walk_at "ms"))
  | ((with_reducible refine' k_mCut ?kh ?_); (case kh => walk_at "ms"))
  | ((with_reducible refine' k_mTab ?kh ?_); (case kh => walk_at "md"))
  | ((with_reducible refine' k_mEats ?kh ?_); (case kh => walk_at "md"))
  | ((with_reducible refine' k_gtup ?ks ?kl ?_); (case ks => walk_at "st"); (case kl => exact rfl)))
local macro_rules | `(tactic| walk_at "g") => `(tactic| repeat (walk_at "g1"))
local macro_rules | `(tactic| walk_at "w1") => `(tactic| first
  | walk_at "g1"
  | ((with_reducible refine' k_decT ?kp ?_); (case kp => omega))
  | ((with_reducible refine' k_decF ?kp ?_); (case kp => omega))
  | ((with_reducible refine' k_decNT ?kp ?_); (case kp => omega))
  | ((with_reducible refine' k_decNF ?kp ?_); (case kp => omega)))
local macro_rules | `(tactic| walk_at "w") => `(tactic| repeat (walk_at "w1"))


section
variable {P : Program} {w : World} {K : PySem.W.Frag} {mg : Str → Option Value} {base : Heap} {f : Addr} {fd : FuncData}
/-! ### what is drawn for a house -/
structure MsOk (z : Str) (c k : Int) : Prop where
  c0 : 0 ≤ c
  c2 : c ≤ 2
  k0 : 0 ≤ k
  k2 : k ≤ 2
  lean : z = Str.ofString "lean" → 1 ≤ c ∧ k = 0
  even : z = Str.ofString "even" → c = k ∧ c ≤ 1
  fat : z = Str.ofString "fat" → c < k
def spMs : Sp := fun vs H Q _ => ∃ (b : Addr) (z : Str), vs = [.ref b, .str z] ∧ BagOk H b ∧ ∀ (T : Addr) (c k : Int) H', MsOk z c k → Same H H' → H' T = some (.tup [.int c, .int k]) → Q (.ref T) H'
theorem ok_Lmeasures (F : FnP K "_law_measures" s_Lmeasures f fd) (hm : mg "_law_measures" = some (.ref f)) (c_Lone : Callee P w K mg base CX0 "_law_one" 2 [] (spOne K)) : Callee P w K mg base CX0 "_law_measures" 3 [] spMs := by
  refine ⟨f, fd, _, [], F.ok sc_Lmeasures (fun vs H Q E h => ?hl) (fun cdv A outer s H vs Q E hr h => ⟨_, PSs.nox (pss_cons (ps_set (i := 2) sc_Lmeasures.nd rfl (by first | exact Or.inl rfl | exact Or.inr rfl) (pe_disp (pps_cons pe_str (pe_lst (pa_cons (pe_tup (pa_cons pe_int (pa_cons pe_int pa_nil))) (pa_cons (pe_tup (pa_cons pe_int (pa_cons pe_int pa_nil))) (pa_cons (pe_tup (pa_cons pe_int (pa_cons pe_int pa_nil))) pa_nil)))) (pps_cons pe_str (pe_lst (pa_cons (pe_tup (pa_cons pe_int (pa_cons pe_int pa_nil))) (pa_cons (pe_tup (pa_cons pe_int (pa_cons pe_int pa_nil))) pa_nil))) (pps_cons pe_str (pe_lst (pa_cons (pe_tup (pa_cons pe_int (pa_cons pe_int pa_nil))) (pa_cons (pe_tup (pa_cons pe_int (pa_cons pe_int pa_nil))) (pa_cons (pe_tup (pa_cons pe_int (pa_cons pe_int pa_nil))) pa_nil)))) pps_nil))) (by rfl) (by rfl) (fun z => by cases z) (by decide)))
      (pss_one (ps_ret (pe_cl c_Lone hr (pa_cons (pv 0) (pa_cons (pe_dget2 (hu_of hr) (pv 2) (pv 1) (pe_lst (pa_cons (pe_tup (pa_cons pe_int (pa_cons pe_int pa_nil))) (pa_cons (pe_tup (pa_cons pe_int (pa_cons pe_int pa_nil))) (pa_cons (pe_tup (pa_cons pe_int (pa_cons pe_int pa_nil))) (pa_cons (pe_tup (pa_cons pe_int (pa_cons pe_int pa_nil))) (pa_cons (pe_tup (pa_cons pe_int (pa_cons pe_int pa_nil))) (pa_cons (pe_tup (pa_cons pe_int (pa_cons pe_int pa_nil))) (pa_cons (pe_tup (pa_cons pe_int (pa_cons pe_int pa_nil))) (pa_cons (pe_tup (pa_cons pe_int (pa_cons pe_int pa_nil))) (pa_cons (pe_tup (pa_cons pe_int (pa_cons pe_int pa_nil))) pa_nil)))))))))) ⟨rfl, rfl, by rfl, rfl⟩) pa_nil)) pass0)))), ?rd⟩), hm, F.kp, F.bindsN fun _ _ _ _ _ _ us hl => match us, hl with | [_, _], _ => rfl, .nil⟩
  case hl =>
    obtain ⟨b, z, rfl, _⟩ := h
    rfl
  case rd =>
    obtain ⟨b, z, rfl, hb, q⟩ := h
    refine k_start (σ' := [some _, some _, none]) rfl ?_
    walk_at "g"
    refine k_disp fun p np => ?_
    with_reducible refine k_pr ?_
    with_reducible refine k_c ?_
    refine (show tLst (tPrs [(1, 0), (2, 0), (1, 0)]) _ _ _ from k_lprs _ (by decide) fun Z1 p1 H1 n1 s1 z1 q1 e1 => ?_)
    with_reducible refine k_pr ?_
    with_reducible refine k_c ?_
    refine (show tLst (tPrs [(0, 0), (1, 1)]) _ _ _ from k_lprs _ (by decide) fun Z2 p2 H2 n2 s2 z2 q2 e2 => ?_)
    with_reducible refine k_pr ?_
    with_reducible refine k_c ?_
    refine (show tLst (tPrs [(0, 1), (0, 2), (1, 2)]) _ _ _ from k_lprs _ (by decide) fun Z3 p3 H3 n3 s3 z3 q3 e3 => ?_)
    walk_at "g"
    have ep : H3 p = some (.dK []) := s3 _ _ (s2 _ _ (s1 _ _ upd_same))
    refine ⟨ep, [(.inr "lean", .ref p1), (.inr "even", .ref p2), (.inr "fat", .ref p3)], rfl, by show 3 ≤ 15; decide, ?_⟩
    have sm3 : Same H (upd H3 p (.dK (mergeK [] [(.inr "lean", .ref p1), (.inr "even", .ref p2), (.inr "fat", .ref p3)]))) := sm_mut (((sm_new np).trans s1).trans (s2.trans s3)) np
    have a1 : (upd H3 p (.dK (mergeK [] [(.inr "lean", .ref p1), (.inr "even", .ref p2), (.inr "fat", .ref p3)]))) p1 = some (.lst (Z1.map fun q => V.ref q.1)) := by
      have h := s3 _ _ (s2 _ _ e1)
      rw [upd_ne (ne_of h ep (fun z => by cases z))]
      exact h
    have a2 : (upd H3 p (.dK (mergeK [] [(.inr "lean", .ref p1), (.inr "even", .ref p2), (.inr "fat", .ref p3)]))) p2 = some (.lst (Z2.map fun q => V.ref q.1)) := by
      have h := s3 _ _ e2
      rw [upd_ne (ne_of h ep (fun z => by cases z))]
      exact h
    have a3 : (upd H3 p (.dK (mergeK [] [(.inr "lean", .ref p1), (.inr "even", .ref p2), (.inr "fat", .ref p3)]))) p3 = some (.lst (Z3.map fun q => V.ref q.1)) := by
      rw [upd_ne (ne_of e3 ep (fun z => by cases z))]
      exact e3
    have tt : ∀ (Z : List (Addr × Int × Int)), (∀ q ∈ Z, H3 q.1 = some (.tup [.int q.2.1, .int q.2.2])) → ∀ q ∈ Z, (upd H3 p (.dK (mergeK [] [(.inr "lean", .ref p1), (.inr "even", .ref p2), (.inr "fat", .ref p3)]))) q.1 = some (.tup [.int q.2.1, .int q.2.2]) := fun Z h q hq => by
      rw [upd_ne (ne_of (h q hq) ep (fun z => by cases z))]
      exact h q hq
    have t1 := tt Z1 fun q hq => s3 _ _ (s2 _ _ (q1 q hq))
    have t2 := tt Z2 fun q hq => s3 _ _ (q2 q hq)
    have t3 := tt Z3 q3
    have a0 : (upd H3 p (.dK (mergeK [] [(.inr "lean", .ref p1), (.inr "even", .ref p2), (.inr "fat", .ref p3)]))) p = some (.dK [(.inr "lean", .ref p1), (.inr "even", .ref p2), (.inr "fat", .ref p3)]) := upd_same
    generalize upd H3 p (.dK (mergeK [] [(.inr "lean", .ref p1), (.inr "even", .ref p2), (.inr "fat", .ref p3)])) = G at *
    walk_at "g"
    refine k_dg2 ?_
    walk_at "g"
    refine ⟨p, rfl, .inl ⟨_, .inl a0⟩, ?_⟩
    with_reducible refine k_var (v := .str z) rfl ?_
    refine (show tLst (tPrs [(2, 1), (2, 2), (1, 0), (0, 0), (0, 1), (1, 1), (1, 2), (2, 0), (0, 2)]) _ _ _ from k_lprs _ (by decide) fun Z4 p4 H4 n4 s4 z4 q4 e4 => ?_)
    have sAll := sm3.trans s4
    have hb4 := hb.sm sAll
    have done : ∀ (ps : List (Int × Int)) (Z : List (Addr × Int × Int)) (pz : Addr), 0 < ps.length → ps.length ≤ 9 → Z.map (·.2) = ps → (∀ q ∈ Z, H4 q.1 = some (.tup [.int q.2.1, .int q.2.2])) → H4 pz = some (.lst (Z.map fun q => V.ref q.1)) → (∀ u ∈ ps, MsOk z u.1 u.2) → spOne K [.ref b, .ref pz] H4 Q E0 := by
      intro ps Z pz l0 l9 ez hz hp hms
      have lz : (Z.map fun q => V.ref q.1).length = ps.length := by rw [← ez, List.length_map, List.length_map]
      refine ⟨b, .ref pz, rfl, hb4, .inl ⟨pz, _, rfl, sq_l hp, by omega, by omega, fun x hx => ?_⟩⟩
      obtain ⟨u, hu, rfl⟩ := List.mem_map.mp hx
      exact q u.1 u.2.1 u.2.2 H4 (hms u.2 (by rw [← ez]; exact List.mem_map.mpr ⟨u, hu, rfl⟩)) sAll (hz u hu)
    have big : ∀ u ∈ [((2 : Int), (1 : Int)), (2, 2), (1, 0), (0, 0), (0, 1), (1, 1), (1, 2), (2, 0), (0, 2)], 0 ≤ u.1 ∧ u.1 ≤ 2 ∧ 0 ≤ u.2 ∧ u.2 ≤ 2 := by decide
    have ne1 : ¬ (Str.ofString "lean" : Str) = Str.ofString "even" := by decide +kernel
    have ne2 : ¬ (Str.ofString "lean" : Str) = Str.ofString "fat" := by decide +kernel
    have ne3 : ¬ (Str.ofString "even" : Str) = Str.ofString "fat" := by decide +kernel
    by_cases d1 : z = Str.ofString "lean"
    · refine ⟨some (.ref p1), by rw [d1]; exact DGet.k (k := .inr "lean") (s4 _ _ a0), ?_⟩
      walk_at "g"
      refine done _ Z1 p1 (by decide) (by decide) z1 (fun q hq => s4 _ _ (t1 q hq)) (s4 _ _ a1) fun u hu => ?_
      rcases List.mem_cons.mp hu with rfl | hu
      · exact ⟨by decide, by decide, by decide, by decide, fun _ => by decide, fun e => absurd (d1.symm.trans e) ne1, fun e => absurd (d1.symm.trans e) ne2⟩
      rcases List.mem_cons.mp hu with rfl | hu
      · exact ⟨by decide, by decide, by decide, by decide, fun _ => by decide, fun e => absurd (d1.symm.trans e) ne1, fun e => absurd (d1.symm.trans e) ne2⟩
      rcases List.mem_cons.mp hu with rfl | hu
      · exact ⟨by decide, by decide, by decide, by decide, fun _ => by decide, fun e => absurd (d1.symm.trans e) ne1, fun e => absurd (d1.symm.trans e) ne2⟩
      cases hu
    by_cases d2 : z = Str.ofString "even"
    · refine ⟨some (.ref p2), by rw [d2]; exact DGet.k (k := .inr "even") (s4 _ _ a0), ?_⟩
      walk_at "g"
      refine done _ Z2 p2 (by decide) (by decide) z2 (fun q hq => s4 _ _ (t2 q hq)) (s4 _ _ a2) fun u hu => ?_
      rcases List.mem_cons.mp hu with rfl | hu
      · exact ⟨by decide, by decide, by decide, by decide, fun e => absurd e d1, fun _ => by decide, fun e => absurd (d2.symm.trans e) ne3⟩
      rcases List.mem_cons.mp hu with rfl | hu
      · exact ⟨by decide, by decide, by decide, by decide, fun e => absurd e d1, fun _ => by decide, fun e => absurd (d2.symm.trans e) ne3⟩
      cases hu
    by_cases d3 : z = Str.ofString "fat"
    · refine ⟨some (.ref p3), by rw [d3]; exact DGet.k (k := .inr "fat") (s4 _ _ a0), ?_⟩
      walk_at "g"
      refine done _ Z3 p3 (by decide) (by decide) z3 (fun q hq => s4 _ _ (t3 q hq)) (s4 _ _ a3) fun u hu => ?_
      rcases List.mem_cons.mp hu with rfl | hu
      · exact ⟨by decide, by decide, by decide, by decide, fun e => absurd e d1, fun e => absurd e d2, fun _ => by decide⟩
      rcases List.mem_cons.mp hu with rfl | hu
      · exact ⟨by decide, by decide, by decide, by decide, fun e => absurd e d1, fun e => absurd e d2, fun _ => by decide⟩
      rcases List.mem_cons.mp hu with rfl | hu
      · exact ⟨by decide, by decide, by decide, by decide, fun e => absurd e d1, fun e => absurd e d2, fun _ => by decide⟩
      cases hu
    · refine ⟨valV [((.inr "lean" : Key), V.ref p1), (.inr "even", .ref p2), (.inr "fat", .ref p3)] (.inr z), DGet.k (k := .inr z) (s4 _ _ a0), ?_⟩
      have en : valV [((.inr "lean" : Key), V.ref p1), (.inr "even", .ref p2), (.inr "fat", .ref p3)] (.inr z) = none := by
        rw [valV_neg (fun e => d1 (by injection e with e; exact e.symm)), valV_neg (fun e => d2 (by injection e with e; exact e.symm)), valV_neg (fun e => d3 (by injection e with e; exact e.symm))]
        rfl
      rw [en]
      walk_at "g"
      refine done _ Z4 p4 (by decide) (by decide) z4 q4 e4 fun u hu => ?_
      obtain ⟨b1, b2, b3, b4⟩ := big u hu
      exact ⟨b1, b2, b3, b4, fun e => absurd e d1, fun e => absurd e d2, fun e => absurd e d3⟩
theorem k_letters {H : Hp} {Q : VK} {E : XK} {b : Addr} {n : Int} (hb : BagOk H b) (h0 : 0 ≤ n) (h3 : n ≤ 3) (q : ∀ (cs : List Nat) H', Rise cs → cs.length = n.toNat → Same H H' → Q (.str (tx cs)) H') : spLetters ([.ref b, .int n] ++ []) H Q E :=
  ⟨b, n.toNat, by rw [Int.toNat_of_nonneg h0]; rfl, hb, by omega, q⟩
/-! ### a house drawn -/
/-- the dict of a house, whatever the order of its entries -/
structure MDk (H : Hp) (m : Addr) (S : HsD) (tb ev : Addr) : Prop where
  ex : ∃ kvs : List (Key × V), H m = some (.dK kvs) ∧ kvs.length ≤ 7 ∧ (valV kvs (.inr "letters") = some (.str (tx S.ls)) ∧ valV kvs (.inr "table") = some (.ref tb) ∧ valV kvs (.inr "eats") = some (.ref ev)) ∧ valV kvs (.inr "chew") = some (.int S.ch) ∧ valV kvs (.inr "put") = some (.str (tx S.pt)) ∧ valV kvs (.inr "most") = some (.int S.mo) ∧ valV kvs (.inr "cut") = some (.int S.cu)
theorem MDk.sm {H H' : Hp} {m : Addr} {S : HsD} {tb ev : Addr} (s : Same H H') (h : MDk H m S tb ev) : MDk H' m S tb ev := by
  obtain ⟨kvs, h1, h2⟩ := h.ex
  exact ⟨kvs, s _ _ h1, h2⟩
def MAt (K : PySem.W.Frag) (H : Hp) (m : Addr) (S : HsD) : Prop := ∃ (tb ev : Addr) (R : List RwI) (L : List RwM), MDk H m S tb ev ∧
  SqL K H tb (R.map fun q => V.ref q.1) ∧ (∀ q ∈ R, SqT K H q.1 (q.2.map V.int)) ∧ R.map (·.2) = S.tb ∧ SqL K H ev (L.map fun q => V.ref q.1) ∧ (∀ q ∈ L, SqT K H q.1 (q.2.map kV)) ∧ L.map (·.2) = S.tr
theorem MAt.sm {H H' : Hp} {m : Addr} {S : HsD} (s : Same H H') (h : MAt K H m S) : MAt K H' m S := by
  obtain ⟨tb, ev, R, L, h1, h2, h3, h4, h5, h6, h7⟩ := h
  exact ⟨tb, ev, R, L, h1.sm s, sm_l s h2, fun q hq => sm_t s (h3 q hq), h4, sm_l s h5, fun q hq => sm_t s (h6 q hq), h7⟩
section
variable {H : Hp} {Q : VK} {m : Addr} {S : HsD}
theorem k_mLet (hM : MAt K H m S) (h : Q (.str (tx S.ls)) H) : nDg (.ref m) (.str "letters") H Q := by
  obtain ⟨tb, ev, R, L, h1, _⟩ := hM
  obtain ⟨kvs, k0, _, k1, k2, k3, k4, k5⟩ := h1.ex
  exact k_nDg k0 k1.1 h
theorem k_mChew (hM : MAt K H m S) (h : Q (.int S.ch) H) : nDg (.ref m) (.str "chew") H Q := by
  obtain ⟨tb, ev, R, L, h1, _⟩ := hM
  obtain ⟨kvs, k0, _, k1, k2, k3, k4, k5⟩ := h1.ex
  exact k_nDg k0 k2 h
theorem k_mPut (hM : MAt K H m S) (h : Q (.str (tx S.pt)) H) : nDg (.ref m) (.str "put") H Q := by
  obtain ⟨tb, ev, R, L, h1, _⟩ := hM
  obtain ⟨kvs, k0, _, k1, k2, k3, k4, k5⟩ := h1.ex
  exact k_nDg k0 k3 h
theorem k_mMost (hM : MAt K H m S) (h : Q (.int S.mo) H) : nDg (.ref m) (.str "most") H Q := by
  obtain ⟨tb, ev, R, L, h1, _⟩ := hM
  obtain ⟨kvs, k0, _, k1, k2, k3, k4, k5⟩ := h1.ex
  exact k_nDg k0 k4 h
theorem k_mCut (hM : MAt K H m S) (h : Q (.int S.cu) H) : nDg (.ref m) (.str "cut") H Q := by
  obtain ⟨tb, ev, R, L, h1, _⟩ := hM
  obtain ⟨kvs, k0, _, k1, k2, k3, k4, k5⟩ := h1.ex
  exact k_nDg k0 k5 h
theorem k_mTab {tb ev : Addr} (hM : MDk H m S tb ev) (h : Q (.ref tb) H) : nDg (.ref m) (.str "table") H Q := by
  obtain ⟨kvs, k0, _, k1, k2, k3, k4, k5⟩ := hM.ex
  exact k_nDg k0 k1.2.1 h
theorem k_mEats {tb ev : Addr} (hM : MDk H m S tb ev) (h : Q (.ref ev) H) : nDg (.ref m) (.str "eats") H Q := by
  obtain ⟨kvs, k0, _, k1, k2, k3, k4, k5⟩ := hM.ex
  exact k_nDg k0 k1.2.2 h
end
/-- what is new of it: the dict and its list of eats -/
structure HdOk (K : PySem.W.Frag) (H H' : Hp) (m : Addr) (z : Str) (S : HsD) : Prop extends MsOk z S.ch S.pt.length where
  n0 : H m = none
  n1 : ∃ (tb ev : Addr) (R : List RwI) (L : List RwM), H' m = some (.dK [(.inr "letters", .str (tx S.ls)), (.inr "table", .ref tb), (.inr "eats", .ref ev), (.inr "chew", .int S.ch), (.inr "put", .str (tx S.pt)), (.inr "most", .int S.mo), (.inr "cut", .int S.cu)]) ∧
    H' tb = some (.lst (R.map fun q => V.ref q.1)) ∧ (∀ q ∈ R, SqT K H' q.1 (q.2.map V.int)) ∧ R.map (·.2) = S.tb ∧ H' ev = some (.lst (L.map fun q => V.ref q.1)) ∧ (∀ q ∈ L, SqT K H' q.1 (q.2.map kV)) ∧ L.map (·.2) = S.tr ∧ H ev = none ∧ tb ≠ ev ∧ S.tr.length ≤ 7
def spLHouse (K : PySem.W.Frag) : Sp := fun vs H Q _ => ∃ (b : Addr) (z : Str) (n : Int), vs = [.ref b, .str z, .int n] ∧ BagOk H b ∧ n ≤ 14 ∧ ∀ (S : HsD) (m : Addr) H', HsOk S → HdOk K H H' m z S → Same H H' → MAt K H' m S → Q (.ref m) H'
theorem ok_Lhouse (F : FnP K "_law_house" s_Lhouse f fd) (hm : mg "_law_house" = some (.ref f)) (f_range : mg "range" = none) (f_tuple : mg "tuple" = none) (f_sum : mg "sum" = none) (c_Lpull : Callee P w K mg base CX0 "_law_pull" 1 [] spPull) (c_Lone : Callee P w K mg base CX0 "_law_one" 2 [] (spOne K))
    (c_Lmeasures : Callee P w K mg base CX0 "_law_measures" 3 [] spMs) (c_Lletters : Callee P w K mg base CX0 "_law_letters" 2 [] spLetters) : Callee P w K mg base CX0 "_law_house" 4 [] (spLHouse K) := by
  refine ⟨f, fd, _, [], F.ok sc_Lhouse (fun vs H Q E h => ?hl) (fun cdv A outer s H vs Q E hr h => ⟨_, PSs.nox (pss_cons (ps_set (i := 3) sc_Lhouse.nd rfl (by first | exact Or.inl rfl | exact Or.inr rfl) (pe_op (op_addK K) pe_int (pe_cl c_Lpull hr (pa_cons (pv 0) (pa_cons pe_int pa_nil)) pass0)))
      (pss_cons (ps_setLc (i := 4) (own := [("_law_size", 14)]) rfl sc_Lhouse.nd rfl rfl (sw_true rfl rfl rfl (by decide +kernel)) (pi_tupK K (pe_tup (pa_cons pe_int (pa_cons pe_int (pa_cons pe_int pa_nil))))) (blkOk_by (N := ["_law_bag_here", "_law_sort", "_law_most_words", "_law_many", "_law_sizes", "_law_letters_here", "_law_longest", "_law_rooms", "_law_table", "_law_triples", "_law_k", "_law_chewing", "_law_plus", "_law_m", "_law_size", "_law_row_here", "_law_sign"]) (sc := defScope s_Lhouse) (by decide +kernel)) (fun _ _ _ _ _ => (pg_name (i := 14) sc_Lhouse.nd rfl (by first | exact Or.inl rfl | exact Or.inr rfl))) (fun _ _ _ _ _ => (pts_one (pt_cmpR op_leU (pe_callB (cr_sumK K) (by rfl) f_sum (by decide +kernel) (pa_cons (pe_slice (sl_k K) (pe_lst (pa_cons (pv 3) (pa_cons (pe_op op_pow (pv 3) pe_int) (pa_cons (pe_op op_pow (pv 3) pe_int) pa_nil)))) po_none (po_some (pv 14))) pa_nil)) (pv 2) (nomark _)))) (fun _ _ _ _ _ => (pv 14)))
      (pss_cons (ps_set (i := 5) sc_Lhouse.nd rfl (by first | exact Or.inl rfl | exact Or.inr rfl) (pe_cl c_Lletters hr (pa_cons (pv 0) (pa_cons (pe_ifExp (pt_cmpR (op_neK K hr.units) (pv 4) (pe_lst pa_nil) (nomark _)) (pv 3) pe_int) pa_nil)) pass0))
      (pss_cons (ps_set (i := 6) sc_Lhouse.nd rfl (by first | exact Or.inl rfl | exact Or.inr rfl) (pe_cl c_Lone hr (pa_cons (pv 0) (pa_cons (pe_ifExp (pt_cmpR (op_neK K hr.units) (pv 4) (pe_lst pa_nil) (nomark _)) (pv 4) (pe_lst (pa_cons pe_int pa_nil))) pa_nil)) pass0))
      (pss_cons (ps_set (i := 7) sc_Lhouse.nd rfl (by first | exact Or.inl rfl | exact Or.inr rfl) (pe_op (op_addK K) pe_int (pe_cl c_Lpull hr (pa_cons (pv 0) (pa_cons pe_int pa_nil)) pass0)))
      (pss_cons (ps_setLc (i := 8) (own := [("_law_row_here", 15)]) rfl sc_Lhouse.nd rfl rfl (sw_true rfl rfl rfl (by decide +kernel)) (pi_range1 (by rfl) f_range (pa_cons (pv 7) pa_nil)) (blkOk_by (N := ["_law_bag_here", "_law_sort", "_law_most_words", "_law_many", "_law_sizes", "_law_letters_here", "_law_longest", "_law_rooms", "_law_table", "_law_triples", "_law_k", "_law_chewing", "_law_plus", "_law_m", "_law_size", "_law_row_here", "_law_sign"]) (sc := defScope s_Lhouse) (by decide +kernel)) (fun _ _ _ _ _ => (pg_name (i := 15) sc_Lhouse.nd rfl (by first | exact Or.inl rfl | exact Or.inr rfl))) (fun _ _ _ _ _ => pts_nil) (fun _ _ _ _ _ => (pe_callTy (call_tupK K) (by rfl) f_tuple (by decide +kernel) (pa_cons (pe_lc (own := [("_law_sign", 16)]) rfl sc_Lhouse.nd (pi_str (pv 5)) (blkOk_by (N := ["_law_bag_here", "_law_sort", "_law_most_words", "_law_many", "_law_sizes", "_law_letters_here", "_law_longest", "_law_rooms", "_law_table", "_law_triples", "_law_k", "_law_chewing", "_law_plus", "_law_m", "_law_size", "_law_row_here", "_law_sign"]) (sc := rlb _ (defScope s_Lhouse)) (by decide +kernel)) (fun _ _ _ _ _ => (pg_name (i := 16) sc_Lhouse.nd rfl (by first | exact Or.inl rfl | exact Or.inr rfl))) (fun _ _ _ _ _ => pts_nil) (fun _ _ _ _ _ => (pe_cl c_Lpull hr (pa_cons (pv 0) (pa_cons (pv 7) pa_nil)) pass0))) pa_nil))))
      (pss_cons (ps_set (i := 9) sc_Lhouse.nd rfl (by first | exact Or.inl rfl | exact Or.inr rfl) (pe_lst (pa_cons (pe_tup (pa_cons pe_str (pa_cons pe_int (pa_cons (pe_cl c_Lpull hr (pa_cons (pv 0) (pa_cons (pv 7) pa_nil)) pass0) pa_nil)))) pa_nil)))
      (pss_cons (ps_for PassesOwn.never rfl (pi_range1 (by rfl) f_range (pa_cons (pe_cl c_Lpull hr (pa_cons (pv 0) (pa_cons pe_int pa_nil)) pass0) pa_nil)) (pg_name (i := 10) sc_Lhouse.nd rfl (by first | exact Or.inl rfl | exact Or.inr rfl)) (pss_one (ps_expr (pe_bmK K PySem.F.plainAttrs_list PySem.F.slot_list_append PySem.F.type_list_append mt_append (pv 9) (pa_cons (pe_tup (pa_cons (pe_cl c_Lone hr (pa_cons (pv 0) (pa_cons (pe_lst (pa_cons pe_str (pa_cons pe_str pa_nil))) pa_nil)) pass0) (pa_cons (pe_cl c_Lpull hr (pa_cons (pv 0) (pa_cons (pv 7) pa_nil)) pass0) (pa_cons (pe_cl c_Lpull hr (pa_cons (pv 0) (pa_cons (pv 7) pa_nil)) pass0) pa_nil)))) pa_nil)))))
      (pss_cons (ps_asg (pe_cl c_Lmeasures hr (pa_cons (pv 0) (pa_cons (pv 1) pa_nil)) pass0) (pg_tupK K 2 (by rfl) (pgs_cons (pg_name (i := 11) sc_Lhouse.nd rfl (by first | exact Or.inl rfl | exact Or.inr rfl)) (pgs_cons (pg_name (i := 3) sc_Lhouse.nd rfl (by first | exact Or.inl rfl | exact Or.inr rfl)) pgs_nil))))
      (pss_cons (ps_set (i := 12) sc_Lhouse.nd rfl (by first | exact Or.inl rfl | exact Or.inr rfl) (pe_joinK K pe_str (pe_lc (own := [("_law_k", 10)]) rfl sc_Lhouse.nd (pi_range1 (by rfl) f_range (pa_cons (pv 3) pa_nil)) (blkOk_by (N := ["_law_bag_here", "_law_sort", "_law_most_words", "_law_many", "_law_sizes", "_law_letters_here", "_law_longest", "_law_rooms", "_law_table", "_law_triples", "_law_k", "_law_chewing", "_law_plus", "_law_m", "_law_size", "_law_row_here", "_law_sign"]) (sc := defScope s_Lhouse) (by decide +kernel)) (fun _ _ _ _ _ => (pg_name (i := 10) sc_Lhouse.nd rfl (by first | exact Or.inl rfl | exact Or.inr rfl))) (fun _ _ _ _ _ => pts_nil) (fun _ _ _ _ _ => (pe_cl c_Lone hr (pa_cons (pv 0) (pa_cons (pv 5) pa_nil)) pass0)))))
      (pss_cons (ps_set (i := 13) sc_Lhouse.nd rfl (by first | exact Or.inl rfl | exact Or.inr rfl) (pe_disp (pps_cons pe_str (pv 5) (pps_cons pe_str (pv 8) (pps_cons pe_str (pv 9) (pps_cons pe_str (pv 11) (pps_cons pe_str (pv 12) (pps_cons pe_str (pv 6) pps_nil)))))) (by rfl) (by rfl) (fun z => by cases z) (by decide)))
      (pss_cons (ps_dput (hu_of hr) (pv 13) pe_str (pe_op (op_addK K) pe_int (pe_cl c_Lpull hr (pa_cons (pv 0) (pa_cons (pv 6) pa_nil)) pass0)) rfl)
      (pss_one (ps_ret (pv 13))))))))))))))), ?rd⟩), hm, F.kp, F.bindsN fun _ _ _ _ _ _ us hl => match us, hl with | [_, _, _], _ => rfl, .nil⟩
  case hl =>
    obtain ⟨b, z, n, rfl, _⟩ := h
    rfl
  case rd =>
    obtain ⟨b, z, n, rfl, hb, hn, q⟩ := h
    refine k_start (σ' := [some _, some _, some _, none, none, none, none, none, none, none, none, none, none, none, none, none, none]) rfl ?_
    have hpw : ∀ (i j : Int), 0 ≤ j → j ≤ 3 → 0 ≤ i → i ≤ 3 → CPow i j := fun i j a b c d => ⟨a, by omega, by omega⟩
    walk_at "g"
    refine k_pull hb (by omega) (by omega) (fun m0 m1 m2 => ?_)
    obtain ⟨M, hM⟩ : ∃ M : Nat, (1 + m0 : Int) = (M : Int) := ⟨(1 + m0).toNat, by omega⟩
    walk_at "g"
    rw [hM]
    refine k_nTup (by walk_at "sz") (fun p1 H1 n1 s1 e1 => ?_)
    walk_at "g"
    refine k_nLc (walk_tup (xs := [.int 1, .int 2, .int 3])) (fun H' s2 => sm_t s2 (sq_t e1)) (fun i ws => ∃ ks : List Nat, ws = ks.map (fun k => V.int (k : Nat)) ∧ ks.length ≤ i ∧ ∀ k ∈ ks, 1 ≤ k ∧ k ≤ 3 ∧ wcount M k ≤ n) ⟨[], rfl, Nat.le_refl _, fun k hk => nomatch hk⟩ (fun i ws hi hw => ?hz) (fun i v Hc Hd ws Kp Ks hi sa hws hy2 hKp hKs => ?ht) (fun p2 H2 ws n2 s2 e2 hws => ?he)
    case hz =>
      obtain ⟨ks, rfl, lk, _⟩ := hw
      have : i ≤ 3 := hi
      rw [List.length_map]
      omega
    case ht =>
      obtain ⟨rfl, hv⟩ := hy2
      obtain ⟨k, hk, rfl⟩ : ∃ k : Nat, (1 ≤ k ∧ k ≤ 3) ∧ v = .int (k : Nat) := by
        have : i = 0 ∨ i = 1 ∨ i = 2 := by
          have : i < 3 := hi
          omega
        rcases this with rfl | rfl | rfl <;> cases hv
        · exact ⟨1, by decide, rfl⟩
        · exact ⟨2, by decide, rfl⟩
        · exact ⟨3, by decide, rfl⟩
      walk_at "g"
      refine ⟨rfl, ?_⟩
      walk_at "g"
      refine k_I (hpw _ 2 (by decide) (by decide) (by omega) (by omega)) ?_
      walk_at "g"
      refine k_I (hpw _ 3 (by decide) (by decide) (by omega) (by omega)) ?_
      walk_at "g"
      refine k_nLst (by walk_at "sz") (fun p3 H3 n3 s3 e3 => ?_)
      walk_at "g"
      refine k_sl_l (sq_l e3) (fun p4 H4 n4 s4 e4 => ?_)
      rw [cutV_to] at e4
      walk_at "g"
      refine k_sum (ns := [(M : Int) ^ 1, (M : Int) ^ 2, (M : Int) ^ 3].take k) (sq_l (by rw [e4, List.map_take]; show _ = some (HO.lst (List.take k [V.int ((M : Int) ^ 1), V.int ((M : Int) ^ 2), V.int ((M : Int) ^ 3)])); rw [show ((M : Int) ^ 1) = M from (show (M : Int) ^ (0 + 1) = M by rw [Int.pow_succ, Int.pow_zero, Int.one_mul])]; rfl)) ?_
      walk_at "g"
      obtain ⟨ks, hw, lk, hks⟩ := hws
      refine k_dec (fun d => ?_) (fun d => ?_)
      · walk_at "g"
        refine hKp _ _ (s3.trans s4) ⟨ks ++ [k], by rw [hw, List.map_append]; rfl, by rw [List.length_append]; exact Nat.succ_le_succ lk, fun j hj => ?_⟩
        rcases List.mem_append.mp hj with hj | hj
        · exact hks j hj
        · rw [List.mem_singleton.mp hj]
          exact ⟨hk.1, hk.2, d⟩
      · walk_at "g"
        exact hKs _ (s3.trans s4) ⟨ks, hw, Nat.le_succ_of_le lk, hks⟩
    case he =>
      obtain ⟨ks, hw, lk, hks⟩ := hws
      have lk3 : ks.length ≤ 3 := lk
      subst hw
      have eI : ks.map (fun k => V.int ((k : Nat) : Int)) = (ks.map fun k => ((k : Nat) : Int)).map V.int := by rw [List.map_map]; rfl
      have hsz : SqL K H2 p2 ((ks.map fun k => ((k : Nat) : Int)).map V.int) := by rw [← eI]; exact sq_l e2
      have hbd : ∀ x ∈ ks.map (fun k => ((k : Nat) : Int)), x.natAbs ≤ 2 ^ 63 := fun x hx => by
        obtain ⟨k, hk, rfl⟩ := List.mem_map.mp hx
        have := (hks k hk).2.1
        omega
      have enil : decide (ks.map (fun k => ((k : Nat) : Int)) = []) = decide (ks = []) := by cases ks <;> rfl
      have s02 := s1.trans s2
      have hb2 := hb.sm s02
      with_reducible refine k_name ?_
      with_reducible refine k_seq ?_
      with_reducible refine k_asg ?_
      with_reducible refine k_call ?_
      with_reducible refine k_cons ?_
      with_reducible refine k_var rfl ?_
      with_reducible refine k_cons ?_
      refine k_post (fun v H' => v = .int (if ks = [] then 1 else (M : Int)) ∧ Same H2 H') (fun Q' hQ => ?_) (fun v H3 hv => ?_)
      · walk_at "g"
        refine k_nLst (by walk_at "sz") (fun p3 H3 n3 s3 e3 => ?_)
        refine k_neNil (sm_l s3 hsz) (sq_l e3) hbd (by rw [List.length_map]; omega) ?_
        rw [enil]
        walk_at "g"
        refine k_dec (fun d => ?_) (fun d => ?_)
        · walk_at "g"
          exact hQ _ _ ⟨by rw [if_pos d], s3⟩
        · walk_at "g"
          exact hQ _ _ ⟨by rw [if_neg d], s3⟩
      obtain ⟨rfl, s3⟩ := hv
      have hb3 := hb2.sm s3
      have hsz3 := sm_l s3 hsz
      walk_at "g"
      refine k_letters (n := if ks = [] then 1 else (M : Int)) hb3 (by split <;> omega) (by split <;> omega) (fun cs H4 hr0 hc s4 => ?_)
      have hb4 := hb3.sm s4
      have hsz4 := sm_l s4 hsz3
      with_reducible refine k_name ?_
      with_reducible refine k_seq ?_
      with_reducible refine k_asg ?_
      with_reducible refine k_call ?_
      with_reducible refine k_cons ?_
      with_reducible refine k_var rfl ?_
      with_reducible refine k_cons ?_
      refine k_post (fun v H' => Same H4 H' ∧ ∃ (pl : Addr) (js : List Nat), v = .ref pl ∧ SqL K H' pl (js.map fun k => V.int (k : Nat)) ∧ 0 < js.length ∧ js.length ≤ 3 ∧ ∀ k ∈ js, 1 ≤ k ∧ k ≤ 3 ∧ wcount cs.length k ≤ 14) (fun Q' hQ => ?_) (fun v H5 hv => ?_)
      · walk_at "g"
        refine k_nLst (by walk_at "sz") (fun p5 H5 n5 s5 e5 => ?_)
        refine k_neNil (sm_l s5 hsz4) (sq_l e5) hbd (by rw [List.length_map]; omega) ?_
        rw [enil]
        walk_at "g"
        refine k_dec (fun d => ?_) (fun d => ?_)
        · walk_at "g"
          refine k_nLst (by walk_at "sz") (fun p6 H6 n6 s6 e6 => ?_)
          refine hQ _ _ ⟨s5.trans s6, p6, [1], rfl, sq_l e6, by decide, by decide, fun k hk => ?_⟩
          rw [List.mem_singleton.mp hk]
          have : cs.length = 1 := by rw [hc, if_pos d]; rfl
          rw [this]
          exact ⟨by decide, by decide, by decide⟩
        · walk_at "g"
          refine hQ _ _ ⟨s5, p2, ks, rfl, by rw [eI]; exact sm_l s5 hsz4, List.length_pos_iff.mpr d, lk3, fun k hk => ?_⟩
          obtain ⟨k1, k2, k3⟩ := hks k hk
          have : cs.length = M := by rw [hc, if_neg d]; rfl
          rw [this]
          exact ⟨k1, k2, by omega⟩
      obtain ⟨s5, pl, js, rfl, hjs, j0, j3, hj⟩ := hv
      have hb5 := hb4.sm s5
      have lcs : 1 ≤ cs.length ∧ cs.length ≤ 3 := by
        rw [hc]
        split <;> omega
      walk_at "g"
      refine ⟨b, .ref pl, rfl, hb5, .inl ⟨pl, _, rfl, hjs, by rw [List.length_map]; exact j0, by rw [List.length_map]; omega, fun x hx => ?_⟩⟩
      obtain ⟨lo, hlo, rfl⟩ := List.mem_map.mp hx
      obtain ⟨lo1, lo3, low⟩ := hj lo hlo
      walk_at "g"
      refine k_pull hb5 (by omega) (by omega) (fun r0 r1 r2 => ?_)
      walk_at "g"
      obtain ⟨rm, hrm⟩ : ∃ rm : Nat, (1 + r0 : Int) = (rm : Int) := ⟨(1 + r0).toNat, by omega⟩
      rw [hrm]
      have szc : (tx cs).cps.size = cs.length := len_tx cs
      refine k_nLcD walk_range (fun _ _ => trivial) (fun i ws H' => ∃ R : List RwI, ws = R.map (fun q => V.ref q.1) ∧ R.length = i ∧ ∀ q ∈ R, SqT K H' q.1 (q.2.map V.int) ∧ q.2.length = cs.length ∧ ∀ x ∈ q.2, 0 ≤ x ∧ x < rm) (fun i ws H1 H2 s h => ?hm1) ⟨[], rfl, rfl, fun q hq => nomatch hq⟩ (fun i ws H1 hi h => ?hz1) (fun i v p H6 H7 ws Kp Ks hi hp s6 e6 hws hy hKp hKs => ?ht1) (fun pt H6 ws nt s6 e6 hws => ?he1)
      case hm1 =>
        obtain ⟨R, h1, h2, h3⟩ := h
        exact ⟨R, h1, h2, fun q hq => ⟨sm_t s (h3 q hq).1, (h3 q hq).2⟩⟩
      case hz1 =>
        obtain ⟨R, h1, h2, h3⟩ := h
        rw [h1, List.length_map, h2]
        omega
      case ht1 =>
        obtain ⟨rfl, rfl⟩ := hy
        obtain ⟨R, h1, h2, h3⟩ := hws
        have hb6 := hb5.sm s6
        walk_at "g"
        refine ⟨rfl, ?_⟩
        walk_at "g"
        refine k_nLc (walk_str (z := tx cs)) (fun _ _ => trivial) (fun i ws => ∃ xs : List Int, ws = xs.map V.int ∧ xs.length = i ∧ ∀ x ∈ xs, 0 ≤ x ∧ x < rm) ⟨[], rfl, rfl, fun q hq => nomatch hq⟩ (fun i ws hi h => ?hz3) (fun i v H8 H9 ws Kp2 Ks2 hi s8 hws hy hKp2 hKs2 => ?ht3) (fun p8 H8 ws n8 s8 e8 hws => ?he3)
        case hz3 =>
          obtain ⟨xs, h1, h2, _⟩ := h
          rw [h1, List.length_map, h2]
          omega
        case ht3 =>
          obtain ⟨rfl, c, hc', rfl⟩ := hy
          obtain ⟨xs, h1, h2, h3⟩ := hws
          walk_at "g"
          refine ⟨rfl, ?_⟩
          walk_at "g"
          refine k_pull (hb6.sm s8) (by omega) (by omega) (fun x x0 x1 => hKp2 _ _ (Same.refl _) ⟨xs ++ [x], by rw [h1, List.map_append]; rfl, by rw [List.length_append, h2]; rfl, fun y hy => ?_⟩)
          rcases List.mem_append.mp hy with hy | hy
          · exact h3 y hy
          · rw [List.mem_singleton.mp hy]
            exact ⟨x0, by omega⟩
        case he3 =>
          obtain ⟨xs, hx1, hx2, hx3⟩ := hws
          subst hx1
          walk_at "g"
          refine k_tup_l (sq_l e8) (fun T H9 n9 s9 e9 => ?_)
          have s79 := s8.trans s9
          refine hKp _ _ s79 ⟨R ++ [(T, xs)], by rw [h1, List.map_append]; rfl, by rw [List.length_append, h2]; rfl, fun q hq => ?_⟩
          rcases List.mem_append.mp hq with hq | hq
          · exact ⟨sm_t (del_mono s79) (h3 q hq).1, (h3 q hq).2⟩
          · cases List.mem_singleton.mp hq
            exact ⟨del_t (s79 _ _ e6) (sq_t e9), by rw [hx2]; exact szc, hx3⟩
      case he1 =>
        obtain ⟨R, hR1, hR2, hR3⟩ := hws
        subst hR1
        have hb6 := hb5.sm s6
        have rm4 : 1 ≤ rm ∧ rm ≤ 4 := by omega
        have lR : R.length = rm := by rw [hR2]; omega
        walk_at "g"
        refine k_pull hb6 (by omega) (by omega) (fun x x0 x1 => ?_)
        walk_at "g"
        refine k_nTup (by walk_at "sz") (fun T7 H7 n7 s7 e7 => ?_)
        walk_at "g"
        refine k_nLst (by walk_at "sz") (fun p8 H8 n8 s8 e8 => ?_)
        have hb8 := hb6.sm (s7.trans s8)
        walk_at "g"
        refine k_pull hb8 (by omega) (by omega) (fun k k0 k1 => ?_)
        walk_at "g"
        have s68 := s6.trans (s7.trans s8)
        have nb8 : H6 p8 = none := s7.free n8
        refine k_nFor walk_range (fun i σ H' => (∃ y10, σ = [some (.ref b), some (.str z), some (.int n), some (.int M), some (.ref p2), some (.str (tx cs)), some (.int lo), some (.int rm), some (.ref pt), some (.ref p8), y10, none, none, none, none, none, none]) ∧ Same H6 H' ∧ ∃ L : List RwM, H' p8 = some (.lst (L.map fun q => V.ref q.1)) ∧ L.length = i + 1 ∧ ∀ q ∈ L, SqT K H' q.1 (q.2.map kV) ∧ ∃ s a c, q.2 = kEat s a c ∧ 0 ≤ a ∧ a < rm ∧ 0 ≤ c ∧ c < rm)
          ⟨⟨_, rfl⟩, s7.trans s8, [(T7, kEat true 0 x)], e8, rfl, fun q hq => ?h0⟩ (fun _ _ _ _ _ => trivial) (fun i v σ H9 H10 hi h hy => ?ht2) (fun σ H9 h => ?he2)
        case h0 =>
          rw [List.mem_singleton.mp hq]
          exact ⟨sm_t s8 (sq_t e7), true, 0, x, rfl, by omega, by omega, x0, by omega⟩
        case ht2 =>
          obtain ⟨⟨y10, rfl⟩, s9, L, eL, lL, hL⟩ := h
          obtain ⟨rfl, rfl⟩ := hy
          have hb9 := hb6.sm s9
          walk_at "g"
          refine k_nLst (by walk_at "sz") (fun p10 H10 n10 s10 e10 => ?_)
          have hb10 := hb9.sm s10
          walk_at "g"
          refine ⟨b, .ref p10, rfl, hb10, .inl ⟨p10, _, rfl, sq_l e10, by show 0 < 2; decide, by show 2 ≤ 100000; decide, fun v hv => ?_⟩⟩
          obtain ⟨sd, rfl⟩ : ∃ sd : Bool, v = .str (if sd = true then Str.ofString "right" else Str.ofString "left") := by
            rcases List.mem_cons.mp hv with rfl | hv
            · exact ⟨false, rfl⟩
            rcases List.mem_cons.mp hv with rfl | hv
            · exact ⟨true, rfl⟩
            cases hv
          walk_at "g"
          refine k_pull hb10 (by omega) (by omega) (fun a a0 a1 => ?_)
          walk_at "g"
          refine k_pull hb10 (by omega) (by omega) (fun c c0 c1 => ?_)
          walk_at "g"
          refine k_nTup (by walk_at "sz") (fun T11 H11 n11 s11 e11 => ?_)
          have eL11 := (s10.trans s11) _ _ eL
          walk_at "g"
          refine k_append eL11 (by rw [List.length_map]; omega) ?_
          walk_at "g"
          refine ⟨⟨_, rfl⟩, sm_mut ((s9.trans s10).trans s11) nb8, L ++ [(T11, kEat sd a c)], by rw [upd_same, List.map_append]; rfl, by rw [List.length_append, lL]; rfl, fun q hq => ?_⟩
          rcases List.mem_append.mp hq with hq | hq
          · exact ⟨t_lst eL11 (sm_t (s10.trans s11) (hL q hq).1), (hL q hq).2⟩
          · rw [List.mem_singleton.mp hq]
            exact ⟨t_lst eL11 (sq_t e11), sd, a, c, rfl, a0, by omega, c0, by omega⟩
        case he2 =>
          obtain ⟨⟨y10, rfl⟩, s9, L, eL, lL, hL⟩ := h
          have hb9 := hb6.sm s9
          walk_at "g"
          refine ⟨b, z, rfl, hb9, fun T ch pk H10 ms s10 e10 => ?_⟩
          have hb10 := hb9.sm s10
          have lcx := len_tx cs
          have mk0 := ms.k0
          have mk2 := ms.k2
          walk_at "g"
          refine k_nLc walk_range (fun _ _ => trivial) (fun i ws => ∃ ds : List Nat, ws = (ds.map sg).map V.str ∧ ds.length = i ∧ ∀ c ∈ ds, c ∈ cs) ⟨[], rfl, rfl, fun c hc => nomatch hc⟩ (fun i ws hi h => ?hz5) (fun i v H11 H12 ws Kp Ks hi s11 hws hy hKp hKs => ?ht5) (fun p11 H11 ws n11 s11 e11 hws => ?he5)
          case hz5 =>
            obtain ⟨ds, h1, h2, _⟩ := h
            rw [h1, List.length_map, List.length_map, h2]
            omega
          case ht5 =>
            obtain ⟨rfl, rfl⟩ := hy
            obtain ⟨ds, h1, h2, h3⟩ := hws
            walk_at "g"
            refine ⟨rfl, ?_⟩
            walk_at "g"
            refine ⟨b, .str (tx cs), rfl, hb10.sm s11, .inr ⟨tx cs, rfl, by omega, by omega, fun c hc => hKp _ _ (Same.refl _) ⟨ds ++ [c], by rw [h1, List.map_append, List.map_append]; rfl, by rw [List.length_append, h2]; rfl, fun d hd => ?_⟩⟩⟩
            rcases List.mem_append.mp hd with hd | hd
            · exact h3 d hd
            · rw [List.mem_singleton.mp hd]
              exact hc
          case he5 =>
            obtain ⟨ds, hd1, hd2, hd3⟩ := hws
            subst hd1
            have hb11 := hb10.sm s11
            walk_at "g"
            refine k_join (ys := ds.map sg) (sq_l e11) ?_ ?_
            · rw [show (Str.ofString "").length = 0 by decide +kernel, List.map_map, show (Str.length ∘ sg) = fun _ => 1 from rfl, List.length_map, sum_one, hd2]
              omega
            rw [join_sgs]
            walk_at "g"
            refine k_disp fun pm npm => ?_
            walk_at "g"
            refine ⟨upd_same, [(.inr "letters", .str (tx cs)), (.inr "table", .ref pt), (.inr "eats", .ref p8), (.inr "chew", .int ch), (.inr "put", .str (tx ds)), (.inr "most", .int lo)], rfl, by show 6 ≤ 15; decide, ?_⟩
            simp only [upd_upd]
            have em : mergeK [] [((.inr "letters" : Key), V.str (tx cs)), (.inr "table", .ref pt), (.inr "eats", .ref p8), (.inr "chew", .int ch), (.inr "put", .str (tx ds)), (.inr "most", .int lo)] = [((.inr "letters" : Key), V.str (tx cs)), (.inr "table", .ref pt), (.inr "eats", .ref p8), (.inr "chew", .int ch), (.inr "put", .str (tx ds)), (.inr "most", .int lo)] := rfl
            rw [em]
            have s12 := sm_new (o := .dK [((.inr "letters" : Key), V.str (tx cs)), (.inr "table", .ref pt), (.inr "eats", .ref p8), (.inr "chew", .int ch), (.inr "put", .str (tx ds)), (.inr "most", .int lo)]) npm
            have e12 : (upd H11 pm (.dK [((.inr "letters" : Key), V.str (tx cs)), (.inr "table", .ref pt), (.inr "eats", .ref p8), (.inr "chew", .int ch), (.inr "put", .str (tx ds)), (.inr "most", .int lo)])) pm = some (.dK [((.inr "letters" : Key), V.str (tx cs)), (.inr "table", .ref pt), (.inr "eats", .ref p8), (.inr "chew", .int ch), (.inr "put", .str (tx ds)), (.inr "most", .int lo)]) := upd_same
            generalize upd H11 pm (.dK [((.inr "letters" : Key), V.str (tx cs)), (.inr "table", .ref pt), (.inr "eats", .ref p8), (.inr "chew", .int ch), (.inr "put", .str (tx ds)), (.inr "most", .int lo)]) = H12 at s12 e12 ⊢
            have hb12 := hb11.sm s12
            walk_at "g"
            refine k_pull hb12 (by omega) (by omega) (fun u u0 u1 => ?_)
            walk_at "g"
            refine k_nDp e12 (by show 6 < 1000; decide) ?_
            have np0 : H pm = none := ((((((s02.trans s3).trans s4).trans s5).trans s6).trans s9).trans (s10.trans s11)).free npm
            have sAll : Same H (upd H12 pm (.dK (putK [((.inr "letters" : Key), V.str (tx cs)), (.inr "table", .ref pt), (.inr "eats", .ref p8), (.inr "chew", .int ch), (.inr "put", .str (tx ds)), (.inr "most", .int lo)] (.inr "cut") (.int (1 + u))))) :=
              sm_mut (((((((s02.trans s3).trans s4).trans s5).trans s6).trans s9).trans (s10.trans s11)).trans s12) np0
            have eF : (upd H12 pm (.dK (putK [((.inr "letters" : Key), V.str (tx cs)), (.inr "table", .ref pt), (.inr "eats", .ref p8), (.inr "chew", .int ch), (.inr "put", .str (tx ds)), (.inr "most", .int lo)] (.inr "cut") (.int (1 + u))))) pm = some (.dK [((.inr "letters" : Key), V.str (tx cs)), (.inr "table", .ref pt), (.inr "eats", .ref p8), (.inr "chew", .int ch), (.inr "put", .str (tx ds)), (.inr "most", .int lo), (.inr "cut", .int (1 + u))]) := upd_same
            have s612 := (s9.trans (s10.trans s11)).trans s12
            have s912 := (s10.trans s11).trans s12
            have kT : ∀ {a : Addr} {xs : List V}, SqT K H12 a xs → SqT K (upd H12 pm (.dK (putK [((.inr "letters" : Key), V.str (tx cs)), (.inr "table", .ref pt), (.inr "eats", .ref p8), (.inr "chew", .int ch), (.inr "put", .str (tx ds)), (.inr "most", .int lo)] (.inr "cut") (.int (1 + u))))) a xs := fun h => t_dk e12 h
            have kL0 : ∀ {a : Addr} {xs : List V}, H12 a = some (.lst xs) → (upd H12 pm (.dK (putK [((.inr "letters" : Key), V.str (tx cs)), (.inr "table", .ref pt), (.inr "eats", .ref p8), (.inr "chew", .int ch), (.inr "put", .str (tx ds)), (.inr "most", .int lo)] (.inr "cut") (.int (1 + u))))) a = some (.lst xs) := fun h => by rw [upd_ne (ne_of h e12 (fun z => by cases z))]; exact h
            have kL : ∀ {a : Addr} {xs : List V}, H12 a = some (.lst xs) → SqL K (upd H12 pm (.dK (putK [((.inr "letters" : Key), V.str (tx cs)), (.inr "table", .ref pt), (.inr "eats", .ref p8), (.inr "chew", .int ch), (.inr "put", .str (tx ds)), (.inr "most", .int lo)] (.inr "cut") (.int (1 + u))))) a xs := fun h => sq_l (kL0 h)
            generalize upd H12 pm (.dK (putK [((.inr "letters" : Key), V.str (tx cs)), (.inr "table", .ref pt), (.inr "eats", .ref p8), (.inr "chew", .int ch), (.inr "put", .str (tx ds)), (.inr "most", .int lo)] (.inr "cut") (.int (1 + u)))) = H13 at *
            walk_at "g"
            have tbl : (R.map (·.2)).length = rm := by rw [List.length_map, lR]
            have mc0 := ms.c0
            have mc2 := ms.c2
            have ldk : (ds.length : Int) = pk := by rw [hd2]; omega
            refine q ⟨cs, R.map (·.2), L.map (·.2), ch, ds, lo, 1 + u⟩ pm H13 ⟨hr0, lcs.1, lcs.2, by rw [tbl]; exact rm4.1, by rw [tbl]; exact rm4.2, fun r hr => ?_, by rw [List.length_map, lL]; omega, fun kk hk => ?_, mc0, mc2, by show ds.length ≤ 2; omega, hd3, by show (1 : Int) ≤ lo; omega, by show (lo : Int) ≤ 3; omega, low, by show (1 : Int) ≤ 1 + u; omega, by show 1 + u ≤ (lo : Int); omega⟩ ⟨by rw [ldk]; exact ms, np0, pt, p8, R, L, eF, kL0 (s612 _ _ e6), fun q hq => kT (sm_t s612 (hR3 q hq).1), rfl, kL0 (s912 _ _ eL), fun q hq => kT (sm_t s912 (hL q hq).1), rfl, ((((s02.trans s3).trans s4).trans s5).trans s6).free nb8, (fun z => by
                rw [← z, e6] at nb8
                cases nb8), by show (L.map (·.2)).length ≤ 7; rw [List.length_map, lL]; omega⟩ sAll
              ⟨pt, p8, R, L, ⟨_, eF, by show 7 ≤ 7; decide, ⟨rfl, rfl, rfl⟩, rfl, rfl, rfl, rfl⟩, kL (s612 _ _ e6), fun q hq => kT (sm_t s612 (hR3 q hq).1), rfl, kL (s912 _ _ eL), fun q hq => kT (sm_t s912 (hL q hq).1), rfl⟩
            · obtain ⟨q, hq, rfl⟩ := List.mem_map.mp hr
              obtain ⟨_, w1, w2⟩ := hR3 q hq
              exact ⟨w1, fun x hx => by rw [tbl]; exact w2 x hx⟩
            · obtain ⟨q, hq, rfl⟩ := List.mem_map.mp hk
              obtain ⟨_, s, a, c, e, b1, b2, b3, b4⟩ := hL q hq
              exact ⟨s, a, c, e, b1, by rw [tbl]; exact b2, b3, by rw [tbl]; exact b4⟩

local macro_rules | `(tactic| walk_at "hp") => `(tactic| first | assumption | exact upd_same | (refine' (upd_ne ?n).trans ?h; (case n => assumption); (case h => walk_at "hp")) | (refine' sm_get ?s ?h; (case s => assumption); (case h => walk_at "hp")))
local macro_rules | `(tactic| walk_at "sq") => `(tactic| first | assumption | (refine' sq_l ?h; (case h => walk_at "hp")) | (refine' sm_l ?s ?h; (case s => assumption); (case h => walk_at "sq")))
local macro_rules | `(tactic| walk_at "st") => `(tactic| first | assumption | (refine' sq_t ?h; (case h => walk_at "hp")) | (refine' sm_t ?s ?h; (case s => assumption); (case h => walk_at "st")))
local macro_rules | `(tactic| walk_at "bg") => `(tactic| first | assumption | (refine' BagOk.sm ?s ?h; (case s => assumption); (case h => walk_at "bg")))
local macro_rules | `(tactic| walk_at "sm") => `(tactic| first | assumption | exact Same.refl _ | (refine' Same.trans ?h ?s; (case s => assumption); (case h => walk_at "sm")))
local macro_rules | `(tactic| walk_at "hs") => `(tactic| first | assumption | (refine' HsAt.sm ?s ?h; (case s => assumption); (case h => walk_at "hs")))
local macro_rules | `(tactic| walk_at "ms") => `(tactic| first | assumption | (refine' MAt.sm ?s ?h; (case s => assumption); (case h => walk_at "ms")))
local macro_rules | `(tactic| walk_at "md") => `(tactic| first | assumption | (refine' MDk.sm ?s ?h; (case s => assumption); (case h => walk_at "md")))
local macro_rules | `(tactic| walk_at "dp") => `(tactic| first | assumption | (refine' dp_sm ?s ?h; (case s => assumption); (case h => walk_at "dp")))
local macro_rules | `(tactic| walk_at "sz") => `(tactic| first | decide | assumption | omega | (simp only [List.length_cons, List.length_nil, List.length_map, List.length_append]; omega))
local macro_rules | `(tactic| walk_at "g1") => `(tactic| first
  | with_reducible refine k_seq ?_
  | with_reducible refine k_itB ?_
  | with_reducible refine k_next ?_
  | with_reducible refine k_asg ?_
  | with_reducible refine k_name ?_
  | with_reducible refine k_ret ?_
  | with_reducible refine k_retN ?_
  | with_reducible refine k_drop ?_
  | with_reducible refine k_ifs ?_
  | with_reducible refine k_brk ?_
  | with_reducible refine k_cont ?_
  | with_reducible refine k_ipI ?_
  | with_reducible refine k_test ?_
  | with_reducible refine k_tB ?_
  | with_reducible refine k_bl ?_
  | with_reducible refine k_not ?_
  | with_reducible refine k_and ?_
  | with_reducible refine k_or ?_
  | with_reducible refine k_yes ?_
  | with_reducible refine k_true ?_
  | with_reducible refine k_false ?_
  | with_reducible refine k_nt ?_
  | with_reducible refine k_c ?_
  | with_reducible refine k_op ?_
  | with_reducible refine k_un ?_
  | with_reducible refine k_if ?_
  | with_reducible refine k_chain ?_
  | with_reducible refine k_nil ?_
  | with_reducible refine k_cons ?_
  | with_reducible refine k_cb ?_
  | with_reducible refine k_call ?_
  | with_reducible refine k_callS ?_
  | with_reducible refine k_andV ?_
  | with_reducible refine k_orV ?_
  | with_reducible refine k_notV ?_
  | with_reducible refine k_lst ?_
  | with_reducible refine k_tup ?_
  | with_reducible refine k_nopart ?_
  | with_reducible refine k_part ?_
  | with_reducible refine k_nInt ?_
  | with_reducible refine k_sl ?_
  | with_reducible refine k_bm ?_
  | with_reducible refine k_bm0 ?_
  | with_reducible refine k_nTyS ?_
  | with_reducible refine k_m1 ?_
  | with_reducible refine k_m0 ?_
  | with_reducible refine k_nStr ?_
  | with_reducible refine k_I0 ?_
  | with_reducible refine k_U ?_
  | with_reducible refine k_add_i ?_
  | with_reducible refine k_eq_i ?_
  | with_reducible refine k_eq_s ?_
  | with_reducible refine k_eq_b ?_
  | with_reducible refine k_ne_i ?_
  | with_reducible refine k_ne_s ?_
  | with_reducible refine k_ne_b ?_
  | with_reducible refine k_le_i ?_
  | with_reducible refine k_le_s ?_
  | with_reducible refine k_gnil ?_
  | with_reducible refine k_gcons ?_
  | with_reducible refine k_gsub ?_
  | with_reducible refine k_for ?_
  | with_reducible refine k_lc ?_
  | with_reducible refine k_rng1 ?_
  | with_reducible refine k_rng2 ?_
  | with_reducible refine k_itl ?_
  | with_reducible refine k_itt ?_
  | with_reducible refine k_its ?_
  | with_reducible refine k_ite ?_
  | with_reducible refine k_iteB ?_
  | with_reducible refine k_lrg2 ?_
  | with_reducible refine k_itz ?_
  | with_reducible refine k_nIts ?_
  | with_reducible refine k_inS ?_
  | with_reducible refine k_niS ?_
  | with_reducible refine k_mk ?_
  | with_reducible refine k_meth ?_
  | with_reducible refine k_fld ?_
  | with_reducible refine k_sfld ?_
  | with_reducible refine k_dg ?_
  | with_reducible refine k_dp ?_
  | with_reducible refine k_pr ?_
  | with_reducible refine k_pr0 ?_
  | with_reducible refine k_sg ?_
  | with_reducible refine k_lc2 ?_
  | with_reducible refine k_callN ?_
  | with_reducible refine k_callNS ?_
  | with_reducible refine k_par ?_
  | with_reducible refine k_nPar ?_
  | with_reducible refine k_isNn ?_
  | with_reducible refine k_isNr ?_
  | with_reducible refine k_ntNn ?_
  | with_reducible refine k_ntNr ?_
  | with_reducible refine k_min2 ?_
  | with_reducible refine k_max2 ?_
  | with_reducible refine k_intB ?_
  | with_reducible refine k_intI ?_
  | with_reducible refine k_isBl ?_
  | with_reducible refine k_ntBl ?_
  | ((with_reducible refine' k_var ?kv ?_); (case kv => exact rfl))
  | ((with_reducible refine' k_aug ?kv ?_); (case kv => exact rfl))
  | ((with_reducible refine' k_ix_l ?ks ?ki ?_); (case ks => walk_at "sq"); (case ki => exact rfl))
  | ((with_reducible refine' k_ix_t ?ks ?ki ?_); (case ks => walk_at "st"); (case ki => exact rfl))
  | ((with_reducible refine' k_len_l ?ks ?_); (case ks => walk_at "sq"))
  | ((with_reducible refine' k_len_t ?ks ?_); (case ks => walk_at "st"))
  | ((with_reducible refine' k_setL ?ks ?ki ?_); (case ks => walk_at "hp"); (case ki => exact rfl))
  | ((with_reducible refine' k_nTyL ?ks ?_); (case ks => walk_at "sq"))
  | ((with_reducible refine' k_nItl ?ks ?_); (case ks => walk_at "sq"))
  | ((with_reducible refine' k_nItt ?ks ?_); (case ks => walk_at "st"))
  | ((with_reducible refine' k_nIte ?ks ?_); (case ks => walk_at "sq"))
  | ((with_reducible refine' k_mul ?km ?_); (case km => first | exact Or.inr ⟨by decide, by decide⟩ | exact Or.inl ⟨by decide, by decide⟩))
  | ((with_reducible refine' k_I ?km ?_); (case km => first | assumption | decide | exact ⟨by decide, by decide +kernel⟩ | exact ⟨by decide, by decide, by decide⟩))
  | ((with_reducible refine' k_nMeth ?kp ?kl ?_); (case kp => walk_at "hp"); (case kl => exact rfl))
  | ((with_reducible refine' k_nFld ?kp ?kc ?kn ?kl ?_); (case kp => walk_at "hp"); (case kc => assumption); (case kn => assumption); (case kl => exact rfl))
  | ((with_reducible refine' k_nSFld ?kp ?kc ?kn ?kl ?_); (case kp => walk_at "hp"); (case kc => assumption); (case kn => assumption); (case kl => exact of_decide_eq_true rfl))
  | ((with_reducible refine' k_nDg ?kp ?kl ?_); (case kp => walk_at "hp"); (case kl => exact rfl))
  | ((with_reducible refine' k_nRng1 ?k1 ?k2 ?_); (case k1 => omega); (case k2 => omega))
  | ((with_reducible refine' k_nKw ?k1 ?k2 ?_); (case k1 => exact rfl); (case k2 => exact rfl))
  | ((with_reducible refine' k_hsm ?kh ?_); (case kh => walk_at "hs"))
  | ((with_reducible refine' k_nMethH ?kh ?kl ?_); (case kh => walk_at "hs"); (case kl => exact fun _ _ => rfl))
  | ((with_reducible refine' k_mLet ?kh ?_); (case kh => walk_at "ms"))
  | ((with_reducible refine' k_mChew ?kh ?_); (case kh => walk_at "ms"))
  | ((with_reducible refine' k_mPut ?kh ?_); (case kh => walk_at "ms"))
  | ((with_reducible refine' k_mMost ?kh ?_); (case kh => walk_at "ms"))
  | ((with_reducible refine' k_mCut ?kh ?_); (case kh => walk_at "ms"))
  | ((with_reducible refine' k_mTab ?kh ?_); (case kh => walk_at "md"))
  | ((with_reducible refine' k_mEats ?kh ?_); (case kh => walk_at "md"))
  | ((with_reducible refine' k_gtup ?ks ?kl ?_); (case ks => walk_at "st"); (case kl => exact rfl)))
local macro_rules | `(tactic| walk_at "g") => `(tactic| repeat (walk_at "g1"))
local macro_rules | `(tactic| walk_at "w1") => `(tactic| first
  | walk_at "g1"
  | ((with_reducible refine' k_decT ?kp ?_); (case kp => omega))
  | ((with_reducible refine' k_decF ?kp ?_); (case kp => omega))
  | ((with_reducible refine' k_decNT ?kp ?_); (case kp => omega))
  | ((with_reducible refine' k_decNF ?kp ?_); (case kp => omega)))
local macro_rules | `(tactic| walk_at "w") => `(tactic| repeat (walk_at "w1"))

/-! ### a house made -/
def gHouse : List V → List V → List V := fun vs zs => vs ++ zs
theorem House_made (F : FunD K "__init__" "House.__init__" (defArgs s_House_init) (defBody s_House_init) (defScope s_House_init) [] [("chew", .int 0)] (He.ma K (He.ga K "House") "__init__") fd) (gC : mg "House" = some (.ref (He.ga K "House"))) (mk0 : Mk K (He.ga K "House") (He.ma K (He.ga K "House") "__init__"))
    (ok : FnOk P w K mg base CX0 2 (He.ma K (He.ga K "House") "__init__") fd ["self", "letters", "table", "eats", "chew", "put", "most", "cut"] (spInit K)) : OwnMk P w K mg base CX0 "House" 2 2 ["eats", "chew", "put", "most", "cut"] gHouse (spInit K) := by
  refine ⟨gC, mk0, fd, _, ok, fun us ws => us ++ ws, ?_⟩
  have key := FunD.kbinds0 (ps := ["self", "letters", "table", "eats", "chew", "put", "most", "cut"]) F 3 ["eats", "chew", "put", "most", "cut"] [] (fun {α} us _ ws => us ++ ws) (by simp) (fun q hq => nomatch hq) (fun r1 _ r3 => r1.append r3) (fun D doc pm an cdv ct us mv ws l1 l2 l3 => by
    match us, mv, ws, l1, l2, l3 with
    | [_, _, _], [], [_, _, _, _, _], _, _, _ => rfl)
  exact key.elim fun mv h => h
--! have c_House := House_made $F(House.__init__) g_House (He.mkr_ok a_mk) c_House_init
def spMade (K : PySem.W.Frag) : Sp := fun vs H Q _ => ∃ (m : Addr) (S : HsD), vs = [.ref m] ∧ MAt K H m S ∧ HsOk S ∧ ∀ a H', H a = none → Same H H' → HsAt K H' a S → Q (.ref a) H'
theorem ok_Lmade (F : FnP K "_law_made" s_Lmade f fd) (hm : mg "_law_made" = some (.ref f)) (f_list : mg "list" = none) (c_House : OwnMk P w K mg base CX0 "House" 2 2 ["eats", "chew", "put", "most", "cut"] gHouse (spInit K)) : Callee P w K mg base CX0 "_law_made" 4 [] (spMade K) := by
  refine ⟨f, fd, _, [], F.ok sc_Lmade (fun vs H Q E h => ?hl) (fun cdv A outer s H vs Q E hr h => ⟨_, PSs.nox (pss_cons (ps_setLc (i := 1) (own := [("_law_row_here", 3)]) rfl sc_Lmade.nd rfl rfl (sw_true rfl rfl rfl (by decide +kernel)) (pi_listK K (pe_dget (hu_of hr) (pv 0) pe_str (fun _ _ => rfl))) (blkOk_by (N := ["_law_m", "_law_table", "_law_triples", "_law_row_here"]) (sc := defScope s_Lmade) (by decide +kernel)) (fun _ _ _ _ _ => (pg_name (i := 3) sc_Lmade.nd rfl (by first | exact Or.inl rfl | exact Or.inr rfl))) (fun _ _ _ _ _ => pts_nil) (fun _ _ _ _ _ => (pe_callTy (call_listK K) (by rfl) f_list (by decide +kernel) (pa_cons (pv 3) pa_nil))))
      (pss_cons (ps_set (i := 2) sc_Lmade.nd rfl (by first | exact Or.inl rfl | exact Or.inr rfl) (pe_callTy (call_listK K) (by rfl) f_list (by decide +kernel) (pa_cons (pe_dget (hu_of hr) (pv 0) pe_str (fun _ _ => rfl)) pa_nil)))
      (pss_one (ps_ret (pe_mkK c_House hr (pa_cons (pe_dget (hu_of hr) (pv 0) pe_str (fun _ _ => rfl)) (pa_cons (pv 1) pa_nil)) (pk_cons (pv 2) (pk_cons (pe_dget (hu_of hr) (pv 0) pe_str (fun _ _ => rfl)) (pk_cons (pe_dget (hu_of hr) (pv 0) pe_str (fun _ _ => rfl)) (pk_cons (pe_dget (hu_of hr) (pv 0) pe_str (fun _ _ => rfl)) (pk_cons (pe_dget (hu_of hr) (pv 0) pe_str (fun _ _ => rfl)) pk_nil))))) pass0))))), ?rd⟩), hm, F.kp, F.bindsN fun _ _ _ _ _ _ us hl => match us, hl with | [_], _ => rfl, .nil⟩
  case hl =>
    obtain ⟨m, S, rfl, _⟩ := h
    rfl
  case rd =>
    obtain ⟨m, S, rfl, hM, ok, q⟩ := h
    have hM0 := hM
    obtain ⟨tb, ev, R, L, h1, h2, h3, h4, h5, h6, h7⟩ := hM
    refine k_start (σ' := [some _, none, none, none]) rfl ?_
    have lR : R.length = S.tb.length := by rw [← h4, List.length_map]
    have t4 := ok.t4
    walk_at "g"
    refine k_nLcD (walk_list (xs := R.map fun q => V.ref q.1)) (fun H' s2 => sm_l s2 h2) (fun i ws H1 => ∃ R' : List RwI, ws = R'.map (fun q => V.ref q.1) ∧ R'.map (·.2) = (R.take i).map (·.2) ∧ ∀ q ∈ R', SqL K H1 q.1 (q.2.map V.int)) (fun i ws H1 H2 s h => ?hm) ⟨[], rfl, rfl, fun q hq => nomatch hq⟩ (fun i ws H1 hi h => ?hz) (fun i v p H1 H2 ws Kp Ks hi hp s1 e1 hws hy hKp hKs => ?ht2) (fun pr Hr ws nr sr er hws => ?he2)
    case hm =>
      obtain ⟨R', e1, e2, h3⟩ := h
      exact ⟨R', e1, e2, fun q hq => sm_l s (h3 q hq)⟩
    case hz =>
      obtain ⟨R', e1, e2, h3⟩ := h
      have := congrArg List.length e2
      rw [List.length_map, List.length_map, List.length_take] at this
      rw [e1, List.length_map]
      omega
    case ht2 =>
      obtain ⟨rfl, hv⟩ := hy
      obtain ⟨r, hr0, rfl⟩ := map_get hv
      obtain ⟨R', e2, e3, h3'⟩ := hws
      have hr1 := sm_t s1 (h3 r (List.mem_of_getElem? hr0))
      walk_at "g"
      refine ⟨rfl, ?_⟩
      walk_at "g"
      refine k_list_t hr1 (fun t H6 n6 s6 e6 => hKp _ _ s6 ⟨R' ++ [(t, r.2)], by rw [e2, List.map_append]; rfl, by rw [List.map_append, e3, take_more hr0, List.map_append]; rfl, fun q hq => ?_⟩)
      rcases List.mem_append.mp hq with hq | hq
      · exact sm_l (del_mono s6) (h3' q hq)
      · cases List.mem_singleton.mp hq
        exact del_l (fun z => by have z : t = p := z; rw [z, e1] at n6; cases n6) (sq_l e6)
    case he2 =>
      obtain ⟨R', e2, e3, h3'⟩ := hws
      subst e2
      have lRm : (R.map fun q => V.ref q.1).length = R.length := List.length_map _
      rw [lRm, List.take_length, h4] at e3
      have h5r := sm_l sr h5
      have h1r := h1.sm sr
      walk_at "g"
      refine k_list_l h5r (fun p5 H5 n5 s5 e5 => ?_)
      have h15 := h1r.sm s5
      have hM5 : MAt K H5 m S := hM0.sm (sr.trans s5)
      walk_at "g"
      refine k_makeK ?_
      walk_at "g"
      refine ⟨rfl, rfl, fun x dx nx ndx nex => ?_⟩
      have sG : Same H5 (upd (upd H5 dx (.own x)) x (.ins (He.ga K "House") dx [])) := (sm_new ndx).trans (sm_new (by rw [upd_ne (Ne.symm nex)]; exact nx))
      have sR5 := sr.trans s5
      refine ⟨S, x, dx, pr, p5, R', L, false, rfl, ok, upd_same, sm_l (s5.trans sG) (sq_l er), fun q hq => sm_l (s5.trans sG) (h3' q hq), e3, sm_l sG (sq_l e5), fun q hq => sm_t (sR5.trans sG) (h6 q hq), h7, fun H' keep hs => ⟨rfl, q x H' (sR5.free nx) (fun b u hb => ?_) hs⟩⟩
      have hb5 := sR5 b u hb
      exact keep b u (ne_of_none hb5 nx) (sG b u hb5)
end
end Lw
set_option autoImplicit true
set_option pp.maxSteps 1200
set_option Elab.async false
set_option linter.all false
set_option maxRecDepth 100000
set_option maxHeartbeats 1000000
namespace Lw
open PySem PySem.Spec PyProof.Rows L2 Gk

local macro_rules | `(tactic| walk_at "hp") => `(tactic| first | assumption | exact upd_same | (refine' (upd_ne ?n).trans ?h; (case n => assumption); (case h => walk_at "hp")) | (refine' sm_get ?s ?h; (case s => assumption); (case h => walk_at "hp")))
local macro_rules | `(tactic| walk_at "sq") => `(tactic| first | assumption | (refine' sq_l ?h; (case h => walk_at "hp")) | (refine' sm_l ?s ?h; (case s => assumption); (case h => walk_at "sq")))
local macro_rules | `(tactic| walk_at "st") => `(tactic| first | assumption | (refine' sq_t ?h; (case h => walk_at "hp")) | (refine' sm_t ?s ?h; (case s => assumption); (case h => walk_at "st")))
local macro_rules | `(tactic| walk_at "bg") => `(tactic| first | assumption | (refine' BagOk.sm ?s ?h; (case s => assumption); (case h => walk_at "bg")))
local macro_rules | `(tactic| walk_at "sm") => `(tactic| first | assumption | exact Same.refl _ | (refine' Same.trans ?h ?s; (case s => assumption); (case h => walk_at "sm")))
local macro_rules | `(tactic| walk_at "hs") => `(tactic| first | assumption | (refine' HsAt.sm ?s ?h; (case s => assumption); (case h => walk_at "hs")))
local macro_rules | `(tactic| walk_at "ms") => `(tactic| first | assumption | (refine' MAt.sm ?s ?h; (case s => assumption); (case h => walk_at "ms")))
local macro_rules | `(tactic| walk_at "md") => `(tactic| first | assumption | (refine' MDk.sm ?s ?h; (case s => assumption); (case h => walk_at "md")))
local macro_rules | `(tactic| walk_at "dp") => `(tactic| first | assumption | (refine' dp_sm ?s ?h; (case s => assumption); (case h => walk_at "dp")))
local macro_rules | `(tactic| walk_at "sz") => `(tactic| first | decide | assumption | omega | (simp only [List.length_cons, List.length_nil, List.length_map, List.length_append]; omega))
local macro_rules | `(tactic| walk_at "g1") => `(tactic| first
  | with_reducible refine k_seq ?_
  | with_reducible refine k_itB ?_
  | with_reducible refine k_next ?_
  | with_reducible refine k_asg ?_
  | with_reducible refine k_name ?_
  | with_reducible refine k_ret ?_
  | with_reducible refine k_retN ?_
  | with_reducible refine k_drop ?_
  | with_reducible refine k_ifs ?_
  | with_reducible refine k_brk ?_
  | with_reducible refine k_cont ?_
  | with_reducible refine k_ipI ?_
  | with_reducible refine k_test ?_
  | with_reducible refine k_tB ?_
  | with_reducible refine k_bl ?_
  | with_reducible refine k_not ?_
  | with_reducible refine k_and ?_
  | with_reducible refine k_or ?_
  | with_reducible refine k_yes ?_
  | with_reducible refine k_true ?_
  | with_reducible refine k_false ?_
  | with_reducible refine k_nt ?_
  | with_reducible refine k_c ?_
  | with_reducible refine k_op ?_
  | with_reducible refine k_un ?_
  | with_reducible refine k_if ?_
  | with_reducible refine k_chain ?_
  | with_reducible refine k_nil ?_
  | with_reducible refine k_cons ?_
  | with_reducible refine k_cb ?_
  | with_reducible refine k_call ?_
  | with_reducible refine k_callS ?_
  | with_reducible refine k_andV ?_
  | with_reducible refine k_orV ?_
  | with_reducible refine k_notV ?_
  | with_reducible refine k_lst ?_
  | with_reducible refine k_tup ?_
  | with_reducible refine k_nopart ?_
  | with_reducible refine k_part ?_
  | with_reducible refine k_nInt ?_
  | with_reducible refine k_sl ?_
  | with_reducible refine k_bm ?_
  | with_reducible refine k_bm0 ?_
  | with_reducible refine k_nTyS ?_
  | with_reducible refine k_m1 ?_
  | with_reducible refine k_m0 ?_
  | with_reducible refine k_nStr ?_
  | with_reducible refine k_I0 ?_
  | with_reducible refine k_U ?_
  | with_reducible refine k_add_i ?_
  | with_reducible refine k_eq_i ?_
  | with_reducible refine k_eq_s ?_
  | with_reducible refine k_eq_b ?_
  | with_reducible refine k_ne_i ?_
  | with_reducible refine k_ne_s ?_
  | with_reducible refine k_ne_b ?_
  | with_reducible refine k_le_i ?_
  | with_reducible refine k_le_s ?_
  | with_reducible refine k_gnil ?_
  | with_reducible refine k_gcons ?_
  | with_reducible refine k_gsub ?_
  | with_reducible refine k_for ?_
  | with_reducible refine k_lc ?_
  | with_reducible refine k_rng1 ?_
  | with_reducible refine k_rng2 ?_
  | with_reducible refine k_itl ?_
  | with_reducible refine k_itt ?_
  | with_reducible refine k_its ?_
  | with_reducible refine k_ite ?_
  | with_reducible refine k_iteB ?_
  | with_reducible refine k_lrg2 ?_
  | with_reducible refine k_itz ?_
  | with_reducible refine k_nIts ?_
  | with_reducible refine k_inS ?_
  | with_reducible refine k_niS ?_
  | with_reducible refine k_mk ?_
  | with_reducible refine k_meth ?_
  | with_reducible refine k_fld ?_
  | with_reducible refine k_sfld ?_
  | with_reducible refine k_dg ?_
  | with_reducible refine k_dp ?_
  | with_reducible refine k_pr ?_
  | with_reducible refine k_pr0 ?_
  | with_reducible refine k_sg ?_
  | with_reducible refine k_lc2 ?_
  | with_reducible refine k_callN ?_
  | with_reducible refine k_callNS ?_
  | with_reducible refine k_par ?_
  | with_reducible refine k_nPar ?_
  | with_reducible refine k_isNn ?_
  | with_reducible refine k_isNr ?_
  | with_reducible refine k_ntNn ?_
  | with_reducible refine k_ntNr ?_
  | with_reducible refine k_min2 ?_
  | with_reducible refine k_max2 ?_
  | with_reducible refine k_intB ?_
  | with_reducible refine k_intI ?_
  | with_reducible refine k_isBl ?_
  | with_reducible refine k_ntBl ?_
  | ((with_reducible refine' k_var ?kv ?_); (case kv => exact rfl))
  | ((with_reducible refine' k_aug ?kv ?_); (case kv => exact rfl))
  | ((with_reducible refine' k_ix_l ?ks ?ki ?_); (case ks => walk_at "sq"); (case ki => exact rfl))
  | ((with_reducible refine' k_ix_t ?ks ?ki ?_); (case ks => walk_at "st"); (case ki => exact rfl))
  | ((with_reducible refine' k_len_l ?ks ?_); (case ks => walk_at "sq"))
  | ((with_reducible refine' k_len_t ?ks ?_); (case ks => walk_at "st"))
  | ((with_reducible refine' k_setL ?ks ?ki ?_); (case ks => walk_at "hp"); (case ki => exact rfl))
  | ((with_reducible refine' k_nTyL ?ks ?_); (case ks => walk_at "sq"))
  | ((with_reducible refine' k_nItl ?ks ?_); (case ks => walk_at "sq"))
  | ((with_reducible refine' k_nItt ?ks ?_); (case ks => walk_at "st"))
  | ((with_reducible refine' k_nIte ?ks ?_); (case ks => walk_at "sq"))
  | ((with_reducible refine' k_mul ?km ?_); (case km => first | exact Or.inr ⟨by decide, by decide⟩ | exact Or.inl ⟨by decide, by decide⟩))
  | ((with_reducible refine' k_I ?km ?_); (case km => first | assumption | decide | exact ⟨by decide, by decide +kernel⟩ | exact ⟨by decide, by decide, by decide⟩))
  | ((with_reducible refine' k_nMeth ?kp ?kl ?_); (case kp => walk_at "hp"); (case kl => exact rfl))
  | ((with_reducible refine' k_nFld ?kp ?kc ?kn ?kl ?_); (case kp => walk_at "hp"); (case kc => assumption); (case kn => assumption); (case kl => exact rfl))
  | ((with_reducible refine' k_nSFld ?kp ?kc ?kn ?kl ?_); (case kp => walk_at "hp"); (case kc => assumption); (case kn => assumption); (case kl => exact of_decide_eq_true rfl))
  | ((with_reducible refine' k_nDg ?kp ?kl ?_); (case kp => walk_at "hp"); (case kl => exact rfl))
  | ((with_reducible refine' k_nRng1 ?k1 ?k2 ?_); (case k1 => omega); (case k2 => omega))
  | ((with_reducible refine' k_nKw ?k1 ?k2 ?_); (case k1 => exact rfl); (case k2 => exact rfl))
  | ((with_reducible refine' k_hsm ?kh ?_); (case kh => walk_at "hs"))
  | ((with_reducible refine' k_nMethH ?kh ?kl ?_); (case kh => walk_at "hs"); (case kl => exact fun _ _ => rfl))
  | ((with_reducible refine' k_mLet ?kh ?_); (case kh => walk_at "ms"))
  | ((with_reducible refine' k_mChew ?kh ?_); (case kh => walk_at "ms"))
  | ((with_reducible refine' k_mPut ?kh ?_); (case kh => walk_at "ms"))
  | ((with_reducible refine' k_mMost ?kh ?_); (case kh => walk_at "ms"))
  | ((with_reducible refine' k_mCut ?kh ?_); (case kh => walk_at "ms"))
  | ((with_reducible refine' k_mTab ?kh ?_); (case kh => walk_at "md"))
  | ((with_reducible refine' k_mEats ?kh ?_); (case kh => walk_at "md"))
  | ((with_reducible refine' k_gtup ?ks ?kl ?_); (case ks => walk_at "st"); (case kl => exact rfl)))
local macro_rules | `(tactic| walk_at "g") => `(tactic| repeat (walk_at "g1"))
local macro_rules | `(tactic| walk_at "w1") => `(tactic| first
  | walk_at "g1"
  | ((with_reducible refine' k_decT ?kp ?_); (case kp => omega))
  | ((with_reducible refine' k_decF ?kp ?_); (case kp => omega))
  | ((with_reducible refine' k_decNT ?kp ?_); (case kp => omega))
  | ((with_reducible refine' k_decNF ?kp ?_); (case kp => omega)))
local macro_rules | `(tactic| walk_at "w") => `(tactic| repeat (walk_at "w1"))


section
variable {P : Program} {w : World} {K : PySem.W.Frag} {mg : Str → Option Value} {base : Heap} {f : Addr} {fd : FuncData}
def spLWords (K : PySem.W.Frag) : Sp := fun vs H Q _ => ∃ (m : Addr) (S : HsD), vs = [.ref m] ∧ MAt K H m S ∧ HsOk S ∧ ∀ p H', H p = none → Same H H' → H' p = some (.lst (tS (wordsF S.ls S.mo.toNat))) → Q (.ref p) H'
theorem ok_Lwords (F : FnP K "_law_words" s_Lwords f fd) (hm : mg "_law_words" = some (.ref f)) (f_range : mg "range" = none) : Callee P w K mg base CX0 "_law_words" 1 [] (spLWords K) := by
  refine ⟨f, fd, _, [], F.ok sc_Lwords (fun vs H Q E h => ?hl) (fun cdv A outer s H vs Q E hr h => ⟨_, PSs.nox (pss_cons (ps_set (i := 1) sc_Lwords.nd rfl (by first | exact Or.inl rfl | exact Or.inr rfl) (pe_lst pa_nil))
      (pss_cons (ps_set (i := 2) sc_Lwords.nd rfl (by first | exact Or.inl rfl | exact Or.inr rfl) (pe_lst (pa_cons pe_str pa_nil)))
      (pss_cons (ps_for PassesOwn.never rfl (pi_range1 (by rfl) f_range (pa_cons (pe_dget (hu_of hr) (pv 0) pe_str (fun _ _ => rfl)) pa_nil)) (pg_name (i := 3) sc_Lwords.nd rfl (by first | exact Or.inl rfl | exact Or.inr rfl)) (pss_cons (ps_set (i := 4) sc_Lwords.nd rfl (by first | exact Or.inl rfl | exact Or.inr rfl) (pe_lst pa_nil))
      (pss_cons (ps_for PassesOwn.never rfl (pi_listK K (pv 2)) (pg_name (i := 5) sc_Lwords.nd rfl (by first | exact Or.inl rfl | exact Or.inr rfl)) (pss_one (ps_set (i := 4) sc_Lwords.nd rfl (by first | exact Or.inl rfl | exact Or.inr rfl) (pe_op (op_addK K) (pv 4) (pe_lc (own := [("_law_sign", 6)]) rfl sc_Lwords.nd (pi_str (pe_dget (hu_of hr) (pv 0) pe_str (fun _ _ => rfl))) (blkOk_by (N := ["_law_m", "_law_found", "_law_last", "_law_size", "_law_longer", "_law_word", "_law_sign"]) (sc := defScope s_Lwords) (by decide +kernel)) (fun _ _ _ _ _ => (pg_name (i := 6) sc_Lwords.nd rfl (by first | exact Or.inl rfl | exact Or.inr rfl))) (fun _ _ _ _ _ => pts_nil) (fun _ _ _ _ _ => (pe_op (op_addK K) (pv 5) (pv 6))))))))
      (pss_cons (ps_set (i := 1) sc_Lwords.nd rfl (by first | exact Or.inl rfl | exact Or.inr rfl) (pe_op (op_addK K) (pv 1) (pv 4)))
      (pss_one (ps_set (i := 2) sc_Lwords.nd rfl (by first | exact Or.inl rfl | exact Or.inr rfl) (pv 4)))))))
      (pss_one (ps_ret (pv 1)))))), ?rd⟩), hm, F.kp, F.bindsN fun _ _ _ _ _ _ us hl => match us, hl with | [_], _ => rfl, .nil⟩
  case hl =>
    obtain ⟨m, S, rfl, _⟩ := h
    rfl
  case rd =>
    obtain ⟨m, S, rfl, hM0, ok, q⟩ := h
    refine k_start (σ' := [some _, none, none, none, none, none, none]) rfl ?_
    have m1 := ok.m1
    have m3 := ok.m3
    walk_at "g"
    refine k_nLst (by walk_at "sz") (fun p1 H1 n1 s1 e1 => ?_)
    walk_at "g"
    refine k_nLst (by walk_at "sz") (fun p2 H2 n2 s2 e2 => ?_)
    have h12 := hM0.sm (s1.trans s2)
    walk_at "g"
    have e12 := s2 _ _ e1
    refine k_nFor walk_range (fun i σ H' => ∃ pf pl y3 y4 y5, σ = [some (.ref m), some (.ref pf), some (.ref pl), y3, y4, y5, none] ∧ Same H H' ∧ (H pf = none ∧ H' pf = some (.lst (tS (wordsF S.ls i)))) ∧ H' pl = some (.lst (tS (lv S.ls i)))) ⟨p1, p2, none, none, none, rfl, s1.trans s2, ⟨n1, e12⟩, e2⟩ (fun _ _ _ _ _ => trivial) (fun i x σ Ha Hb hi h hy => ?ht) (fun σ H' h => ?he)
    case he =>
      obtain ⟨pf, pl, y3, y4, y5, rfl, sa, ⟨na, ea⟩, _⟩ := h
      walk_at "g"
      exact q _ _ na sa ea
    case ht =>
      obtain ⟨pf, pl, y3, y4, y5, rfl, sa, ⟨na, ea⟩, eb⟩ := h
      obtain ⟨rfl, rfl⟩ := hy
      have l1 := lv_small ok (i := i) (by omega)
      have l2 := lv_small ok (i := i + 1) (by omega)
      have ltS : (tS (lv S.ls i)).length = (lv S.ls i).length := List.length_map _
      walk_at "g"
      refine k_nLst (by walk_at "sz") (fun p3 H3 n3 s3 e3 => ?_)
      have eb3 := s3 _ _ eb
      walk_at "g"
      refine k_nFor (walk_list (xs := tS (lv S.ls i))) (fun j σ H' => ∃ pg y5, σ = [some (.ref m), some (.ref pf), some (.ref pl), some (.int (0 + i)), some (.ref pg), y5, none] ∧ Same H3 H' ∧ H' pg = some (.lst (tS (((lv S.ls i).take j).flatMap fun u => S.ls.map fun c => u ++ [c])))) ⟨p3, _, rfl, Same.refl _, e3⟩ (fun j σ H' _ h => by obtain ⟨pg, y5, _, s, _⟩ := h; exact sq_l (s _ _ eb3)) (fun j v σ H4 H5 hj h hy => ?ht2) (fun σ H4 h => ?he2)
      case ht2 =>
        obtain ⟨pg, y5, rfl, s4, e4⟩ := h
        obtain ⟨rfl, hv⟩ := hy
        obtain ⟨u, hu, rfl⟩ := map_get hv
        obtain ⟨lu, _⟩ := lv_ok S.ls i u (List.mem_of_getElem? hu)
        have hm4 := hM0.sm (sa.trans (s3.trans s4))
        walk_at "g"
        have sz : (tx S.ls).cps.size = S.ls.length := len_tx S.ls
        have l3 := ok.l3
        refine k_nLc (walk_str (z := tx S.ls)) (fun _ _ => trivial) (fun k ws => ws = tS ((S.ls.take k).map fun c => u ++ [c])) rfl (fun k ws hk hw => ?hz) (fun k v H6 H7 ws Kp Ks hk s6 hw hy hKp hKs => ?ht3) (fun p6 H6 ws n6 s6 e6 hw => ?he3)
        case hz =>
          rw [hw]
          unfold tS
          rw [List.length_map, List.length_map, List.length_take]
          omega
        case ht3 =>
          obtain ⟨rfl, c, hc, rfl⟩ := hy
          have hci : S.ls[k]? = some c := by rw [← hc]; exact Array.getElem?_toList (xs := S.ls.toArray)
          walk_at "g"
          refine ⟨rfl, ?_⟩
          walk_at "g"
          refine k_add_s (by rw [len_tx, lu]; show i + 1 ≤ 100000; omega) ?_
          rw [tx_one]
          exact hKp _ _ (Same.refl _) (by rw [hw, take_more hci, List.map_append]; simp [tS])
        case he3 =>
          have el : S.ls.take (tx S.ls).cps.size = S.ls := List.take_of_length_le (by omega)
          rw [el] at hw
          subst hw
          have e46 := s6 _ _ e4
          have a1 : (tS (((lv S.ls i).take j).flatMap fun u => S.ls.map fun c => u ++ [c])).length ≤ 14 * 3 := by
            unfold tS
            rw [List.length_map, List.length_flatMap, show (((lv S.ls i).take j).map fun u => (S.ls.map fun c => u ++ [c]).length) = ((lv S.ls i).take j).map fun _ => S.ls.length by simp, List.map_const', List.sum_replicate_nat, List.length_take]
            exact Nat.mul_le_mul (Nat.le_trans (Nat.min_le_right ..) l1) ok.l3
          have a2 : (tS (S.ls.map fun c => u ++ [c])).length ≤ 3 := by
            unfold tS
            rw [List.length_map, List.length_map]
            exact ok.l3
          refine k_add_l e46 e6 (by omega) (fun p7 H7 n7 s7 e7 => ?_)
          walk_at "g"
          refine ⟨p7, _, rfl, s4.trans (s6.trans s7), ?_⟩
          rw [e7, longer S.ls (lv S.ls i) j u hu]
          simp [tS]
      case he2 =>
        obtain ⟨pg, y5, rfl, s4, e4⟩ := h
        rw [ltS, List.take_length] at e4
        have ea4 := (s3.trans s4) _ _ ea
        walk_at "g"
        have w1 := words_small ok i (by omega)
        have t1 : (tS (wordsF S.ls i)).length = (wordsF S.ls i).length := List.length_map _
        have t2 : (tS ((lv S.ls i).flatMap fun u => S.ls.map fun c => u ++ [c])).length = (lv S.ls (i + 1)).length := List.length_map _
        refine k_add_l ea4 e4 (by omega) (fun p5 H5 n5 s5 e5 => ?_)
        walk_at "g"
        refine ⟨p5, pg, _, _, _, rfl, sa.trans (s3.trans (s4.trans s5)), ⟨(sa.trans (s3.trans s4)).free n5, ?_⟩, ?_⟩
        · rw [e5]
          unfold wordsF tS
          rw [List.range_succ, List.flatMap_append, List.map_append]
          simp [lv]
        · rw [s5 _ _ e4]
          rfl
def spLTaste (K : PySem.W.Frag) : Sp := fun vs H Q _ => ∃ (m : Addr) (S : HsD) (cs : List Nat), vs = [.ref m, .str (tx cs)] ∧ MAt K H m S ∧ HsOk S ∧ (∀ c ∈ cs, c ∈ S.ls) ∧ Q (.int (tasteF S cs)) H
theorem ok_Ltaste (F : FnP K "_law_taste" s_Ltaste f fd) (hm : mg "_law_taste" = some (.ref f)) : Callee P w K mg base CX0 "_law_taste" 1 [] (spLTaste K) := by
  refine ⟨f, fd, _, [], F.ok sc_Ltaste (fun vs H Q E h => ?hl) (fun cdv A outer s H vs Q E hr h => ⟨_, PSs.nox (pss_cons (ps_set (i := 2) sc_Ltaste.nd rfl (by first | exact Or.inl rfl | exact Or.inr rfl) pe_int)
      (pss_cons (ps_for PassesOwn.never rfl (pi_str (pv 1)) (pg_name (i := 3) sc_Ltaste.nd rfl (by first | exact Or.inl rfl | exact Or.inr rfl)) (pss_one (ps_set (i := 2) sc_Ltaste.nd rfl (by first | exact Or.inl rfl | exact Or.inr rfl) (pe_ix (ix_k K) (pe_ix (ix_k K) (pe_dget (hu_of hr) (pv 0) pe_str (fun _ _ => rfl)) (pv 2) (fun _ _ => rfl)) (pe_bmK K PySem.F.plainAttrs_str PySem.F.slot_str_index PySem.F.type_str_index mt_sindex (pe_dget (hu_of hr) (pv 0) pe_str (fun _ _ => rfl)) (pa_cons (pv 3) pa_nil)) (fun _ _ => rfl)))))
      (pss_one (ps_ret (pv 2))))), ?rd⟩), hm, F.kp, F.bindsN fun _ _ _ _ _ _ us hl => match us, hl with | [_, _], _ => rfl, .nil⟩
  case hl =>
    obtain ⟨m, S, cs, rfl, _⟩ := h
    rfl
  case rd =>
    obtain ⟨m, S, cs, rfl, hM0, ok, hcs, q⟩ := h
    obtain ⟨tb, ev, R, L, h1, h2, h3, h4, h5, h6, h7⟩ := id hM0
    refine k_start (σ' := [some _, some _, none, none]) rfl ?_
    have t1 := ok.t1
    walk_at "g"
    refine k_nFor (walk_str (z := tx cs)) (fun i σ H' => (∃ y3, σ = [some (.ref m), some (.str (tx cs)), some (.int ((cs.take i).foldl (stepT S) 0)), y3]) ∧ H' = H) ⟨⟨_, rfl⟩, rfl⟩ (fun _ _ _ _ _ => trivial) (fun i x σ Ha Hb hi h hy => ?ht) (fun σ H' h => ?he)
    case he =>
      obtain ⟨⟨y3, rfl⟩, rfl⟩ := h
      have e : (tx cs).cps.size = cs.length := len_tx cs
      rw [e, List.take_length]
      walk_at "g"
      exact q
    case ht =>
      obtain ⟨⟨y3, rfl⟩, rfl⟩ := h
      obtain ⟨rfl, c, hc', rfl⟩ := hy
      have hci : cs[i]? = some c := by rw [← hc']; exact Array.getElem?_toList (xs := cs.toArray)
      have hcl := hcs c (List.mem_of_getElem? hci)
      obtain ⟨b0, b1⟩ := taste_in ok (cs.take i) 0 (Int.le_refl _) (by omega) fun d hd => hcs d (List.mem_of_mem_take hd)
      obtain ⟨row, er, es, _, _⟩ := stepT_ok ok b0 b1 hcl
      rw [take_more hci, List.foldl_append]
      generalize (cs.take i).foldl (stepT S) 0 = here at *
      have er2 := er
      rw [← h4, List.getElem?_map] at er2
      obtain ⟨q0, hq0, rfl⟩ := Option.map_eq_some_iff.mp er2
      walk_at "g"
      refine k_ix_l h2 (v := .ref q0.1) (at_pos b0 (by rw [List.getElem?_map, hq0]; rfl)) ?_
      walk_at "g"
      obtain ⟨rest, eo⟩ := occ_one (pos_ok hcl).1 (pos_ok hcl).2
      refine ⟨tx S.ls, ⟨#[c]⟩, pos c S.ls, rest, rfl, rfl, eo, ?_⟩
      refine k_ix_t (h3 q0 (List.mem_of_getElem? hq0)) (v := .int (stepT S here c)) (at_n (j := pos c S.ls) rfl (by rw [List.getElem?_map, es]; rfl)) ?_
      walk_at "g"
      exact ⟨⟨_, rfl⟩, rfl⟩
def spLCut (K : PySem.W.Frag) : Sp := fun vs H Q _ => ∃ (m : Addr) (S : HsD) (u : List Nat), vs = [.ref m, .str (tx u)] ∧ MAt K H m S ∧ HsOk S ∧ u.length ≤ 1000 ∧ ∀ p H', H p = none → Same H H' → H' p = some (.lst (tS (cutW S u))) → Q (.ref p) H'
theorem ok_Lcut (F : FnP K "_law_cut" s_Lcut f fd) (hm : mg "_law_cut" = some (.ref f)) (f_len : mg "len" = none) : Callee P w K mg base CX0 "_law_cut" 1 [] (spLCut K) := by
  refine ⟨f, fd, _, [], F.ok sc_Lcut (fun vs H Q E h => ?hl) (fun cdv A outer s H vs Q E hr h => ⟨_, PSs.nox (pss_cons (ps_set (i := 2) sc_Lcut.nd rfl (by first | exact Or.inl rfl | exact Or.inr rfl) (pe_lst pa_nil))
      (pss_cons (ps_set (i := 3) sc_Lcut.nd rfl (by first | exact Or.inl rfl | exact Or.inr rfl) (pv 1))
      (pss_cons (ps_while PassesOwn.never (pt_cmpR op_gt (pe_callB (call_lenK K) (by rfl) f_len PySem.boot_len (pa_cons (pv 3) pa_nil)) (pe_dget (hu_of hr) (pv 0) pe_str (fun _ _ => rfl)) (nomark _)) (pss_cons (ps_expr (pe_bmK K PySem.F.plainAttrs_list PySem.F.slot_list_append PySem.F.type_list_append mt_append (pv 2) (pa_cons (pe_slice (sl_k K) (pv 3) po_none (po_some (pe_dget (hu_of hr) (pv 0) pe_str (fun _ _ => rfl)))) pa_nil)))
      (pss_one (ps_set (i := 3) sc_Lcut.nd rfl (by first | exact Or.inl rfl | exact Or.inr rfl) (pe_slice (sl_k K) (pv 3) (po_some (pe_dget (hu_of hr) (pv 0) pe_str (fun _ _ => rfl))) po_none)))))
      (pss_one (ps_ret (pe_op (op_addK K) (pv 2) (pe_lst (pa_cons (pv 3) pa_nil)))))))), ?rd⟩), hm, F.kp, F.bindsN fun _ _ _ _ _ _ us hl => match us, hl with | [_, _], _ => rfl, .nil⟩
  case hl =>
    obtain ⟨m, S, u, rfl, _⟩ := h
    rfl
  case rd =>
    obtain ⟨m, S, u, rfl, hM, ok, lu, q⟩ := h
    refine k_start (σ' := [some _, some _, none, none]) rfl ?_
    have m1 := ok.m1
    have k1 := ok.k1
    have km := ok.km
    walk_at "g"
    refine k_nLst (by walk_at "sz") (fun p1 H1 n1 s1 e1 => ?_)
    walk_at "g"
    refine k_while (fun mm σ H' => ∃ (v : List Nat) (acc : List (List Nat)), σ = [some (.ref m), some (.str (tx u)), some (.ref p1), some (.str (tx v))] ∧ Same H H' ∧ H' p1 = some (.lst (tS acc)) ∧ acc ++ cutW S v = cutW S u ∧ mm = v.length ∧ acc.length + v.length ≤ u.length) ⟨_, u, [], rfl, s1, e1, rfl, rfl, by simp⟩ (fun mm σ H' h => ?hw)
    obtain ⟨v, acc, rfl, sa, ea, hcut, rfl, hl⟩ := h
    have lv := len_tx v
    walk_at "g"
    refine k_len_s (by omega) ?_
    walk_at "g"
    rw [lv]
    refine k_turnD (fun d => k_turnT ?_) (fun d => k_turnF ?_)
    · walk_at "g"
      refine k_sl_s (by omega) ?_
      rw [cutS_to _ _ (by omega)]
      walk_at "g"
      refine k_append ea (by rw [len_tS]; omega) ?_
      have sb : Same H (upd H' p1 (.lst (tS acc ++ [V.str (tx (v.take S.cu.toNat))]))) := sm_mut sa n1
      have eb : (upd H' p1 (.lst (tS acc ++ [V.str (tx (v.take S.cu.toNat))]))) p1 = some (.lst (tS acc ++ [V.str (tx (v.take S.cu.toNat))])) := upd_same
      generalize upd H' p1 (.lst (tS acc ++ [V.str (tx (v.take S.cu.toNat))])) = Hb at sb eb ⊢
      walk_at "g"
      refine k_sl_s (by omega) ?_
      rw [cutS_from _ _ (by omega)]
      walk_at "g"
      have ld : (v.drop S.cu.toNat).length = v.length - S.cu.toNat := List.length_drop
      refine ⟨_, ?_, v.drop S.cu.toNat, acc ++ [v.take S.cu.toNat], rfl, sb, by rw [eb, tS_app]; rfl, by rw [← hcut, cutW_more (u := v) ok (by omega), List.append_assoc]; rfl, rfl, by rw [List.length_append, ld]; show acc.length + 1 + _ ≤ _; omega⟩
      omega
    · walk_at "g"
      refine k_nLst (by walk_at "sz") (fun p2 H2 n2 s2 e2 => ?_)
      refine k_add_l (s2 _ _ ea) e2 (by rw [len_tS]; show _ + 1 ≤ _; omega) (fun p3 H3 n3 s3 e3 => ?_)
      refine q p3 H3 ((sa.trans s2).free n3) ((sa.trans s2).trans s3) ?_
      rw [e3, ← hcut, cutW_last (by omega), tS_app]
      rfl
def restF (b : Bool) (en : List Nat) (i : Nat) : List Nat := if b = true then en.drop i else en.take (en.length - i)
theorem restF_le (b : Bool) (en : List Nat) (i : Nat) : (restF b en i).length = en.length - i := by
  unfold restF
  split
  · rw [List.length_drop]
  · rw [List.length_take]
    omega
def spLGrown (K : PySem.W.Frag) : Sp := fun vs H Q _ => ∃ (m : Addr) (S : HsD) (er en : List Nat) (b : Bool), vs = [.ref m, .str (tx er), .str (tx en), .str (sdS b)] ∧ MAt K H m S ∧ HsOk S ∧ er.length ≤ 1000 ∧ en.length ≤ 1000 ∧ Q (.str (tx (growF S b er en))) H
theorem ok_Lgrown (F : FnP K "_law_grown" s_Lgrown f fd) (hm : mg "_law_grown" = some (.ref f)) (f_len : mg "len" = none) (f_range : mg "range" = none) : Callee P w K mg base CX0 "_law_grown" 1 [] (spLGrown K) := by
  refine ⟨f, fd, _, [], F.ok sc_Lgrown (fun vs H Q E h => ?hl) (fun cdv A outer s H vs Q E hr h => ⟨_, PSs.nox (pss_cons (ps_set (i := 4) sc_Lgrown.nd rfl (by first | exact Or.inl rfl | exact Or.inr rfl) (pv 2))
      (pss_cons (ps_for PassesOwn.never rfl (pi_range1 (by rfl) f_range (pa_cons (pe_dget (hu_of hr) (pv 0) pe_str (fun _ _ => rfl)) pa_nil)) (pg_name (i := 5) sc_Lgrown.nd rfl (by first | exact Or.inl rfl | exact Or.inr rfl)) (pss_one (ps_set (i := 4) sc_Lgrown.nd rfl (by first | exact Or.inl rfl | exact Or.inr rfl) (pe_ifExp (pt_cmpR (op_eqK K hr.units) (pv 3) pe_str (nomark _)) (pe_slice (sl_k K) (pv 4) (po_some pe_int) po_none) (pe_ifExp (pt_cmpR (op_neK K hr.units) (pv 4) pe_str (nomark _)) (pe_slice (sl_k K) (pv 4) po_none (po_some (pe_op op_sub (pe_callB (call_lenK K) (by rfl) f_len PySem.boot_len (pa_cons (pv 4) pa_nil)) pe_int))) pe_str)))))
      (pss_one (ps_ret (pe_ifExp (pt_cmpR (op_eqK K hr.units) (pv 3) pe_str (nomark _)) (pe_op (op_addK K) (pe_op (op_addK K) (pe_dget (hu_of hr) (pv 0) pe_str (fun _ _ => rfl)) (pv 1)) (pv 4)) (pe_op (op_addK K) (pe_op (op_addK K) (pv 4) (pv 1)) (pe_dget (hu_of hr) (pv 0) pe_str (fun _ _ => rfl)))))))), ?rd⟩), hm, F.kp, F.bindsN fun _ _ _ _ _ _ us hl => match us, hl with | [_, _, _, _], _ => rfl, .nil⟩
  case hl =>
    obtain ⟨m, S, er, en, b, rfl, _⟩ := h
    rfl
  case rd =>
    obtain ⟨m, S, er, en, b, rfl, hM, ok, l1, l2, q⟩ := h
    refine k_start (σ' := [some _, some _, some _, some _, none, none]) rfl ?_
    have c0 := ok.c0
    have c2 := ok.c2
    have p2 := ok.p2
    have lp := len_tx S.pt
    have lr := len_tx er
    walk_at "g"
    refine k_nFor walk_range (fun i σ H' => (∃ y5, σ = [some (.ref m), some (.str (tx er)), some (.str (tx en)), some (.str (sdS b)), some (.str (tx (restF b en i))), y5]) ∧ H' = H) ⟨⟨none, by unfold restF; cases b <;> simp⟩, rfl⟩ (fun _ _ _ _ _ => trivial) (fun i x σ Ha Hb hi h hy => ?ht) (fun σ H' h => ?he)
    case ht =>
      obtain ⟨⟨y5, rfl⟩, rfl⟩ := h
      obtain ⟨rfl, rfl⟩ := y_rng hy
      have lf := restF_le b en i
      have lf2 := len_tx (restF b en i)
      walk_at "g"
      rw [sdS_right]
      cases b with
      | true =>
        walk_at "g"
        refine k_sl_s (by omega) ?_
        rw [cutS_from _ _ (by decide)]
        walk_at "g"
        refine ⟨⟨some (.int (i : Nat)), ?_⟩, rfl⟩
        unfold restF
        rw [if_pos rfl, if_pos rfl, List.drop_drop]
        rfl
      | false =>
        walk_at "g"
        rw [tx_nil, tx_eq]
        refine k_dec (fun d => ?_) (fun d => ?_)
        rotate_left
        · have l0 : 0 < (restF false en i).length := List.length_pos_iff.mpr d
          walk_at "g"
          refine k_len_s (by omega) ?_
          walk_at "g"
          refine k_sl_s (by omega) ?_
          rw [lf2, cutS_to _ _ (by omega)]
          walk_at "g"
          refine ⟨⟨some (.int (i : Nat)), ?_⟩, rfl⟩
          have e : ((restF false en i).take (((restF false en i).length : Int) - 1).toNat) = restF false en (i + 1) := by
            rw [lf]
            unfold restF
            rw [if_neg (by decide), if_neg (by decide), List.take_take]
            congr 1
            omega
          rw [e]
          rfl
        · walk_at "g"
          refine ⟨⟨some (.int (i : Nat)), ?_⟩, rfl⟩
          have e : restF false en (i + 1) = [] := List.length_eq_zero_iff.mp (by rw [restF_le]; rw [d] at lf; simp at lf; omega)
          rw [e]
          rfl
    case he =>
      obtain ⟨⟨y5, rfl⟩, rfl⟩ := h
      have lf := restF_le b en S.ch.toNat
      have lf2 := len_tx (restF b en S.ch.toNat)
      walk_at "g"
      rw [sdS_right]
      unfold growF at q
      cases b with
      | true =>
        rw [if_pos rfl] at q
        walk_at "g"
        refine k_add_s (by omega) ?_
        rw [tx_app]
        walk_at "g"
        refine k_add_s (by rw [len_tx, len_tx, List.length_append]; omega) ?_
        rw [tx_app]
        unfold restF
        rw [if_pos rfl]
        exact q
      | false =>
        rw [if_neg (by decide)] at q
        walk_at "g"
        refine k_add_s (by omega) ?_
        rw [tx_app]
        walk_at "g"
        refine k_add_s (by rw [len_tx, len_tx, List.length_append]; omega) ?_
        rw [tx_app]
        unfold restF
        rw [if_neg (by decide)]
        exact q
theorem deep_trL {S : HsD} (ok : HsOk S) {ks : List (List Key)} (h : ks = S.tr) : SeqAt.shaped (.list (ks.map dKeys)) = true := by
  have e7 := ok.e7
  subst h
  refine Good.shaped (j := 3) ⟨by rw [List.length_map]; omega, fun e he => ?_⟩ (by decide)
  obtain ⟨k, hk, rfl⟩ := List.mem_map.mp he
  obtain ⟨s, a, b, rfl, h1, h2, h3, h4⟩ := ok.ev k hk
  have t4 := ok.t4
  have g : ∀ x : Int, 0 ≤ x → x < S.tb.length → x.natAbs.log2 < 1920 := fun x h0 h1 => by
    have := log_nat (k := x.toNat) (by omega)
    rwa [Int.toNat_of_nonneg h0] at this
  refine ⟨by show 3 ≤ 50000; decide, fun e he => ?_⟩
  rcases List.mem_cons.mp he with rfl | he
  · refine ⟨?_, ?_⟩ <;> cases s <;> first | exact pl_B (by decide +kernel) | decide +kernel
  rcases List.mem_cons.mp he with rfl | he
  · exact g a h1 h2
  rcases List.mem_cons.mp he with rfl | he
  · exact g b h3 h4
  cases he
def spLBehind (K : PySem.W.Frag) : Sp := fun vs H Q _ => ∃ (m r : Addr) (S : HsD) (us : List (List Nat)) (place : Int) (z : Str), vs = [.ref m, .ref r, .int place, .str z] ∧ MAt K H m S ∧ HsOk S ∧ SqL K H r (tS us) ∧ AllW S us ∧ us.length ≤ 10000 ∧ ∀ v H', Same H H' → IsOpt H H' v (behS S us place z) → Q v H'
theorem ok_Lbehind (F : FnP K "_law_behind" s_Lbehind f fd) (hm : mg "_law_behind" = some (.ref f)) (f_len : mg "len" = none) (f_min : mg "min" = none) (c_Ltaste : Callee P w K mg base CX0 "_law_taste" 1 [] (spLTaste K)) (c_Lcut : Callee P w K mg base CX0 "_law_cut" 1 [] (spLCut K)) (c_Lgrown : Callee P w K mg base CX0 "_law_grown" 1 [] (spLGrown K)) : Callee P w K mg base CX0 "_law_behind" 2 [] (spLBehind K) := by
  refine ⟨f, fd, _, [], F.ok sc_Lbehind (fun vs H Q E h => ?hl) (fun cdv A outer s H vs Q E hr h => ⟨_, PSs.nox (pss_cons (ps_set (i := 4) sc_Lbehind.nd rfl (by first | exact Or.inl rfl | exact Or.inr rfl) (pe_ifExp (pt_cmpR (op_eqK K hr.units) (pv 3) pe_str (nomark _)) (pe_op (op_addK K) (pv 2) pe_int) (pe_op op_sub (pv 2) pe_int)))
      (pss_cons (ps_if (PW.pt (pw_or (pt_not (pt_chain op_leU op_lt pe_int (pv 2) (pe_callB (call_lenK K) (by rfl) f_len PySem.boot_len (pa_cons (pv 1) pa_nil)))) (pw_or (pt_not (pt_chain op_leU op_lt pe_int (pv 4) (pe_callB (call_lenK K) (by rfl) f_len PySem.boot_len (pa_cons (pv 1) pa_nil)))) (pw_or1 (pt_cmpR (op_niK K) (pv 3) (pe_tup (pa_cons pe_str (pa_cons pe_str pa_nil))) (by rfl)))))) (pss_one (ps_ret pe_non)) pss_nil)
      (pss_cons (ps_if (pt_cmpR (op_niLD K (u65 hr)) (pe_tup (pa_cons (pv 3) (pa_cons (pe_cl c_Ltaste hr (pa_cons (pv 0) (pa_cons (pe_ix (ix_k K) (pv 1) (pv 2) (fun _ _ => rfl)) pa_nil)) pass0) (pa_cons (pe_cl c_Ltaste hr (pa_cons (pv 0) (pa_cons (pe_ix (ix_k K) (pv 1) (pv 4) (fun _ _ => rfl)) pa_nil)) pass0) pa_nil)))) (pe_dget (hu_of hr) (pv 0) pe_str (fun _ _ => rfl)) (by rfl)) (pss_one (ps_ret pe_non)) pss_nil)
      (pss_cons (ps_set (i := 5) sc_Lbehind.nd rfl (by first | exact Or.inl rfl | exact Or.inr rfl) (pe_callB call_minK (by rfl) f_min (by decide +kernel) (pa_cons (pv 2) (pa_cons (pv 4) pa_nil))))
      (pss_cons (ps_set (i := 6) sc_Lbehind.nd rfl (by first | exact Or.inl rfl | exact Or.inr rfl) (pe_op (op_addK K) (pe_op (op_addK K) (pe_slice (sl_k K) (pv 1) po_none (po_some (pv 5))) (pe_cl c_Lcut hr (pa_cons (pv 0) (pa_cons (pe_cl c_Lgrown hr (pa_cons (pv 0) (pa_cons (pe_ix (ix_k K) (pv 1) (pv 2) (fun _ _ => rfl)) (pa_cons (pe_ix (ix_k K) (pv 1) (pv 4) (fun _ _ => rfl)) (pa_cons (pv 3) pa_nil)))) pass0) pa_nil)) pass0)) (pe_slice (sl_k K) (pv 1) (po_some (pe_op (op_addK K) (pv 5) pe_int)) po_none)))
      (pss_one (ps_ret (pe_ifExp (pt_cmpR (op_eqK K hr.units) (pv 6) (pv 1) (nomark _)) pe_non (pv 6))))))))), ?rd⟩), hm, F.kp, F.bindsN fun _ _ _ _ _ _ us hl => match us, hl with | [_, _, _, _], _ => rfl, .nil⟩
  case hl =>
    obtain ⟨m, r, S, us, place, z, rfl, _⟩ := h
    rfl
  case rd =>
    obtain ⟨m, r, S, us, place, z, rfl, hM, ok, hx, hw, lu, q⟩ := h
    refine k_start (σ' := [some _, some _, some _, some _, none, none, none]) rfl ?_
    have lx := len_tS us
    have no : ∀ H', Same H H' → behS S us place z = none → Q .non H' := fun H' s e => q .non H' s (by rw [e]; exact rfl)
    rcases side_of z with ⟨sd, rfl⟩ | hz
    · rw [behS_sd] at no
      simp only [behS_sd] at q
      walk_at "g"
      rw [sdS_right]
      cases sd with
      | false =>
        have out : ¬ (0 ≤ place - 1 ∧ place - 1 + 1 < us.length) → behF S us place false = none := fun h => by
          unfold behF
          by_cases h0 : (0 : Int) ≤ place - 1
          · rw [if_pos (by exact h0)]
            exact biteF_out (by show us.length ≤ (place - 1).toNat + 1; omega)
          · rw [if_neg (by exact h0)]
        walk_at "g"
        refine k_dec (fun d1 => ?_) (fun d1 => ?_)
        rotate_left
        · walk_at "g"
          exact no _ (Same.refl _) (out (by omega))
        walk_at "g"
        rw [lx]
        refine k_dec (fun d2 => ?_) (fun d2 => ?_)
        rotate_left
        · walk_at "g"
          exact no _ (Same.refl _) (out (by omega))
        walk_at "g"
        refine k_dec (fun d3 => ?_) (fun d3 => ?_)
        rotate_left
        · walk_at "g"
          exact no _ (Same.refl _) (out (by omega))
        walk_at "g"
        rw [lx]
        refine k_dec (fun d4 => ?_) (fun d4 => ?_)
        rotate_left
        · walk_at "g"
          exact no _ (Same.refl _) (out (by omega))
        walk_at "g"
        refine k_nTup (by walk_at "sz") (fun p2 H2 n2 s2 e2 => ?_)
        walk_at "g"
        refine k_niT (sq_t e2) rfl rfl (b := false) (by rw [inV_sides]; decide +kernel) ?_
        walk_at "g"
        obtain ⟨low, hlow⟩ : ∃ low : Nat, place - 1 = (low : Int) := ⟨(place - 1).toNat, by omega⟩
        have g1 : us[low]? = some us[low] := List.getElem?_eq_getElem (by omega)
        have g2 : us[low + 1]? = some us[low + 1] := List.getElem?_eq_getElem (by omega)
        have b1 := (hw.len ok) _ (List.getElem_mem (show low < us.length by omega))
        have b2 := (hw.len ok) _ (List.getElem_mem (show low + 1 < us.length by omega))
        generalize us[low] = x at g1 b1
        generalize us[low + 1] = y at g2 b2
        have eF : behF S us place false = if eatsF S false y x = true then (if us.take low ++ madeF S false x y ++ us.drop (low + 2) = us then none else some (us.take low ++ madeF S false x y ++ us.drop (low + 2))) else none := by
          unfold behF
          rw [show (if false = true then place else place - 1) = place - 1 from rfl, if_pos (by omega), show (place - 1).toNat = low by omega, biteF_some g1 g2]
          rfl
        have ix1 : atI (tS us) place = some (.str (tx y)) := at_n (show place = ((low + 1 : Nat) : Int) by omega) (getS g2)
        have ix2 : atI (tS us) (place - 1) = some (.str (tx x)) := at_n (show place - 1 = ((low : Nat) : Int) by omega) (getS g1)
        have hm2 := hM.sm s2
        refine k_ix_l (sm_l s2 hx) ix1 ?_
        walk_at "g"
        refine ⟨m, S, y, rfl, hm2, ok, b2.2.2, ?_⟩
        walk_at "g"
        refine k_ix_l (sm_l s2 hx) ix2 ?_
        walk_at "g"
        refine ⟨m, S, x, rfl, hm2, ok, b1.2.2, ?_⟩
        walk_at "g"
        refine k_nTup (by walk_at "sz") (fun p3 H3 n3 s3 e3 => ?_)
        obtain ⟨tb, ev, R, L, h1, h2, h3, h4, h5, h6, h7⟩ := id (hm2.sm s3)
        walk_at "g"
        have tp := tasteF_in ok (u := y) b2.2.2
        have tq := tasteF_in ok (u := x) b1.2.2
        refine ⟨_, _, dp_keys (k := kEat false (tasteF S y) (tasteF S x)) (sq_t e3), .lst h5 (dp_trs h6), shaped_eat false tp.1 tp.2 tq.1 tq.2, deep_trL ok (by rw [h7]), ?_⟩
        rw [any_keys, h7]
        have hr3 : ∀ (Hx : Hp), Same H3 Hx → SqL K Hx r (tS us) := fun Hx s => sm_l s (sm_l s3 (sm_l s2 hx))
        cases he : eatsF S false y x with
        | false =>
          unfold eatsF at he
          rw [he]
          walk_at "g"
          refine no _ (s2.trans s3) ?_
          rw [eF]
          unfold eatsF
          rw [he]
          rfl
        | true =>
          rw [he, if_pos rfl] at eF
          unfold eatsF at he
          rw [he]
          walk_at "g"
          rw [show min place (place - 1) = (low : Int) by omega]
          walk_at "g"
          refine k_sl_l (hr3 _ (Same.refl _)) (fun p4 H4 n4 s4 e4 => ?_)
          rw [cutV_to, tS_take] at e4
          walk_at "g"
          refine k_ix_l (hr3 _ s4) ix1 ?_
          walk_at "g"
          refine k_ix_l (hr3 _ s4) ix2 ?_
          walk_at "g"
          refine ⟨m, S, y, x, false, rfl, hm2.sm (s3.trans s4), ok, by omega, by omega, ?_⟩
          walk_at "g"
          have lg := growF_len S false y x
          have p2 := ok.p2
          refine ⟨m, S, growF S false y x, rfl, hm2.sm (s3.trans s4), ok, by omega, fun p5 H5 n5 s5 e5 => ?_⟩
          have cw := cutW_words ok _ (growF S false y x) (Nat.le_refl _) (by omega) (growF_in ok b2.2.2 b1.2.2)
          refine k_add_l (s5 _ _ e4) e5 (by rw [len_tS, len_tS, List.length_take]; omega) (fun p6 H6 n6 s6 e6 => ?_)
          walk_at "g"
          refine k_sl_l (hr3 _ (s4.trans (s5.trans s6))) (fun p7 H7 n7 s7 e7 => ?_)
          rw [cutV_fromI _ _ (by omega), show ((low : Int) + 2).toNat = low + 2 by omega, tS_drop] at e7
          refine k_add_l (s7 _ _ e6) e7 (by rw [List.length_append, len_tS, len_tS, len_tS, List.length_take, List.length_drop]; omega) (fun p8 H8 n8 s8 e8 => ?_)
          rw [← tS_app, ← tS_app, show cutW S (growF S false y x) = madeF S false x y from rfl] at e8
          have s38 := s4.trans (s5.trans (s6.trans (s7.trans s8)))
          have sH8 : Same H H8 := (s2.trans s3).trans s38
          have n8' : H p8 = none := (s2.trans (s3.trans (s4.trans (s5.trans (s6.trans s7))))).free n8
          walk_at "g"
          refine row_eq ok hw (by omega) (made_in ok hw (by omega) cw.1) (by rw [List.length_append, List.length_append, List.length_take, List.length_drop]; have := cw.2; show _ + (cutW S (growF S false y x)).length + _ ≤ 20000; omega) (sq_l e8) (hr3 _ s38) ?_
          walk_at "g"
          refine k_dec (fun d => ?_) (fun d => ?_)
          · rw [if_pos (show us.take low ++ madeF S false x y ++ us.drop (low + 2) = us from d)] at eF
            walk_at "g"
            exact no _ sH8 eF
          · rw [if_neg (show ¬ us.take low ++ madeF S false x y ++ us.drop (low + 2) = us from d)] at eF
            walk_at "g"
            exact q _ _ sH8 (by rw [eF]; exact ⟨p8, rfl, n8', e8⟩)
      | true =>
        have out : ¬ (0 ≤ place ∧ place + 1 < us.length) → behF S us place true = none := fun h => by
          unfold behF
          by_cases h0 : (0 : Int) ≤ place
          · rw [if_pos (by exact h0)]
            exact biteF_out (by show us.length ≤ (place).toNat + 1; omega)
          · rw [if_neg (by exact h0)]
        walk_at "g"
        refine k_dec (fun d1 => ?_) (fun d1 => ?_)
        rotate_left
        · walk_at "g"
          exact no _ (Same.refl _) (out (by omega))
        walk_at "g"
        rw [lx]
        refine k_dec (fun d2 => ?_) (fun d2 => ?_)
        rotate_left
        · walk_at "g"
          exact no _ (Same.refl _) (out (by omega))
        walk_at "g"
        refine k_dec (fun d3 => ?_) (fun d3 => ?_)
        rotate_left
        · walk_at "g"
          exact no _ (Same.refl _) (out (by omega))
        walk_at "g"
        rw [lx]
        refine k_dec (fun d4 => ?_) (fun d4 => ?_)
        rotate_left
        · walk_at "g"
          exact no _ (Same.refl _) (out (by omega))
        walk_at "g"
        refine k_nTup (by walk_at "sz") (fun p2 H2 n2 s2 e2 => ?_)
        walk_at "g"
        refine k_niT (sq_t e2) rfl rfl (b := false) (by rw [inV_sides]; decide +kernel) ?_
        walk_at "g"
        obtain ⟨low, hlow⟩ : ∃ low : Nat, place = (low : Int) := ⟨(place).toNat, by omega⟩
        have g1 : us[low]? = some us[low] := List.getElem?_eq_getElem (by omega)
        have g2 : us[low + 1]? = some us[low + 1] := List.getElem?_eq_getElem (by omega)
        have b1 := (hw.len ok) _ (List.getElem_mem (show low < us.length by omega))
        have b2 := (hw.len ok) _ (List.getElem_mem (show low + 1 < us.length by omega))
        generalize us[low] = x at g1 b1
        generalize us[low + 1] = y at g2 b2
        have eF : behF S us place true = if eatsF S true x y = true then (if us.take low ++ madeF S true x y ++ us.drop (low + 2) = us then none else some (us.take low ++ madeF S true x y ++ us.drop (low + 2))) else none := by
          unfold behF
          rw [show (if true = true then place else place - 1) = place from rfl, if_pos (by omega), show (place).toNat = low by omega, biteF_some g1 g2]
          rfl
        have ix1 : atI (tS us) place = some (.str (tx x)) := at_n (show place = ((low : Nat) : Int) by omega) (getS g1)
        have ix2 : atI (tS us) (place + 1) = some (.str (tx y)) := at_n (show place + 1 = ((low + 1 : Nat) : Int) by omega) (getS g2)
        have hm2 := hM.sm s2
        refine k_ix_l (sm_l s2 hx) ix1 ?_
        walk_at "g"
        refine ⟨m, S, x, rfl, hm2, ok, b1.2.2, ?_⟩
        walk_at "g"
        refine k_ix_l (sm_l s2 hx) ix2 ?_
        walk_at "g"
        refine ⟨m, S, y, rfl, hm2, ok, b2.2.2, ?_⟩
        walk_at "g"
        refine k_nTup (by walk_at "sz") (fun p3 H3 n3 s3 e3 => ?_)
        obtain ⟨tb, ev, R, L, h1, h2, h3, h4, h5, h6, h7⟩ := id (hm2.sm s3)
        walk_at "g"
        have tp := tasteF_in ok (u := x) b1.2.2
        have tq := tasteF_in ok (u := y) b2.2.2
        refine ⟨_, _, dp_keys (k := kEat true (tasteF S x) (tasteF S y)) (sq_t e3), .lst h5 (dp_trs h6), shaped_eat true tp.1 tp.2 tq.1 tq.2, deep_trL ok (by rw [h7]), ?_⟩
        rw [any_keys, h7]
        have hr3 : ∀ (Hx : Hp), Same H3 Hx → SqL K Hx r (tS us) := fun Hx s => sm_l s (sm_l s3 (sm_l s2 hx))
        cases he : eatsF S true x y with
        | false =>
          unfold eatsF at he
          rw [he]
          walk_at "g"
          refine no _ (s2.trans s3) ?_
          rw [eF]
          unfold eatsF
          rw [he]
          rfl
        | true =>
          rw [he, if_pos rfl] at eF
          unfold eatsF at he
          rw [he]
          walk_at "g"
          rw [show min place (place + 1) = (low : Int) by omega]
          walk_at "g"
          refine k_sl_l (hr3 _ (Same.refl _)) (fun p4 H4 n4 s4 e4 => ?_)
          rw [cutV_to, tS_take] at e4
          walk_at "g"
          refine k_ix_l (hr3 _ s4) ix1 ?_
          walk_at "g"
          refine k_ix_l (hr3 _ s4) ix2 ?_
          walk_at "g"
          refine ⟨m, S, x, y, true, rfl, hm2.sm (s3.trans s4), ok, by omega, by omega, ?_⟩
          walk_at "g"
          have lg := growF_len S true x y
          have p2 := ok.p2
          refine ⟨m, S, growF S true x y, rfl, hm2.sm (s3.trans s4), ok, by omega, fun p5 H5 n5 s5 e5 => ?_⟩
          have cw := cutW_words ok _ (growF S true x y) (Nat.le_refl _) (by omega) (growF_in ok b1.2.2 b2.2.2)
          refine k_add_l (s5 _ _ e4) e5 (by rw [len_tS, len_tS, List.length_take]; omega) (fun p6 H6 n6 s6 e6 => ?_)
          walk_at "g"
          refine k_sl_l (hr3 _ (s4.trans (s5.trans s6))) (fun p7 H7 n7 s7 e7 => ?_)
          rw [cutV_fromI _ _ (by omega), show ((low : Int) + 2).toNat = low + 2 by omega, tS_drop] at e7
          refine k_add_l (s7 _ _ e6) e7 (by rw [List.length_append, len_tS, len_tS, len_tS, List.length_take, List.length_drop]; omega) (fun p8 H8 n8 s8 e8 => ?_)
          rw [← tS_app, ← tS_app, show cutW S (growF S true x y) = madeF S true x y from rfl] at e8
          have s38 := s4.trans (s5.trans (s6.trans (s7.trans s8)))
          have sH8 : Same H H8 := (s2.trans s3).trans s38
          have n8' : H p8 = none := (s2.trans (s3.trans (s4.trans (s5.trans (s6.trans s7))))).free n8
          walk_at "g"
          refine row_eq ok hw (by omega) (made_in ok hw (by omega) cw.1) (by rw [List.length_append, List.length_append, List.length_take, List.length_drop]; have := cw.2; show _ + (cutW S (growF S true x y)).length + _ ≤ 20000; omega) (sq_l e8) (hr3 _ s38) ?_
          walk_at "g"
          refine k_dec (fun d => ?_) (fun d => ?_)
          · rw [if_pos (show us.take low ++ madeF S true x y ++ us.drop (low + 2) = us from d)] at eF
            walk_at "g"
            exact no _ sH8 eF
          · rw [if_neg (show ¬ us.take low ++ madeF S true x y ++ us.drop (low + 2) = us from d)] at eF
            walk_at "g"
            exact q _ _ sH8 (by rw [eF]; exact ⟨p8, rfl, n8', e8⟩)
    · have no := fun H' s => no H' s (behS_no hz)
      walk_at "g"
      rw [decide_eq_false hz.2]
      walk_at "g"
      refine k_dec (fun d1 => ?_) (fun d1 => ?_)
      rotate_left
      · walk_at "g"
        exact no _ (Same.refl _)
      walk_at "g"
      rw [lx]
      refine k_dec (fun d2 => ?_) (fun d2 => ?_)
      rotate_left
      · walk_at "g"
        exact no _ (Same.refl _)
      walk_at "g"
      refine k_dec (fun d3 => ?_) (fun d3 => ?_)
      rotate_left
      · walk_at "g"
        exact no _ (Same.refl _)
      walk_at "g"
      rw [lx]
      refine k_dec (fun d4 => ?_) (fun d4 => ?_)
      rotate_left
      · walk_at "g"
        exact no _ (Same.refl _)
      walk_at "g"
      refine k_nTup (by walk_at "sz") (fun p2 H2 n2 s2 e2 => ?_)
      walk_at "g"
      refine k_niT (sq_t e2) rfl rfl (b := true) (by rw [inV_sides, decide_eq_false hz.1, decide_eq_false hz.2]; rfl) ?_
      walk_at "g"
      exact no _ s2
theorem words_pos {S : HsD} (ok : HsOk S) : 0 < (wordsF S.ls S.mo.toNat).length := by
  have m1 := ok.m1
  have l1 := ok.l1
  obtain ⟨c, hc⟩ : ∃ c, c ∈ S.ls := ⟨S.ls[0], List.getElem_mem (by omega)⟩
  have h : [c] ∈ wordsF S.ls S.mo.toNat := List.mem_flatMap.mpr ⟨0, List.mem_range.mpr (by omega), mem_lv _ _ _ rfl fun d hd => by rw [List.mem_singleton.mp hd]; exact hc⟩
  exact List.length_pos_of_mem h
def spLRow (K : PySem.W.Frag) : Sp := fun vs H Q _ => ∃ (b m : Addr) (S : HsD) (n : Nat), vs = [.ref b, .ref m, .int (n : Nat)] ∧ BagOk H b ∧ MAt K H m S ∧ HsOk S ∧ n ≤ 1000 ∧ ∀ us p H', AllW S us → us.length ≤ n → H p = none → Same H H' → H' p = some (.lst (tS us)) → Q (.ref p) H'
theorem ok_Lrow (F : FnP K "_law_row" s_Lrow f fd) (hm : mg "_law_row" = some (.ref f)) (f_range : mg "range" = none) (c_Lpull : Callee P w K mg base CX0 "_law_pull" 1 [] spPull) (c_Lone : Callee P w K mg base CX0 "_law_one" 2 [] (spOne K)) (c_Lwords : Callee P w K mg base CX0 "_law_words" 1 [] (spLWords K)) : Callee P w K mg base CX0 "_law_row" 3 [] (spLRow K) := by
  refine ⟨f, fd, _, [], F.ok sc_Lrow (fun vs H Q E h => ?hl) (fun cdv A outer s H vs Q E hr h => ⟨_, PSs.nox (pss_cons (ps_set (i := 3) sc_Lrow.nd rfl (by first | exact Or.inl rfl | exact Or.inr rfl) (pe_cl c_Lwords hr (pa_cons (pv 1) pa_nil) pass0))
      (pss_one (ps_ret (pe_lc (own := [("_law_k", 4)]) rfl sc_Lrow.nd (pi_range1 (by rfl) f_range (pa_cons (pe_cl c_Lpull hr (pa_cons (pv 0) (pa_cons (pe_op (op_addK K) (pv 2) pe_int) pa_nil)) pass0) pa_nil)) (blkOk_by (N := ["_law_bag_here", "_law_m", "_law_most_words", "_law_shelf", "_law_k"]) (sc := defScope s_Lrow) (by decide +kernel)) (fun _ _ _ _ _ => (pg_name (i := 4) sc_Lrow.nd rfl (by first | exact Or.inl rfl | exact Or.inr rfl))) (fun _ _ _ _ _ => pts_nil) (fun _ _ _ _ _ => (pe_cl c_Lone hr (pa_cons (pv 0) (pa_cons (pv 3) pa_nil)) pass0)))))), ?rd⟩), hm, F.kp, F.bindsN fun _ _ _ _ _ _ us hl => match us, hl with | [_, _, _], _ => rfl, .nil⟩
  case hl =>
    obtain ⟨b, m, S, n, rfl, _⟩ := h
    rfl
  case rd =>
    obtain ⟨b, m, S, n, rfl, hb, hM, ok, ln, q⟩ := h
    refine k_start (σ' := [some _, some _, some _, none, none]) rfl ?_
    have lw := words_small ok S.mo.toNat (Nat.le_refl _)
    have m3 := ok.m3
    have wp := words_pos ok
    have ltw := len_tS (wordsF S.ls S.mo.toNat)
    walk_at "g"
    refine ⟨m, S, rfl, hM, ok, fun p1 H1 n1 s1 e1 => ?_⟩
    walk_at "g"
    refine k_pull (hb.sm s1) (by omega) (by omega) (fun x x0 x1 => ?_)
    walk_at "g"
    refine k_nLc walk_range (fun _ _ => trivial) (fun i ws => ∃ us : List (List Nat), ws = tS us ∧ us.length = i ∧ AllW S us) ⟨[], rfl, rfl, fun u hu => nomatch hu⟩ (fun i ws hi h => ?hz) (fun i v Hc Hd ws Kp Ks hi sa hws hy hKp hKs => ?ht) (fun p2 H2 ws n2 s2 e2 hws => ?he)
    case hz =>
      obtain ⟨us, rfl, h2, _⟩ := h
      rw [len_tS]
      omega
    case ht =>
      obtain ⟨rfl, rfl⟩ := y_rng hy
      obtain ⟨us, rfl, h2, h3⟩ := hws
      have e1a := sa _ _ e1
      walk_at "g"
      refine ⟨rfl, ?_⟩
      walk_at "g"
      refine ⟨b, .ref p1, rfl, (hb.sm s1).sm sa, .inl ⟨p1, _, rfl, sq_l e1a, by omega, by omega, fun v hv => ?_⟩⟩
      obtain ⟨u, hu, rfl⟩ := List.mem_map.mp hv
      refine hKp _ _ (Same.refl _) ⟨us ++ [u], by rw [tS_app]; rfl, by rw [List.length_append, h2]; rfl, fun z hz => ?_⟩
      rcases List.mem_append.mp hz with hz | hz
      · exact h3 z hz
      · rw [List.mem_singleton.mp hz]
        exact hu
    case he =>
      obtain ⟨us, rfl, h2, h3⟩ := hws
      exact q us p2 H2 h3 (by omega) (s1.free n2) (s1.trans s2) e2
end
end Lw
set_option autoImplicit true
set_option pp.maxSteps 1200
set_option Elab.async false
set_option linter.all false
set_option maxRecDepth 100000
set_option maxHeartbeats 1000000
namespace Lw
open PySem PySem.Spec PyProof.Rows L2 Gk

local macro_rules | `(tactic| walk_at "hp") => `(tactic| first | assumption | exact upd_same | (refine' (upd_ne ?n).trans ?h; (case n => assumption); (case h => walk_at "hp")) | (refine' sm_get ?s ?h; (case s => assumption); (case h => walk_at "hp")))
local macro_rules | `(tactic| walk_at "sq") => `(tactic| first | assumption | (refine' sq_l ?h; (case h => walk_at "hp")) | (refine' sm_l ?s ?h; (case s => assumption); (case h => walk_at "sq")))
local macro_rules | `(tactic| walk_at "st") => `(tactic| first | assumption | (refine' sq_t ?h; (case h => walk_at "hp")) | (refine' sm_t ?s ?h; (case s => assumption); (case h => walk_at "st")))
local macro_rules | `(tactic| walk_at "bg") => `(tactic| first | assumption | (refine' BagOk.sm ?s ?h; (case s => assumption); (case h => walk_at "bg")))
local macro_rules | `(tactic| walk_at "sm") => `(tactic| first | assumption | exact Same.refl _ | (refine' Same.trans ?h ?s; (case s => assumption); (case h => walk_at "sm")))
local macro_rules | `(tactic| walk_at "hs") => `(tactic| first | assumption | (refine' HsAt.sm ?s ?h; (case s => assumption); (case h => walk_at "hs")))
local macro_rules | `(tactic| walk_at "ms") => `(tactic| first | assumption | (refine' MAt.sm ?s ?h; (case s => assumption); (case h => walk_at "ms")))
local macro_rules | `(tactic| walk_at "md") => `(tactic| first | assumption | (refine' MDk.sm ?s ?h; (case s => assumption); (case h => walk_at "md")))
local macro_rules | `(tactic| walk_at "dp") => `(tactic| first | assumption | (refine' dp_sm ?s ?h; (case s => assumption); (case h => walk_at "dp")))
local macro_rules | `(tactic| walk_at "sz") => `(tactic| first | decide | assumption | omega | (simp only [List.length_cons, List.length_nil, List.length_map, List.length_append]; omega))
local macro_rules | `(tactic| walk_at "g1") => `(tactic| first
  | with_reducible refine k_seq ?_
  | with_reducible refine k_itB ?_
  | with_reducible refine k_next ?_
  | with_reducible refine k_asg ?_
  | with_reducible refine k_name ?_
  | with_reducible refine k_ret ?_
  | with_reducible refine k_retN ?_
  | with_reducible refine k_drop ?_
  | with_reducible refine k_ifs ?_
  | with_reducible refine k_brk ?_
  | with_reducible refine k_cont ?_
  | with_reducible refine k_ipI ?_
  | with_reducible refine k_test ?_
  | with_reducible refine k_tB ?_
  | with_reducible refine k_bl ?_
  | with_reducible refine k_not ?_
  | with_reducible refine k_and ?_
  | with_reducible refine k_or ?_
  | with_reducible refine k_yes ?_
  | with_reducible refine k_true ?_
  | with_reducible refine k_false ?_
  | with_reducible refine k_nt ?_
  | with_reducible refine k_c ?_
  | with_reducible refine k_op ?_
  | with_reducible refine k_un ?_
  | with_reducible refine k_if ?_
  | with_reducible refine k_chain ?_
  | with_reducible refine k_nil ?_
  | with_reducible refine k_cons ?_
  | with_reducible refine k_cb ?_
  | with_reducible refine k_call ?_
  | with_reducible refine k_callS ?_
  | with_reducible refine k_andV ?_
  | with_reducible refine k_orV ?_
  | with_reducible refine k_notV ?_
  | with_reducible refine k_lst ?_
  | with_reducible refine k_tup ?_
  | with_reducible refine k_nopart ?_
  | with_reducible refine k_part ?_
  | with_reducible refine k_nInt ?_
  | with_reducible refine k_sl ?_
  | with_reducible refine k_bm ?_
  | with_reducible refine k_bm0 ?_
  | with_reducible refine k_nTyS ?_
  | with_reducible refine k_m1 ?_
  | with_reducible refine k_m0 ?_
  | with_reducible refine k_nStr ?_
  | with_reducible refine k_I0 ?_
  | with_reducible refine k_U ?_
  | with_reducible refine k_add_i ?_
  | with_reducible refine k_eq_i ?_
  | with_reducible refine k_eq_s ?_
  | with_reducible refine k_eq_b ?_
  | with_reducible refine k_ne_i ?_
  | with_reducible refine k_ne_s ?_
  | with_reducible refine k_ne_b ?_
  | with_reducible refine k_le_i ?_
  | with_reducible refine k_le_s ?_
  | with_reducible refine k_gnil ?_
  | with_reducible refine k_gcons ?_
  | with_reducible refine k_gsub ?_
  | with_reducible refine k_for ?_
  | with_reducible refine k_lc ?_
  | with_reducible refine k_rng1 ?_
  | with_reducible refine k_rng2 ?_
  | with_reducible refine k_itl ?_
  | with_reducible refine k_itt ?_
  | with_reducible refine k_its ?_
  | with_reducible refine k_ite ?_
  | with_reducible refine k_iteB ?_
  | with_reducible refine k_lrg2 ?_
  | with_reducible refine k_itz ?_
  | with_reducible refine k_nIts ?_
  | with_reducible refine k_inS ?_
  | with_reducible refine k_niS ?_
  | with_reducible refine k_mk ?_
  | with_reducible refine k_meth ?_
  | with_reducible refine k_fld ?_
  | with_reducible refine k_sfld ?_
  | with_reducible refine k_dg ?_
  | with_reducible refine k_dp ?_
  | with_reducible refine k_pr ?_
  | with_reducible refine k_pr0 ?_
  | with_reducible refine k_sg ?_
  | with_reducible refine k_lc2 ?_
  | with_reducible refine k_callN ?_
  | with_reducible refine k_callNS ?_
  | with_reducible refine k_par ?_
  | with_reducible refine k_nPar ?_
  | with_reducible refine k_isNn ?_
  | with_reducible refine k_isNr ?_
  | with_reducible refine k_ntNn ?_
  | with_reducible refine k_ntNr ?_
  | with_reducible refine k_min2 ?_
  | with_reducible refine k_max2 ?_
  | with_reducible refine k_intB ?_
  | with_reducible refine k_intI ?_
  | with_reducible refine k_isBl ?_
  | with_reducible refine k_ntBl ?_
  | ((with_reducible refine' k_var ?kv ?_); (case kv => exact rfl))
  | ((with_reducible refine' k_aug ?kv ?_); (case kv => exact rfl))
  | ((with_reducible refine' k_ix_l ?ks ?ki ?_); (case ks => walk_at "sq"); (case ki => exact rfl))
  | ((with_reducible refine' k_ix_t ?ks ?ki ?_); (case ks => walk_at "st"); (case ki => exact rfl))
  | ((with_reducible refine' k_len_l ?ks ?_); (case ks => walk_at "sq"))
  | ((with_reducible refine' k_len_t ?ks ?_); (case ks => walk_at "st"))
  | ((with_reducible refine' k_setL ?ks ?ki ?_); (case ks => walk_at "hp"); (case ki => exact rfl))
  | ((with_reducible refine' k_nTyL ?ks ?_); (case ks => walk_at "sq"))
  | ((with_reducible refine' k_nItl ?ks ?_); (case ks => walk_at "sq"))
  | ((with_reducible refine' k_nItt ?ks ?_); (case ks => walk_at "st"))
  | ((with_reducible refine' k_nIte ?ks ?_); (case ks => walk_at "sq"))
  | ((with_reducible refine' k_mul ?km ?_); (case km => first | exact Or.inr ⟨by decide, by decide⟩ | exact Or.inl ⟨by decide, by decide⟩))
  | ((with_reducible refine' k_I ?km ?_); (case km => first | assumption | decide | exact ⟨by decide, by decide +kernel⟩ | exact ⟨by decide, by decide, by decide⟩))
  | ((with_reducible refine' k_nMeth ?kp ?kl ?_); (case kp => walk_at "hp"); (case kl => exact rfl))
  | ((with_reducible refine' k_nFld ?kp ?kc ?kn ?kl ?_); (case kp => walk_at "hp"); (case kc => assumption); (case kn => assumption); (case kl => exact rfl))
  | ((with_reducible refine' k_nSFld ?kp ?kc ?kn ?kl ?_); (case kp => walk_at "hp"); (case kc => assumption); (case kn => assumption); (case kl => exact of_decide_eq_true rfl))
  | ((with_reducible refine' k_nDg ?kp ?kl ?_); (case kp => walk_at "hp"); (case kl => exact rfl))
  | ((with_reducible refine' k_nRng1 ?k1 ?k2 ?_); (case k1 => omega); (case k2 => omega))
  | ((with_reducible refine' k_nKw ?k1 ?k2 ?_); (case k1 => exact rfl); (case k2 => exact rfl))
  | ((with_reducible refine' k_hsm ?kh ?_); (case kh => walk_at "hs"))
  | ((with_reducible refine' k_nMethH ?kh ?kl ?_); (case kh => walk_at "hs"); (case kl => exact fun _ _ => rfl))
  | ((with_reducible refine' k_mLet ?kh ?_); (case kh => walk_at "ms"))
  | ((with_reducible refine' k_mChew ?kh ?_); (case kh => walk_at "ms"))
  | ((with_reducible refine' k_mPut ?kh ?_); (case kh => walk_at "ms"))
  | ((with_reducible refine' k_mMost ?kh ?_); (case kh => walk_at "ms"))
  | ((with_reducible refine' k_mCut ?kh ?_); (case kh => walk_at "ms"))
  | ((with_reducible refine' k_mTab ?kh ?_); (case kh => walk_at "md"))
  | ((with_reducible refine' k_mEats ?kh ?_); (case kh => walk_at "md"))
  | ((with_reducible refine' k_gtup ?ks ?kl ?_); (case ks => walk_at "st"); (case kl => exact rfl)))
local macro_rules | `(tactic| walk_at "g") => `(tactic| repeat (walk_at "g1"))
local macro_rules | `(tactic| walk_at "w1") => `(tactic| first
  | walk_at "g1"
  | ((with_reducible refine' k_decT ?kp ?_); (case kp => omega))
  | ((with_reducible refine' k_decF ?kp ?_); (case kp => omega))
  | ((with_reducible refine' k_decNT ?kp ?_); (case kp => omega))
  | ((with_reducible refine' k_decNF ?kp ?_); (case kp => omega)))
local macro_rules | `(tactic| walk_at "w") => `(tactic| repeat (walk_at "w1"))


section
variable {P : Program} {w : World} {K : PySem.W.Frag} {mg : Str → Option Value} {base : Heap} {f : Addr} {fd : FuncData}
/-! ### the law's own walking -/
def WkIs (K : PySem.W.Frag) (H : Hp) (v : V) : Option (List (List Nat)) → Prop
  | none => v = .non
  | some m => ∃ p, v = .ref p ∧ H p = some (.lst (tS m))
theorem walkF_words {S : HsD} (ok : HsOk S) : ∀ (bs : List Bt) {us m : List (List Nat)}, AllW S us → walkF S us bs = some m → AllW S m ∧ m.length ≤ us.length + 8 * bs.length
  | [], us, m, hw, h => by
    cases (Option.some.inj h)
    exact ⟨hw, by omega⟩
  | b :: bs, us, m, hw, h => by
    have h' : (match behF S us (b.1 : Nat) b.2 with | none => none | some m => walkF S m bs) = some m := h
    cases e : behF S us (b.1 : Nat) b.2 with
    | none =>
      rw [e] at h'
      cases h'
    | some m2 =>
      rw [e] at h'
      obtain ⟨h2, h3⟩ := behF_words ok hw e
      obtain ⟨h4, h5⟩ := walkF_words ok bs h2 h'
      refine ⟨h4, ?_⟩
      rw [List.length_cons]
      omega
def spLWalk (K : PySem.W.Frag) : Sp := fun vs H Q _ => ∃ (m r st : Addr) (S : HsD) (us : List (List Nat)) (ws : List V) (bs : List Bt), vs = [.ref m, .ref r, .ref st] ∧ MAt K H m S ∧ HsOk S ∧ H r = some (.lst (tS us)) ∧ AllW S us ∧ SqL K H st ws ∧ DpAll K H ws (bs.map dBt) ∧ us.length + 8 * bs.length ≤ 10000 ∧
  ∀ v H', Same H H' → WkIs K H' v (walkF S us bs) → Q v H'
theorem ok_Lwalk (F : FnP K "_law_walk" s_Lwalk f fd) (hm : mg "_law_walk" = some (.ref f)) (c_Lbehind : Callee P w K mg base CX0 "_law_behind" 2 [] (spLBehind K)) : Callee P w K mg base CX0 "_law_walk" 3 [] (spLWalk K) := by
  refine ⟨f, fd, _, [], F.ok sc_Lwalk (fun vs H Q E h => ?hl) (fun cdv A outer s H vs Q E hr h => ⟨_, PSs.nox (pss_cons (ps_set (i := 3) sc_Lwalk.nd rfl (by first | exact Or.inl rfl | exact Or.inr rfl) (pv 1))
      (pss_cons (ps_for PassesOwn.never rfl (pi_listK K (pv 2)) (pg_tupK K 2 (by rfl) (pgs_cons (pg_name (i := 4) sc_Lwalk.nd rfl (by first | exact Or.inl rfl | exact Or.inr rfl)) (pgs_cons (pg_name (i := 5) sc_Lwalk.nd rfl (by first | exact Or.inl rfl | exact Or.inr rfl)) pgs_nil))) (pss_cons (ps_set (i := 3) sc_Lwalk.nd rfl (by first | exact Or.inl rfl | exact Or.inr rfl) (pe_cl c_Lbehind hr (pa_cons (pv 0) (pa_cons (pv 3) (pa_cons (pv 4) (pa_cons (pv 5) pa_nil)))) pass0))
      (pss_one (ps_if (pt_cmpR op_isN1 (pv 3) pe_non (nomark _)) (pss_one (ps_ret pe_non)) pss_nil))))
      (pss_one (ps_ret (pv 3))))), ?rd⟩), hm, F.kp, F.bindsN fun _ _ _ _ _ _ us hl => match us, hl with | [_, _, _], _ => rfl, .nil⟩
  case hl =>
    obtain ⟨m, r, st, S, us, ws, bs, rfl, _⟩ := h
    rfl
  case rd =>
    obtain ⟨m, r, st, S, us, ws, bs, rfl, hM, ok, hr, hw, hst, hbs, hl, q⟩ := h
    refine k_start (σ' := [some _, some _, some _, none, none, none]) rfl ?_
    have lws : ws.length = bs.length := by
      have := dpall_len hbs
      rwa [List.length_map] at this
    walk_at "g"
    refine k_nFor (walk_list (xs := ws)) (fun j σ H' => (∃ pc cur y4 y5, σ = [some (.ref m), some (.ref r), some (.ref st), some (.ref pc), y4, y5] ∧ H' pc = some (.lst (tS cur)) ∧ AllW S cur ∧ cur.length ≤ us.length + 8 * j ∧ walkF S us bs = walkF S cur (bs.drop j)) ∧ Same H H') ⟨⟨r, us, _, _, rfl, hr, hw, by omega, rfl⟩, Same.refl _⟩ (fun j σ H' _ h => sm_l h.2 hst) (fun j x σ Ha Hb hj h hy => ?ht) (fun σ H' h => ?he)
    case he =>
      obtain ⟨⟨pc, cur, y4, y5, rfl, hpc, hcw, lc, hwk⟩, sa⟩ := h
      walk_at "g"
      refine q _ _ sa ?_
      rw [hwk, lws, List.drop_length]
      exact ⟨pc, rfl, hpc⟩
    case ht =>
      obtain ⟨⟨pc, cur, y4, y5, rfl, hpc, hcw, lc, hwk⟩, sa⟩ := h
      obtain ⟨rfl, hv⟩ := hy
      obtain ⟨d, hd1, hd2⟩ := dpall_get (dpall_sm sa hbs) hv
      obtain ⟨x, hx1, rfl⟩ := map_get hd1
      obtain ⟨t, rfl, ht1⟩ := dp_btI hd2
      have hlx : j < bs.length := (List.getElem?_eq_some_iff.mp hx1).1
      have dr : bs.drop j = x :: bs.drop (j + 1) := by
        rw [List.drop_eq_getElem_cons hlx]
        congr 1
        exact Option.some.inj ((List.getElem?_eq_getElem hlx).symm.trans hx1)
      rw [dr] at hwk
      walk_at "g"
      refine ⟨m, pc, S, cur, (x.1 : Nat), sdS x.2, rfl, hM.sm sa, ok, sq_l hpc, hcw, by omega, fun v2 H2 s2 hv2 => ?_⟩
      rw [behS_sd] at hv2
      have hwk' : walkF S us bs = (match behF S cur (x.1 : Nat) x.2 with | none => none | some m => walkF S m (bs.drop (j + 1))) := hwk
      cases eb : behF S cur (x.1 : Nat) x.2 with
      | none =>
        rw [eb] at hv2 hwk'
        cases (show v2 = .non from hv2)
        walk_at "g"
        refine q _ _ (sa.trans s2) ?_
        rw [hwk']
        rfl
      | some m2 =>
        rw [eb] at hv2 hwk'
        obtain ⟨p2, rfl, np2, ep2⟩ := hv2
        obtain ⟨h2, h3⟩ := behF_words ok hcw eb
        walk_at "g"
        exact ⟨⟨p2, m2, _, _, rfl, ep2, h2, by omega, hwk'⟩, sa.trans s2⟩
end
end Lw
set_option autoImplicit true
set_option pp.maxSteps 1200
set_option Elab.async false
set_option linter.all false
set_option maxRecDepth 100000
set_option maxHeartbeats 1000000
namespace Lw
open PySem PySem.Spec PyProof.Rows L2 Gk

local macro_rules | `(tactic| walk_at "hp") => `(tactic| first | assumption | exact upd_same | (refine' (upd_ne ?n).trans ?h; (case n => assumption); (case h => walk_at "hp")) | (refine' sm_get ?s ?h; (case s => assumption); (case h => walk_at "hp")))
local macro_rules | `(tactic| walk_at "sq") => `(tactic| first | assumption | (refine' sq_l ?h; (case h => walk_at "hp")) | (refine' sm_l ?s ?h; (case s => assumption); (case h => walk_at "sq")))
local macro_rules | `(tactic| walk_at "st") => `(tactic| first | assumption | (refine' sq_t ?h; (case h => walk_at "hp")) | (refine' sm_t ?s ?h; (case s => assumption); (case h => walk_at "st")))
local macro_rules | `(tactic| walk_at "bg") => `(tactic| first | assumption | (refine' BagOk.sm ?s ?h; (case s => assumption); (case h => walk_at "bg")))
local macro_rules | `(tactic| walk_at "sm") => `(tactic| first | assumption | exact Same.refl _ | (refine' Same.trans ?h ?s; (case s => assumption); (case h => walk_at "sm")))
local macro_rules | `(tactic| walk_at "hs") => `(tactic| first | assumption | (refine' HsAt.sm ?s ?h; (case s => assumption); (case h => walk_at "hs")))
local macro_rules | `(tactic| walk_at "ms") => `(tactic| first | assumption | (refine' MAt.sm ?s ?h; (case s => assumption); (case h => walk_at "ms")))
local macro_rules | `(tactic| walk_at "md") => `(tactic| first | assumption | (refine' MDk.sm ?s ?h; (case s => assumption); (case h => walk_at "md")))
local macro_rules | `(tactic| walk_at "dp") => `(tactic| first | assumption | (refine' dp_sm ?s ?h; (case s => assumption); (case h => walk_at "dp")))
local macro_rules | `(tactic| walk_at "sz") => `(tactic| first | decide | assumption | omega | (simp only [List.length_cons, List.length_nil, List.length_map, List.length_append]; omega))
local macro_rules | `(tactic| walk_at "g1") => `(tactic| first
  | with_reducible refine k_seq ?_
  | with_reducible refine k_itB ?_
  | with_reducible refine k_next ?_
  | with_reducible refine k_asg ?_
  | with_reducible refine k_name ?_
  | with_reducible refine k_ret ?_
  | with_reducible refine k_retN ?_
  | with_reducible refine k_drop ?_
  | with_reducible refine k_ifs ?_
  | with_reducible refine k_brk ?_
  | with_reducible refine k_cont ?_
  | with_reducible refine k_ipI ?_
  | with_reducible refine k_test ?_
  | with_reducible refine k_tB ?_
  | with_reducible refine k_bl ?_
  | with_reducible refine k_not ?_
  | with_reducible refine k_and ?_
  | with_reducible refine k_or ?_
  | with_reducible refine k_yes ?_
  | with_reducible refine k_true ?_
  | with_reducible refine k_false ?_
  | with_reducible refine k_nt ?_
  | with_reducible refine k_c ?_
  | with_reducible refine k_op ?_
  | with_reducible refine k_un ?_
  | with_reducible refine k_if ?_
  | with_reducible refine k_chain ?_
  | with_reducible refine k_nil ?_
  | with_reducible refine k_cons ?_
  | with_reducible refine k_cb ?_
  | with_reducible refine k_call ?_
  | with_reducible refine k_callS ?_
  | with_reducible refine k_andV ?_
  | with_reducible refine k_orV ?_
  | with_reducible refine k_notV ?_
  | with_reducible refine k_lst ?_
  | with_reducible refine k_tup ?_
  | with_reducible refine k_nopart ?_
  | with_reducible refine k_part ?_
  | with_reducible refine k_nInt ?_
  | with_reducible refine k_sl ?_
  | with_reducible refine k_bm ?_
  | with_reducible refine k_bm0 ?_
  | with_reducible refine k_nTyS ?_
  | with_reducible refine k_m1 ?_
  | with_reducible refine k_m0 ?_
  | with_reducible refine k_nStr ?_
  | with_reducible refine k_I0 ?_
  | with_reducible refine k_U ?_
  | with_reducible refine k_add_i ?_
  | with_reducible refine k_eq_i ?_
  | with_reducible refine k_eq_s ?_
  | with_reducible refine k_eq_b ?_
  | with_reducible refine k_ne_i ?_
  | with_reducible refine k_ne_s ?_
  | with_reducible refine k_ne_b ?_
  | with_reducible refine k_le_i ?_
  | with_reducible refine k_le_s ?_
  | with_reducible refine k_gnil ?_
  | with_reducible refine k_gcons ?_
  | with_reducible refine k_gsub ?_
  | with_reducible refine k_for ?_
  | with_reducible refine k_lc ?_
  | with_reducible refine k_rng1 ?_
  | with_reducible refine k_rng2 ?_
  | with_reducible refine k_itl ?_
  | with_reducible refine k_itt ?_
  | with_reducible refine k_its ?_
  | with_reducible refine k_ite ?_
  | with_reducible refine k_iteB ?_
  | with_reducible refine k_lrg2 ?_
  | with_reducible refine k_itz ?_
  | with_reducible refine k_nIts ?_
  | with_reducible refine k_inS ?_
  | with_reducible refine k_niS ?_
  | with_reducible refine k_mk ?_
  | with_reducible refine k_meth ?_
  | with_reducible refine k_fld ?_
  | with_reducible refine k_sfld ?_
  | with_reducible refine k_dg ?_
  | with_reducible refine k_dp ?_
  | with_reducible refine k_pr ?_
  | with_reducible refine k_pr0 ?_
  | with_reducible refine k_sg ?_
  | with_reducible refine k_lc2 ?_
  | with_reducible refine k_callN ?_
  | with_reducible refine k_callNS ?_
  | with_reducible refine k_par ?_
  | with_reducible refine k_nPar ?_
  | with_reducible refine k_isNn ?_
  | with_reducible refine k_isNr ?_
  | with_reducible refine k_ntNn ?_
  | with_reducible refine k_ntNr ?_
  | with_reducible refine k_min2 ?_
  | with_reducible refine k_max2 ?_
  | with_reducible refine k_intB ?_
  | with_reducible refine k_intI ?_
  | with_reducible refine k_isBl ?_
  | with_reducible refine k_ntBl ?_
  | ((with_reducible refine' k_var ?kv ?_); (case kv => exact rfl))
  | ((with_reducible refine' k_aug ?kv ?_); (case kv => exact rfl))
  | ((with_reducible refine' k_ix_l ?ks ?ki ?_); (case ks => walk_at "sq"); (case ki => exact rfl))
  | ((with_reducible refine' k_ix_t ?ks ?ki ?_); (case ks => walk_at "st"); (case ki => exact rfl))
  | ((with_reducible refine' k_len_l ?ks ?_); (case ks => walk_at "sq"))
  | ((with_reducible refine' k_len_t ?ks ?_); (case ks => walk_at "st"))
  | ((with_reducible refine' k_setL ?ks ?ki ?_); (case ks => walk_at "hp"); (case ki => exact rfl))
  | ((with_reducible refine' k_nTyL ?ks ?_); (case ks => walk_at "sq"))
  | ((with_reducible refine' k_nItl ?ks ?_); (case ks => walk_at "sq"))
  | ((with_reducible refine' k_nItt ?ks ?_); (case ks => walk_at "st"))
  | ((with_reducible refine' k_nIte ?ks ?_); (case ks => walk_at "sq"))
  | ((with_reducible refine' k_mul ?km ?_); (case km => first | exact Or.inr ⟨by decide, by decide⟩ | exact Or.inl ⟨by decide, by decide⟩))
  | ((with_reducible refine' k_I ?km ?_); (case km => first | assumption | decide | exact ⟨by decide, by decide +kernel⟩ | exact ⟨by decide, by decide, by decide⟩))
  | ((with_reducible refine' k_nMeth ?kp ?kl ?_); (case kp => walk_at "hp"); (case kl => exact rfl))
  | ((with_reducible refine' k_nFld ?kp ?kc ?kn ?kl ?_); (case kp => walk_at "hp"); (case kc => assumption); (case kn => assumption); (case kl => exact rfl))
  | ((with_reducible refine' k_nSFld ?kp ?kc ?kn ?kl ?_); (case kp => walk_at "hp"); (case kc => assumption); (case kn => assumption); (case kl => exact of_decide_eq_true rfl))
  | ((with_reducible refine' k_nDg ?kp ?kl ?_); (case kp => walk_at "hp"); (case kl => exact rfl))
  | ((with_reducible refine' k_nRng1 ?k1 ?k2 ?_); (case k1 => omega); (case k2 => omega))
  | ((with_reducible refine' k_nKw ?k1 ?k2 ?_); (case k1 => exact rfl); (case k2 => exact rfl))
  | ((with_reducible refine' k_hsm ?kh ?_); (case kh => walk_at "hs"))
  | ((with_reducible refine' k_nMethH ?kh ?kl ?_); (case kh => walk_at "hs"); (case kl => exact fun _ _ => rfl))
  | ((with_reducible refine' k_mLet ?kh ?_); (case kh => walk_at "ms"))
  | ((with_reducible refine' k_mChew ?kh ?_); (case kh => walk_at "ms"))
  | ((with_reducible refine' k_mPut ?kh ?_); (case kh => walk_at "ms"))
  | ((with_reducible refine' k_mMost ?kh ?_); (case kh => walk_at "ms"))
  | ((with_reducible refine' k_mCut ?kh ?_); (case kh => walk_at "ms"))
  | ((with_reducible refine' k_mTab ?kh ?_); (case kh => walk_at "md"))
  | ((with_reducible refine' k_mEats ?kh ?_); (case kh => walk_at "md"))
  | ((with_reducible refine' k_gtup ?ks ?kl ?_); (case ks => walk_at "st"); (case kl => exact rfl)))
local macro_rules | `(tactic| walk_at "g") => `(tactic| repeat (walk_at "g1"))
local macro_rules | `(tactic| walk_at "w1") => `(tactic| first
  | walk_at "g1"
  | ((with_reducible refine' k_decT ?kp ?_); (case kp => omega))
  | ((with_reducible refine' k_decF ?kp ?_); (case kp => omega))
  | ((with_reducible refine' k_decNT ?kp ?_); (case kp => omega))
  | ((with_reducible refine' k_decNF ?kp ?_); (case kp => omega)))
local macro_rules | `(tactic| walk_at "w") => `(tactic| repeat (walk_at "w1"))

local macro_rules | `(tactic| walk_at "g1") => `(tactic| first
  | with_reducible refine k_mkP ?_
  | with_reducible refine k_din ?_
  | with_reducible refine k_dni ?_
  | with_reducible refine k_sortF ?_
  | with_reducible refine k_sortL ?_
  | with_reducible refine k_itk ?_
  | with_reducible refine k_revL ?_)


section
variable {P : Program} {w : World} {K : PySem.W.Frag} {mg : Str → Option Value} {base : Heap} {f : Addr} {fd : FuncData}
/-! ### a round held -/
def roundF (S : HsD) (us : Rw) (bs1 bs2 : List Bt) (a c : Rw) : Option Rw := match walkF S us bs1 with
  | none => none
  | some R => if bs2 = [] then none else match walkF S R bs2 with
    | none => none
    | some m => if m = a ++ R ++ c then some R else none
theorem behF_place {S : HsD} {us m : Rw} {i : Nat} {b : Bool} (h : behF S us (i : Nat) b = some m) : i < us.length := by
  obtain ⟨low, x, y, h1, h2, h3, h4, rfl, _⟩ := behF_of h
  have hl := (List.getElem?_eq_some_iff.mp h2).1
  cases b <;> simp_all <;> omega
theorem walkF_small {S : HsD} (ok : HsOk S) : ∀ (bs : List Bt) {us m : Rw} {N : Nat}, AllW S us → walkF S us bs = some m → us.length + 8 * bs.length ≤ N → ∀ b ∈ bs, b.1 < N
  | [], _, _, _, _, _, _, b, hb => nomatch hb
  | x :: bs, us, m, N, hw, h, hl, b, hb => by
    have h' : (match behF S us (x.1 : Nat) x.2 with | none => none | some m => walkF S m bs) = some m := h
    cases e : behF S us (x.1 : Nat) x.2 with
    | none => rw [e] at h'; cases h'
    | some m2 =>
      rw [e] at h'
      obtain ⟨h2, h3⟩ := behF_words ok hw e
      rw [List.length_cons] at hl
      have := behF_place e
      rcases List.mem_cons.mp hb with rfl | hb
      · omega
      · exact walkF_small ok bs h2 h' (by omega) b hb
theorem good_dbts {bs : List Bt} (h : ∀ b ∈ bs, b.1 ≤ 100000) (hl : bs.length ≤ 50000) (j : Nat) : Good (j + 3) (.list (bs.map dBt)) := ⟨by rw [List.length_map]; exact hl, fun e he => by
  obtain ⟨x, hx, rfl⟩ := List.mem_map.mp he
  exact good_bt x (h x hx) j⟩
theorem dbts_nil {bs : List Bt} : decide (bs.map dBt = []) = decide (bs = []) := by cases bs <;> rfl
/-- four lists as a fate tells them -/
structure Told4 (K : PySem.W.Frag) (H : Hp) (S : HsD) (p1 p2 p3 p4 : Addr) (bs1 bs2 : List Bt) (a c : Rw) : Prop where
  h1 : ∃ ws, H p1 = some (.lst ws) ∧ DpAll K H ws (bs1.map dBt)
  h2 : ∃ ws, H p2 = some (.lst ws) ∧ DpAll K H ws (bs2.map dBt)
  h3 : H p3 = some (.lst (tS a))
  h4 : H p4 = some (.lst (tS c))
  wa : AllW S a
  wc : AllW S c
  l1 : bs1.length ≤ 400
  l2 : bs2.length ≤ 800
  la : a.length ≤ 9000
  lc : c.length ≤ 9000
  pl : ∀ b ∈ bs2, b.1 ≤ 100000
theorem Told4.sm {H H' : Hp} {S : HsD} {p1 p2 p3 p4 : Addr} {bs1 bs2 : List Bt} {a c : Rw} (s : Same H H') (h : Told4 K H S p1 p2 p3 p4 bs1 bs2 a c) : Told4 K H' S p1 p2 p3 p4 bs1 bs2 a c := by
  obtain ⟨ws1, x1, x2⟩ := h.h1
  obtain ⟨ws2, y1, y2⟩ := h.h2
  exact ⟨⟨ws1, s _ _ x1, dpall_sm s x2⟩, ⟨ws2, s _ _ y1, dpall_sm s y2⟩, s _ _ h.h3, s _ _ h.h4, h.wa, h.wc, h.l1, h.l2, h.la, h.lc, h.pl⟩
theorem AllW.mid {S : HsD} {a R c : Rw} (h : AllW S (a ++ R ++ c)) : AllW S a ∧ AllW S c := ⟨fun u hu => h u (List.mem_append_left _ (List.mem_append_left _ hu)), fun u hu => h u (List.mem_append_right _ hu)⟩
theorem RndAt.told {H H' : Hp} {v : V} {S : HsD} {us : Rw} (ok : HsOk S) (hw : AllW S us) (lu : us.length ≤ 100) {N : Nat} (hN : N ≤ 400) (h : RndAt K H H' v S us N) : ∃ (T p1 p2 p3 p4 : Addr) (bs1 bs2 : List Bt) (a c R : Rw), v = .ref T ∧ SqT K H' T [.str (Str.ofString "round"), .ref p1, .ref p2, .ref p3, .ref p4] ∧ Told4 K H' S p1 p2 p3 p4 bs1 bs2 a c ∧ (H p1 = none ∧ H p2 = none ∧ H p3 = none ∧ H p4 = none) ∧ (p2 ≠ p1 ∧ p3 ≠ p1 ∧ p4 ≠ p1 ∧ p3 ≠ p2 ∧ p4 ≠ p2 ∧ p4 ≠ p3) ∧ walkF S us bs1 = some R ∧ walkF S R bs2 = some (a ++ R ++ c) ∧ bs2 ≠ [] ∧ bs1.length ≤ N ∧ bs2.length ≤ N := by
  obtain ⟨T, p1, p2, p3, p4, ws1, ws2, bs1, bs2, R, a, c, e, h1, ⟨x1, x2⟩, ⟨y1, y2⟩, h4, h5, hz, hd, w1, w2, ne, l1, l2⟩ := h
  obtain ⟨wR, lR⟩ := walkF_words ok bs1 hw w1
  obtain ⟨wm, lm⟩ := walkF_words ok bs2 wR w2
  rw [List.length_append, List.length_append] at lm
  obtain ⟨wa, wc⟩ := wm.mid
  exact ⟨T, p1, p2, p3, p4, bs1, bs2, a, c, R, e, h1, ⟨⟨ws1, x1, x2⟩, ⟨ws2, y1, y2⟩, h4, h5, wa, wc, by omega, by omega, by omega, by omega, fun b hb => by
    have := walkF_small ok bs2 (N := 20000) wR w2 (by omega) b hb
    omega⟩, hz, hd, w1, w2, ne, l1, l2⟩
def spRoundOf (K : PySem.W.Frag) : Sp := fun vs H Q _ => ∃ (m r T p1 p2 p3 p4 : Addr) (w0 : V) (S : HsD) (us : Rw) (bs1 bs2 : List Bt) (a c : Rw), vs = [.ref m, .ref r, .ref T] ∧ MAt K H m S ∧ HsOk S ∧ H r = some (.lst (tS us)) ∧ AllW S us ∧ us.length ≤ 100 ∧ SqT K H T [w0, .ref p1, .ref p2, .ref p3, .ref p4] ∧ Told4 K H S p1 p2 p3 p4 bs1 bs2 a c ∧
  ∀ v H', Same H H' → WkIs K H' v (roundF S us bs1 bs2 a c) → Q v H'
theorem ok_Lround_of (F : FnP K "_law_round_of" s_Lround_of f fd) (hm : mg "_law_round_of" = some (.ref f)) (c_Lwalk : Callee P w K mg base CX0 "_law_walk" 3 [] (spLWalk K)) : Callee P w K mg base CX0 "_law_round_of" 4 [] (spRoundOf K) := by
  refine ⟨f, fd, _, [], F.ok sc_Lround_of (fun vs H Q E h => ?hl) (fun cdv A outer s H vs Q E hr h => ⟨_, PSs.nox (pss_cons (ps_set (i := 3) sc_Lround_of.nd rfl (by first | exact Or.inl rfl | exact Or.inr rfl) (pe_cl c_Lwalk hr (pa_cons (pv 0) (pa_cons (pv 1) (pa_cons (pe_ix (ix_k K) (pv 2) pe_int (fun _ _ => rfl)) pa_nil))) pass0))
      (pss_cons (ps_set (i := 4) sc_Lround_of.nd rfl (by first | exact Or.inl rfl | exact Or.inr rfl) (pe_ifExp (PW.pt (pw_or (pt_cmpR op_isN1 (pv 3) pe_non (nomark _)) (pw_or1 (pt_cmpR (op_eqK K hr.units) (pe_ix (ix_k K) (pv 2) pe_int (fun _ _ => rfl)) (pe_lst pa_nil) (nomark _))))) pe_non (pe_cl c_Lwalk hr (pa_cons (pv 0) (pa_cons (pv 3) (pa_cons (pe_ix (ix_k K) (pv 2) pe_int (fun _ _ => rfl)) pa_nil))) pass0)))
      (pss_one (ps_ret (pe_ifExp (PW.pt (pw_and (pt_cmpR op_notN1 (pv 4) pe_non (nomark _)) (pw_and1 (pt_cmpR (op_eqK K hr.units) (pv 4) (pe_op (op_addK K) (pe_op (op_addK K) (pe_ix (ix_k K) (pv 2) pe_int (fun _ _ => rfl)) (pv 3)) (pe_ix (ix_k K) (pv 2) pe_int (fun _ _ => rfl))) (nomark _))))) (pv 3) pe_non))))), ?rd⟩), hm, F.kp, F.bindsN fun _ _ _ _ _ _ us hl => match us, hl with | [_, _, _], _ => rfl, .nil⟩
  case hl =>
    obtain ⟨m, r, T, p1, p2, p3, p4, w0, S, us, bs1, bs2, a, c, rfl, _⟩ := h
    rfl
  case rd =>
    obtain ⟨m, r, T, p1, p2, p3, p4, w0, S, us, bs1, bs2, a, c, rfl, hM, ok, hr, hw, lu, hT, hF, q⟩ := h
    refine k_start (σ' := [some _, some _, some _, none, none]) rfl ?_
    have l1 := hF.l1
    have l2 := hF.l2
    have la := hF.la
    have lc := hF.lc
    obtain ⟨ws1, e1, d1⟩ := hF.h1
    walk_at "g"
    refine ⟨m, r, p1, S, us, ws1, bs1, rfl, hM, ok, hr, hw, sq_l e1, d1, by omega, fun v H1 s1 hv => ?_⟩
    have hF1 := hF.sm s1
    unfold roundF at q
    cases ew : walkF S us bs1 with
    | none =>
      rw [ew] at hv q
      cases (show v = .non from hv)
      walk_at "g"
      exact q _ _ s1 rfl
    | some R =>
      rw [ew] at hv q
      obtain ⟨pr, rfl, er⟩ := hv
      obtain ⟨wR, lR⟩ := walkF_words ok bs1 hw ew
      obtain ⟨ws2, e2, d2⟩ := hF1.h2
      walk_at "g"
      refine k_nLst (by walk_at "sz") (fun p5 H2 n2 s2 e5 => ?_)
      refine k_eq_d (.lst (sq_l (s2 _ _ e2)) (dpall_sm s2 d2)) (.lst (sq_l e5) .nil) ((good_dbts hF.pl (by omega) 1).shaped (by decide)) (by decide) ?_
      rw [eqv_nil, dbts_nil]
      have s12 := s1.trans s2
      walk_at "g"
      refine k_dec (fun d => ?_) (fun d => ?_)
      · simp only [d, if_true] at q
        walk_at "g"
        exact q _ _ s12 rfl
      · simp only [d, if_false] at q
        walk_at "g"
        refine ⟨m, pr, p2, S, R, ws2, bs2, rfl, hM.sm s12, ok, s2 _ _ er, wR, sq_l (s2 _ _ e2), dpall_sm s2 d2, by omega, fun v H3 s3 hv => ?_⟩
        have s13 := s12.trans s3
        have er3 := s3 _ _ (s2 _ _ er)
        have hF3 := hF.sm s13
        cases ew2 : walkF S R bs2 with
        | none =>
          rw [ew2] at hv q
          cases (show v = .non from hv)
          walk_at "g"
          exact q _ _ s13 rfl
        | some m2 =>
          rw [ew2] at hv q
          obtain ⟨pm, rfl, em⟩ := hv
          obtain ⟨wm, lm⟩ := walkF_words ok bs2 wR ew2
          have hT3 := sm_t s13 hT
          walk_at "g"
          refine k_add_l hF3.h3 er3 (by unfold tS; rw [List.length_map, List.length_map]; omega) (fun p6 H4 n4 s4 e6 => ?_)
          have hT4 := sm_t s4 hT3
          walk_at "g"
          refine k_add_l e6 (s4 _ _ hF3.h4) (by unfold tS; rw [List.length_append, List.length_map, List.length_map, List.length_map]; omega) (fun p7 H5 n5 s5 e7 => ?_)
          have e7' : H5 p7 = some (.lst (tS (a ++ R ++ c))) := by
            rw [e7]
            unfold tS
            rw [List.map_append, List.map_append]
          have wA : AllW S (a ++ R ++ c) := fun u hu => by
            rcases List.mem_append.mp hu with hu | hu
            · rcases List.mem_append.mp hu with hu | hu
              · exact hF.wa u hu
              · exact wR u hu
            · exact hF.wc u hu
          refine k_eq_d (.lst (sq_l (s5 _ _ (s4 _ _ em))) (dp_tS _)) (.lst (sq_l e7') (dp_tS _)) ((good_allW ok wm (by omega) 1).shaped (by decide)) ((good_allW ok wA (by rw [List.length_append, List.length_append]; omega) 1).shaped (by decide)) ?_
          rw [eqv_rows]
          have s15 := s13.trans (s4.trans s5)
          have er5 := s5 _ _ (s4 _ _ er3)
          walk_at "g"
          refine k_dec (fun d => ?_) (fun d => ?_)
          · simp only [d, if_true] at q
            walk_at "g"
            exact q _ _ s15 ⟨pr, rfl, er5⟩
          · simp only [d, if_false] at q
            walk_at "g"
            exact q _ _ s15 rfl
/-! ### a house whose rows go on -/
theorem kEat_of (sd : Bool) : (kEat sd 0 0).map kV = [V.str (sdS sd), .int 0, .int 0] := by cases sd <;> rfl
theorem HsOk.more {S : HsD} (ok : HsOk S) {ex : List (List Key)} (h : ∀ k ∈ ex, ∃ s, k = kEat s 0 0) (hl : S.tr.length + ex.length ≤ 12) : HsOk { S with tr := S.tr ++ ex } := by
  have t1 := ok.t1
  exact ⟨ok.rise, ok.l1, ok.l3, ok.t1, ok.t4, ok.tw, by show (S.tr ++ ex).length ≤ 12; rw [List.length_append]; exact hl, fun k hk => by
    rcases List.mem_append.mp hk with hk | hk
    · exact ok.ev k hk
    · obtain ⟨s, rfl⟩ := h k hk
      exact ⟨s, 0, 0, rfl, by decide, by show (0 : Int) < S.tb.length; omega, by decide, by show (0 : Int) < S.tb.length; omega⟩, ok.c0, ok.c2, ok.p2, ok.pl, ok.m1, ok.m3, ok.mw, ok.k1, ok.km⟩
def spGoHouse (K : PySem.W.Frag) : Sp := fun vs H Q _ => ∃ (b : Addr), vs = [.ref b] ∧ BagOk H b ∧ ∀ (S : HsD) (m : Addr) H', HsOk S → Same H H' → MAt K H' m S → Q (.ref m) H'
theorem ok_Lgoing_house (F : FnP K "_law_going_house" s_Lgoing_house f fd) (hm : mg "_law_going_house" = some (.ref f)) (c_Lpull : Callee P w K mg base CX0 "_law_pull" 1 [] spPull) (c_Lone : Callee P w K mg base CX0 "_law_one" 2 [] (spOne K)) (c_Lhouse : Callee P w K mg base CX0 "_law_house" 4 [] (spLHouse K)) : Callee P w K mg base CX0 "_law_going_house" 5 [] (spGoHouse K) := by
  refine ⟨f, fd, _, [], F.ok sc_Lgoing_house (fun vs H Q E h => ?hl) (fun cdv A outer s H vs Q E hr h => ⟨_, PSs.nox (pss_cons (ps_set (i := 1) sc_Lgoing_house.nd rfl (by first | exact Or.inl rfl | exact Or.inr rfl) (pe_cl c_Lhouse hr (pa_cons (pv 0) (pa_cons (pe_cl c_Lone hr (pa_cons (pv 0) (pa_cons (pe_lst (pa_cons pe_str (pa_cons pe_str (pa_cons pe_str (pa_cons pe_str pa_nil))))) pa_nil)) pass0) (pa_cons (pe_cl c_Lone hr (pa_cons (pv 0) (pa_cons (pe_lst (pa_cons pe_int (pa_cons pe_int (pa_cons pe_int pa_nil)))) pa_nil)) pass0) pa_nil))) pass0))
      (pss_cons (ps_if (pt_cmpR (op_eqK K hr.units) (pe_cl c_Lpull hr (pa_cons (pv 0) (pa_cons pe_int pa_nil)) pass0) pe_int (nomark _)) (pss_one (ps_expr (pe_bmK K PySem.F.plainAttrs_list PySem.F.slot_list_append PySem.F.type_list_append mt_append (pe_dget (hu_of hr) (pv 1) pe_str (fun _ _ => rfl)) (pa_cons (pe_tup (pa_cons (pe_cl c_Lone hr (pa_cons (pv 0) (pa_cons (pe_lst (pa_cons pe_str (pa_cons pe_str pa_nil))) pa_nil)) pass0) (pa_cons pe_int (pa_cons pe_int pa_nil)))) pa_nil)))) pss_nil)
      (pss_one (ps_ret (pv 1))))), ?rd⟩), hm, F.kp, F.bindsN fun _ _ _ _ _ _ us hl => match us, hl with | [_], _ => rfl, .nil⟩
  case hl =>
    obtain ⟨b, rfl, _⟩ := h
    rfl
  case rd =>
    obtain ⟨b, rfl, hb, q⟩ := h
    refine k_start (σ' := [some _, none]) rfl ?_
    walk_at "g"
    refine k_nLst (by walk_at "sz") (fun p3 H3 n3 s3 e3 => ?_)
    walk_at "g"
    refine ⟨b, .ref p3, rfl, hb.sm s3, .inl ⟨p3, _, rfl, sq_l e3, by show 0 < 4; decide, by show 4 ≤ 100000; decide, fun v hv => ?_⟩⟩
    obtain ⟨z0, rfl⟩ : ∃ z : Str, v = .str z := by
      rcases List.mem_cons.mp hv with rfl | hv
      · exact ⟨_, rfl⟩
      rcases List.mem_cons.mp hv with rfl | hv
      · exact ⟨_, rfl⟩
      rcases List.mem_cons.mp hv with rfl | hv
      · exact ⟨_, rfl⟩
      rcases List.mem_cons.mp hv with rfl | hv
      · exact ⟨_, rfl⟩
      cases hv
    clear hv
    walk_at "g"
    refine k_nLst (by walk_at "sz") (fun p4 H4 n4 s4 e4 => ?_)
    walk_at "g"
    have s34 := s3.trans s4
    refine ⟨b, .ref p4, rfl, hb.sm s34, .inl ⟨p4, _, rfl, sq_l e4, by show 0 < 3; decide, by show 3 ≤ 100000; decide, fun v hv => ?_⟩⟩
    obtain ⟨mw, rfl, hmw⟩ : ∃ mw : Int, v = .int mw ∧ mw ≤ 14 := by
      rcases List.mem_cons.mp hv with rfl | hv
      · exact ⟨3, rfl, by decide⟩
      rcases List.mem_cons.mp hv with rfl | hv
      · exact ⟨6, rfl, by decide⟩
      rcases List.mem_cons.mp hv with rfl | hv
      · exact ⟨14, rfl, by decide⟩
      cases hv
    clear hv
    walk_at "g"
    refine ⟨b, z0, mw, rfl, hb.sm s34, hmw, fun S m H2 ok hd s2 hM => ?_⟩
    have hb2 := (hb.sm s34).sm s2
    have s02 := s34.trans s2
    obtain ⟨tb, ev, R, L, m1, h2, h3, h4, h5, h6, h7, v0, nte, l7⟩ := hd.n1
    have lL : L.length = S.tr.length := by rw [← h7, List.length_map]
    walk_at "g"
    refine k_pull hb2 (by omega) (by omega) (fun n n0 n1 => ?_)
    walk_at "g"
    refine k_dec (fun d => ?_) (fun d => ?_)
    · walk_at "g"
      refine k_nLst (by walk_at "sz") (fun p5 H5 n5 s5 e5 => ?_)
      walk_at "g"
      refine ⟨b, .ref p5, rfl, hb2.sm s5, .inl ⟨p5, _, rfl, sq_l e5, by show 0 < 2; decide, by show 2 ≤ 100000; decide, fun v hv => ?_⟩⟩
      obtain ⟨sd, rfl⟩ : ∃ sd : Bool, v = .str (sdS sd) := by
        rcases List.mem_cons.mp hv with rfl | hv
        · exact ⟨false, rfl⟩
        rcases List.mem_cons.mp hv with rfl | hv
        · exact ⟨true, rfl⟩
        cases hv
      walk_at "g"
      refine k_nTup (by walk_at "sz") (fun T6 H6 n6 s6 e6 => ?_)
      have s56 := s5.trans s6
      have ev6 := s56 _ _ h5
      have em6 := s56 _ _ m1
      have et6 := s56 _ _ h2
      walk_at "g"
      refine k_append ev6 (by rw [List.length_map]; omega) ?_
      walk_at "g"
      have hk : ∀ k ∈ [kEat sd 0 0], ∃ s, k = kEat s 0 0 := fun k hk => ⟨sd, List.mem_singleton.mp hk⟩
      refine q { S with tr := S.tr ++ [kEat sd 0 0] } m _ (ok.more hk (by show S.tr.length + 1 ≤ 12; omega)) (sm_mut (s02.trans s56) (s34.free v0)) ⟨tb, ev, R, L ++ [(T6, kEat sd 0 0)], ?_, sq_l ?_, fun x hx => t_lst ev6 (sm_t s56 (h3 x hx)), h4, sq_l ?_, fun x hx => ?_, ?_⟩
      · exact ⟨_, (upd_ne (ne_of em6 ev6 (fun z => nomatch z))).trans em6, by show 7 ≤ 7; decide, ⟨rfl, rfl, rfl⟩, rfl, rfl, rfl, rfl⟩
      · rw [upd_ne nte]
        exact et6
      · rw [upd_same, List.map_append]
        rfl
      · rcases List.mem_append.mp hx with hx | hx
        · exact t_lst ev6 (sm_t s56 (h6 x hx))
        · rw [List.mem_singleton.mp hx]
          refine t_lst ev6 (sq_t ?_)
          rw [kEat_of]
          exact e6
      · rw [List.map_append, h7]
        rfl
    · walk_at "g"
      exact q S m H2 ok s02 hM
end
end Lw
set_option autoImplicit true
set_option pp.maxSteps 1200
set_option Elab.async false
set_option linter.all false
set_option maxRecDepth 100000
set_option maxHeartbeats 1000000
namespace Lw
open PySem PySem.Spec PyProof.Rows L2 Gk

local macro_rules | `(tactic| walk_at "hp") => `(tactic| first | assumption | exact upd_same | (refine' (upd_ne ?n).trans ?h; (case n => assumption); (case h => walk_at "hp")) | (refine' sm_get ?s ?h; (case s => assumption); (case h => walk_at "hp")))
local macro_rules | `(tactic| walk_at "sq") => `(tactic| first | assumption | (refine' sq_l ?h; (case h => walk_at "hp")) | (refine' sm_l ?s ?h; (case s => assumption); (case h => walk_at "sq")))
local macro_rules | `(tactic| walk_at "st") => `(tactic| first | assumption | (refine' sq_t ?h; (case h => walk_at "hp")) | (refine' sm_t ?s ?h; (case s => assumption); (case h => walk_at "st")))
local macro_rules | `(tactic| walk_at "bg") => `(tactic| first | assumption | (refine' BagOk.sm ?s ?h; (case s => assumption); (case h => walk_at "bg")))
local macro_rules | `(tactic| walk_at "sm") => `(tactic| first | assumption | exact Same.refl _ | (refine' Same.trans ?h ?s; (case s => assumption); (case h => walk_at "sm")))
local macro_rules | `(tactic| walk_at "hs") => `(tactic| first | assumption | (refine' HsAt.sm ?s ?h; (case s => assumption); (case h => walk_at "hs")))
local macro_rules | `(tactic| walk_at "ms") => `(tactic| first | assumption | (refine' MAt.sm ?s ?h; (case s => assumption); (case h => walk_at "ms")))
local macro_rules | `(tactic| walk_at "md") => `(tactic| first | assumption | (refine' MDk.sm ?s ?h; (case s => assumption); (case h => walk_at "md")))
local macro_rules | `(tactic| walk_at "dp") => `(tactic| first | assumption | (refine' dp_sm ?s ?h; (case s => assumption); (case h => walk_at "dp")))
local macro_rules | `(tactic| walk_at "sz") => `(tactic| first | decide | assumption | omega | (simp only [List.length_cons, List.length_nil, List.length_map, List.length_append]; omega))
local macro_rules | `(tactic| walk_at "g1") => `(tactic| first
  | with_reducible refine k_seq ?_
  | with_reducible refine k_itB ?_
  | with_reducible refine k_next ?_
  | with_reducible refine k_asg ?_
  | with_reducible refine k_name ?_
  | with_reducible refine k_ret ?_
  | with_reducible refine k_retN ?_
  | with_reducible refine k_drop ?_
  | with_reducible refine k_ifs ?_
  | with_reducible refine k_brk ?_
  | with_reducible refine k_cont ?_
  | with_reducible refine k_ipI ?_
  | with_reducible refine k_test ?_
  | with_reducible refine k_tB ?_
  | with_reducible refine k_bl ?_
  | with_reducible refine k_not ?_
  | with_reducible refine k_and ?_
  | with_reducible refine k_or ?_
  | with_reducible refine k_yes ?_
  | with_reducible refine k_true ?_
  | with_reducible refine k_false ?_
  | with_reducible refine k_nt ?_
  | with_reducible refine k_c ?_
  | with_reducible refine k_op ?_
  | with_reducible refine k_un ?_
  | with_reducible refine k_if ?_
  | with_reducible refine k_chain ?_
  | with_reducible refine k_nil ?_
  | with_reducible refine k_cons ?_
  | with_reducible refine k_cb ?_
  | with_reducible refine k_call ?_
  | with_reducible refine k_callS ?_
  | with_reducible refine k_andV ?_
  | with_reducible refine k_orV ?_
  | with_reducible refine k_notV ?_
  | with_reducible refine k_lst ?_
  | with_reducible refine k_tup ?_
  | with_reducible refine k_nopart ?_
  | with_reducible refine k_part ?_
  | with_reducible refine k_nInt ?_
  | with_reducible refine k_sl ?_
  | with_reducible refine k_bm ?_
  | with_reducible refine k_bm0 ?_
  | with_reducible refine k_nTyS ?_
  | with_reducible refine k_m1 ?_
  | with_reducible refine k_m0 ?_
  | with_reducible refine k_nStr ?_
  | with_reducible refine k_I0 ?_
  | with_reducible refine k_U ?_
  | with_reducible refine k_add_i ?_
  | with_reducible refine k_eq_i ?_
  | with_reducible refine k_eq_s ?_
  | with_reducible refine k_eq_b ?_
  | with_reducible refine k_ne_i ?_
  | with_reducible refine k_ne_s ?_
  | with_reducible refine k_ne_b ?_
  | with_reducible refine k_le_i ?_
  | with_reducible refine k_le_s ?_
  | with_reducible refine k_gnil ?_
  | with_reducible refine k_gcons ?_
  | with_reducible refine k_gsub ?_
  | with_reducible refine k_for ?_
  | with_reducible refine k_lc ?_
  | with_reducible refine k_rng1 ?_
  | with_reducible refine k_rng2 ?_
  | with_reducible refine k_itl ?_
  | with_reducible refine k_itt ?_
  | with_reducible refine k_its ?_
  | with_reducible refine k_ite ?_
  | with_reducible refine k_iteB ?_
  | with_reducible refine k_lrg2 ?_
  | with_reducible refine k_itz ?_
  | with_reducible refine k_nIts ?_
  | with_reducible refine k_inS ?_
  | with_reducible refine k_niS ?_
  | with_reducible refine k_mk ?_
  | with_reducible refine k_meth ?_
  | with_reducible refine k_fld ?_
  | with_reducible refine k_sfld ?_
  | with_reducible refine k_dg ?_
  | with_reducible refine k_dp ?_
  | with_reducible refine k_pr ?_
  | with_reducible refine k_pr0 ?_
  | with_reducible refine k_sg ?_
  | with_reducible refine k_lc2 ?_
  | with_reducible refine k_callN ?_
  | with_reducible refine k_callNS ?_
  | with_reducible refine k_par ?_
  | with_reducible refine k_nPar ?_
  | with_reducible refine k_isNn ?_
  | with_reducible refine k_isNr ?_
  | with_reducible refine k_ntNn ?_
  | with_reducible refine k_ntNr ?_
  | with_reducible refine k_min2 ?_
  | with_reducible refine k_max2 ?_
  | with_reducible refine k_intB ?_
  | with_reducible refine k_intI ?_
  | with_reducible refine k_isBl ?_
  | with_reducible refine k_ntBl ?_
  | ((with_reducible refine' k_var ?kv ?_); (case kv => exact rfl))
  | ((with_reducible refine' k_aug ?kv ?_); (case kv => exact rfl))
  | ((with_reducible refine' k_ix_l ?ks ?ki ?_); (case ks => walk_at "sq"); (case ki => exact rfl))
  | ((with_reducible refine' k_ix_t ?ks ?ki ?_); (case ks => walk_at "st"); (case ki => exact rfl))
  | ((with_reducible refine' k_len_l ?ks ?_); (case ks => walk_at "sq"))
  | ((with_reducible refine' k_len_t ?ks ?_); (case ks => walk_at "st"))
  | ((with_reducible refine' k_setL ?ks ?ki ?_); (case ks => walk_at "hp"); (case ki => exact rfl))
  | ((with_reducible refine' k_nTyL ?ks ?_); (case ks => walk_at "sq"))
  | ((with_reducible refine' k_nItl ?ks ?_); (case ks => walk_at "sq"))
  | ((with_reducible refine' k_nItt ?ks ?_); (case ks => walk_at "st"))
  | ((with_reducible refine' k_nIte ?ks ?_); (case ks => walk_at "sq"))
  | ((with_reducible refine' k_mul ?km ?_); (case km => first | exact Or.inr ⟨by decide, by decide⟩ | exact Or.inl ⟨by decide, by decide⟩))
  | ((with_reducible refine' k_I ?km ?_); (case km => first | assumption | decide | exact ⟨by decide, by decide +kernel⟩ | exact ⟨by decide, by decide, by decide⟩))
  | ((with_reducible refine' k_nMeth ?kp ?kl ?_); (case kp => walk_at "hp"); (case kl => exact rfl))
  | ((with_reducible refine' k_nFld ?kp ?kc ?kn ?kl ?_); (case kp => walk_at "hp"); (case kc => assumption); (case kn => assumption); (case kl => exact rfl))
  | ((with_reducible refine' k_nSFld ?kp ?kc ?kn ?kl ?_); (case kp => walk_at "hp"); (case kc => assumption); (case kn => assumption); (case kl => exact of_decide_eq_true rfl))
  | ((with_reducible refine' k_nDg ?kp ?kl ?_); (case kp => walk_at "hp"); (case kl => exact rfl))
  | ((with_reducible refine' k_nRng1 ?k1 ?k2 ?_); (case k1 => omega); (case k2 => omega))
  | ((with_reducible refine' k_nKw ?k1 ?k2 ?_); (case k1 => exact rfl); (case k2 => exact rfl))
  | ((with_reducible refine' k_hsm ?kh ?_); (case kh => walk_at "hs"))
  | ((with_reducible refine' k_nMethH ?kh ?kl ?_); (case kh => walk_at "hs"); (case kl => exact fun _ _ => rfl))
  | ((with_reducible refine' k_mLet ?kh ?_); (case kh => walk_at "ms"))
  | ((with_reducible refine' k_mChew ?kh ?_); (case kh => walk_at "ms"))
  | ((with_reducible refine' k_mPut ?kh ?_); (case kh => walk_at "ms"))
  | ((with_reducible refine' k_mMost ?kh ?_); (case kh => walk_at "ms"))
  | ((with_reducible refine' k_mCut ?kh ?_); (case kh => walk_at "ms"))
  | ((with_reducible refine' k_mTab ?kh ?_); (case kh => walk_at "md"))
  | ((with_reducible refine' k_mEats ?kh ?_); (case kh => walk_at "md"))
  | ((with_reducible refine' k_gtup ?ks ?kl ?_); (case ks => walk_at "st"); (case kl => exact rfl)))
local macro_rules | `(tactic| walk_at "g") => `(tactic| repeat (walk_at "g1"))
local macro_rules | `(tactic| walk_at "w1") => `(tactic| first
  | walk_at "g1"
  | ((with_reducible refine' k_decT ?kp ?_); (case kp => omega))
  | ((with_reducible refine' k_decF ?kp ?_); (case kp => omega))
  | ((with_reducible refine' k_decNT ?kp ?_); (case kp => omega))
  | ((with_reducible refine' k_decNF ?kp ?_); (case kp => omega)))
local macro_rules | `(tactic| walk_at "w") => `(tactic| repeat (walk_at "w1"))


section
variable {P : Program} {w : World} {K : PySem.W.Frag} {mg : Str → Option Value} {base : Heap} {f : Addr} {fd : FuncData}
/-! ### a round gone -/
def stpB (x : Bt) : Stp := ((x.1 : Nat), sdS x.2)
theorem fol_walk {S : HsD} (bs : List Bt) : ∀ (us : Rw) (n : Nat), (walkF S us bs = none → ∃ k, folF S us (bs.map stpB) n = (none, some k)) ∧ (∀ m, walkF S us bs = some m → folF S us (bs.map stpB) n = (some m, none)) := by
  induction bs with
  | nil => exact fun us n => ⟨(fun h => nomatch h), fun m h => by cases h; rfl⟩
  | cons b bs ih =>
    intro us n
    have eb : behS S us (stpB b).1 (stpB b).2 = behF S us ((b.1 : Nat) : Int) b.2 := by
      show behS S us ((b.1 : Nat) : Int) (sdS b.2) = _
      exact behS_sd S us _ b.2
    have hw : walkF S us (b :: bs) = (match behF S us ((b.1 : Nat) : Int) b.2 with | none => none | some m => walkF S m bs) := rfl
    rw [hw, List.map_cons]
    cases e : behF S us ((b.1 : Nat) : Int) b.2 with
    | none =>
      rw [e] at eb
      exact ⟨fun _ => ⟨n, folF_none eb⟩, fun m h => nomatch h⟩
    | some m2 =>
      rw [e] at eb
      rw [folF_some eb]
      exact ih m2 (n + 1)
theorem dbts_stp (bs : List Bt) : (bs.map stpB).map dStp = bs.map dBt := by
  rw [List.map_map]
  rfl
def spTurned (K : PySem.W.Frag) : Sp := fun vs H Q _ => ∃ (a r T p1 p2 p3 p4 : Addr) (w0 : V) (S : HsD) (us : Rw) (bs1 bs2 : List Bt) (x z : Rw) (tq : Bool), vs = [.ref a, .ref r, .ref T] ∧ HsAt K H a S ∧ HsOk S ∧ SqB K tq H r (tS us) ∧ AllW S us ∧ us.length ≤ 100 ∧ SqT K H T [w0, .ref p1, .ref p2, .ref p3, .ref p4] ∧ Told4 K H S p1 p2 p3 p4 bs1 bs2 x z ∧
  ∀ v H', Same H H' → WkIs K H' v (roundF S us bs1 bs2 x z) → Q v H'
theorem ok_turned (F : FnP K "turned" s_turned f fd) (hm : mg "turned" = some (.ref f)) (f_len : mg "len" = none) (f_list : mg "list" = none) (c_followed : Callee P w K mg base CX0 "followed" 4 [] (spFollowed K)) : Callee P w K mg base CX0 "turned" 5 [] (spTurned K) := by
  refine ⟨f, fd, _, [], F.ok sc_turned (fun vs H Q E h => ?hl) (fun cdv A outer s H vs Q E hr h => ⟨_, PSs.nox (pss_cons (ps_asg (pv 2) (pg_tupK K 5 (by rfl) (pgs_cons (pg_name (i := 3) sc_turned.nd rfl (by first | exact Or.inl rfl | exact Or.inr rfl)) (pgs_cons (pg_name (i := 4) sc_turned.nd rfl (by first | exact Or.inl rfl | exact Or.inr rfl)) (pgs_cons (pg_name (i := 5) sc_turned.nd rfl (by first | exact Or.inl rfl | exact Or.inr rfl)) (pgs_cons (pg_name (i := 6) sc_turned.nd rfl (by first | exact Or.inl rfl | exact Or.inr rfl)) (pgs_cons (pg_name (i := 7) sc_turned.nd rfl (by first | exact Or.inl rfl | exact Or.inr rfl)) pgs_nil)))))))
      (pss_cons (ps_asg (pe_cl c_followed hr (pa_cons (pv 0) (pa_cons (pe_callTy (call_listK K) (by rfl) f_list (by decide +kernel) (pa_cons (pv 1) pa_nil)) (pa_cons (pv 4) pa_nil))) pass0) (pg_tupK K 2 (by rfl) (pgs_cons (pg_name (i := 8) sc_turned.nd rfl (by first | exact Or.inl rfl | exact Or.inr rfl)) (pgs_cons (pg_name (i := 9) sc_turned.nd rfl (by first | exact Or.inl rfl | exact Or.inr rfl)) pgs_nil))))
      (pss_cons (ps_if (PW.pt (pw_or (pt_cmpR op_isN1 (pv 8) pe_non (nomark _)) (pw_or1 (pt_cmpR (op_eqK K hr.units) (pe_callB (call_lenK K) (by rfl) f_len PySem.boot_len (pa_cons (pv 5) pa_nil)) pe_int (nomark _))))) (pss_one (ps_ret pe_non)) pss_nil)
      (pss_cons (ps_asg (pe_cl c_followed hr (pa_cons (pv 0) (pa_cons (pv 8) (pa_cons (pv 5) pa_nil))) pass0) (pg_tupK K 2 (by rfl) (pgs_cons (pg_name (i := 10) sc_turned.nd rfl (by first | exact Or.inl rfl | exact Or.inr rfl)) (pgs_cons (pg_name (i := 9) sc_turned.nd rfl (by first | exact Or.inl rfl | exact Or.inr rfl)) pgs_nil))))
      (pss_one (ps_ret (pe_ifExp (pt_cmpR (op_eqK K hr.units) (pv 10) (pe_op (op_addK K) (pe_op (op_addK K) (pe_callTy (call_listK K) (by rfl) f_list (by decide +kernel) (pa_cons (pv 6) pa_nil)) (pv 8)) (pe_callTy (call_listK K) (by rfl) f_list (by decide +kernel) (pa_cons (pv 7) pa_nil))) (nomark _)) (pv 8) pe_non))))))), ?rd⟩), hm, F.kp, F.bindsN fun _ _ _ _ _ _ us hl => match us, hl with | [_, _, _], _ => rfl, .nil⟩
  case hl =>
    obtain ⟨a, r, T, p1, p2, p3, p4, w0, S, us, bs1, bs2, x, z, tq, rfl, _⟩ := h
    rfl
  case rd =>
    obtain ⟨a, r, T, p1, p2, p3, p4, w0, S, us, bs1, bs2, x, z, tq, rfl, hs, ok, hx, hw, lu, hT, hF, q⟩ := h
    refine k_start (σ' := [some _, some _, some _, none, none, none, none, none, none, none, none]) rfl ?_
    have l1 := hF.l1
    have l2 := hF.l2
    have la := hF.la
    have lc := hF.lc
    obtain ⟨ws1, e1, d1⟩ := hF.h1
    have lw1 := dpall_len d1
    rw [List.length_map] at lw1
    walk_at "g"
    refine k_list_b hx (fun pl H1 n1 s1 el => ?_)
    have hF1 := hF.sm s1
    have d1' : DpAll K H1 ws1 ((bs1.map stpB).map dStp) := by
      rw [dbts_stp]
      exact dpall_sm s1 d1
    have fw := fol_walk (S := S) bs1 us 0
    unfold roundF at q
    walk_at "g"
    cases ew : walkF S us bs1 with
    | none =>
      rw [ew] at q
      obtain ⟨k, hk⟩ := fw.1 ew
      refine ⟨a, pl, p1, S, us, bs1.map stpB, ws1, rfl, hs.sm s1, ok, el, hw, sq_l (s1 _ _ e1), d1', by rw [List.length_map]; omega, fun n hn T2 H2 n2 s2 e2 => ?_, fun m hm => absurd (hk.symm.trans hm) (fun z => nomatch z)⟩
      walk_at "g"
      exact q _ _ (s1.trans s2) rfl
    | some R =>
      rw [ew] at q
      have hk := fw.2 R ew
      obtain ⟨wR, lR⟩ := walkF_words ok bs1 hw ew
      refine ⟨a, pl, p1, S, us, bs1.map stpB, ws1, rfl, hs.sm s1, ok, el, hw, sq_l (s1 _ _ e1), d1', by rw [List.length_map]; omega, fun n hn => absurd (hk.symm.trans hn) (fun z => nomatch z), fun m hm T2 pR H2 n2 s2 eR e2 => ?_⟩
      cases (Prod.mk.inj (hk.symm.trans hm)).1
      have s12 := s1.trans s2
      have hF2 := hF.sm s12
      obtain ⟨ws2, e22, d2⟩ := hF2.h2
      have lw2 := dpall_len d2
      rw [List.length_map] at lw2
      walk_at "g"
      refine k_dec (fun d => ?_) (fun d => ?_)
      · have d0 : bs2 = [] := List.length_eq_zero_iff.mp (by omega)
        simp only [d0, if_true] at q
        walk_at "g"
        exact q _ _ s12 rfl
      · have d0 : bs2 ≠ [] := fun z => by
          rw [z] at lw2
          exact d (by rw [lw2]; rfl)
        simp only [d0, if_false] at q
        walk_at "g"
        have d2' : DpAll K H2 ws2 ((bs2.map stpB).map dStp) := by
          rw [dbts_stp]
          exact d2
        have fw2 := fol_walk (S := S) bs2 R 0
        cases ew2 : walkF S R bs2 with
        | none =>
          rw [ew2] at q
          obtain ⟨k, hk2⟩ := fw2.1 ew2
          refine ⟨a, pR, p2, S, R, bs2.map stpB, ws2, rfl, hs.sm s12, ok, eR, wR, sq_l e22, d2', by rw [List.length_map]; omega, fun n hn T3 H3 n3 s3 e3 => ?_, fun m hm => absurd (hk2.symm.trans hm) (fun z => nomatch z)⟩
          have s13 := s12.trans s3
          have hF3 := hF.sm s13
          walk_at "g"
          refine k_list_l (sq_l hF3.h3) (fun p6 H4 n4 s4 e4 => ?_)
          walk_at "g"
          refine k_add_l e4 (s4 _ _ (s3 _ _ eR)) (by unfold tS; rw [List.length_map, List.length_map]; omega) (fun p7 H5 n5 s5 e5 => ?_)
          walk_at "g"
          refine k_list_l (sq_l (s5 _ _ (s4 _ _ hF3.h4))) (fun p8 H6 n6 s6 e6 => ?_)
          walk_at "g"
          refine k_add_l (s6 _ _ e5) e6 (by unfold tS; rw [List.length_append, List.length_map, List.length_map, List.length_map]; omega) (fun p9 H7 n7 s7 e7 => ?_)
          have e7' : H7 p9 = some (.lst (tS (x ++ R ++ z))) := by
            rw [e7]
            unfold tS
            rw [List.map_append, List.map_append]
          have wA : AllW S (x ++ R ++ z) := fun u hu => by
            rcases List.mem_append.mp hu with hu | hu
            · rcases List.mem_append.mp hu with hu | hu
              · exact hF.wa u hu
              · exact wR u hu
            · exact hF.wc u hu
          refine k_eq_d .non (.lst (sq_l e7') (dp_tS _)) (by decide) ((good_allW ok wA (by rw [List.length_append, List.length_append]; omega) 1).shaped (by decide)) ?_
          rw [show PyData.eqv .none (.list ((x ++ R ++ z).map fun u => PyData.str (tx u))) = false by simp [PyData.eqv]]
          walk_at "g"
          exact q _ _ (s13.trans (s4.trans (s5.trans (s6.trans s7)))) rfl
        | some m2 =>
          rw [ew2] at q
          have hk2 := fw2.2 m2 ew2
          obtain ⟨wm, lm⟩ := walkF_words ok bs2 wR ew2
          refine ⟨a, pR, p2, S, R, bs2.map stpB, ws2, rfl, hs.sm s12, ok, eR, wR, sq_l e22, d2', by rw [List.length_map]; omega, fun n hn => absurd (hk2.symm.trans hn) (fun z => nomatch z), fun m hm T3 pm H3 n3 s3 em e3 => ?_⟩
          cases (Prod.mk.inj (hk2.symm.trans hm)).1
          have s13 := s12.trans s3
          have hF3 := hF.sm s13
          walk_at "g"
          refine k_list_l (sq_l hF3.h3) (fun p6 H4 n4 s4 e4 => ?_)
          walk_at "g"
          refine k_add_l e4 (s4 _ _ (s3 _ _ eR)) (by unfold tS; rw [List.length_map, List.length_map]; omega) (fun p7 H5 n5 s5 e5 => ?_)
          walk_at "g"
          refine k_list_l (sq_l (s5 _ _ (s4 _ _ hF3.h4))) (fun p8 H6 n6 s6 e6 => ?_)
          walk_at "g"
          refine k_add_l (s6 _ _ e5) e6 (by unfold tS; rw [List.length_append, List.length_map, List.length_map, List.length_map]; omega) (fun p9 H7 n7 s7 e7 => ?_)
          have e7' : H7 p9 = some (.lst (tS (x ++ R ++ z))) := by
            rw [e7]
            unfold tS
            rw [List.map_append, List.map_append]
          have wA : AllW S (x ++ R ++ z) := fun u hu => by
            rcases List.mem_append.mp hu with hu | hu
            · rcases List.mem_append.mp hu with hu | hu
              · exact hF.wa u hu
              · exact wR u hu
            · exact hF.wc u hu
          have s37 := s4.trans (s5.trans (s6.trans s7))
          refine k_eq_d (.lst (sq_l (s37 _ _ em)) (dp_tS _)) (.lst (sq_l e7') (dp_tS _)) ((good_allW ok wm (by omega) 1).shaped (by decide)) ((good_allW ok wA (by rw [List.length_append, List.length_append]; omega) 1).shaped (by decide)) ?_
          rw [eqv_rows]
          have eR7 := s37 _ _ (s3 _ _ eR)
          walk_at "g"
          refine k_dec (fun d => ?_) (fun d => ?_)
          · simp only [d, if_true] at q
            walk_at "g"
            exact q _ _ (s13.trans s37) ⟨pR, rfl, eR7⟩
          · simp only [d, if_false] at q
            walk_at "g"
            exact q _ _ (s13.trans s37) rfl
def spHolds (K : PySem.W.Frag) : Sp := fun vs H Q E => ∃ (a r T p1 p2 p3 p4 : Addr) (w0 : V) (S : HsD) (us : Rw) (bs1 bs2 : List Bt) (x z : Rw) (tq : Bool), vs = [.ref a, .ref r, .ref T] ∧ HsAt K H a S ∧ HsOk S ∧ SqB K tq H r (tS us) ∧ us.length ≤ 1000 ∧ (∀ u ∈ us, u.length ≤ 1000) ∧ SqT K H T [w0, .ref p1, .ref p2, .ref p3, .ref p4] ∧ Told4 K H S p1 p2 p3 p4 bs1 bs2 x z ∧
  (badAt S us = none → ∀ H', Same H H' → Q (.bl (roundF S us bs1 bs2 x z).isSome) H') ∧
  (∀ i, badAt S us = some i → ∀ d H', H d = none → Same H H' → H' d = some (.xd (xfs "BadWord" "at" (.int (i : Nat)))) → E (.ref (He.ga K "BadWord")) (some d) H')
theorem ok_fate_holds (F : FnP K "fate_holds" s_fate_holds f fd) (hm : mg "fate_holds" = some (.ref f)) (c_need_row : Callee P w K mg base (L2.CX P w) "need_row" 3 [] (spNeedRow K)) (c_turned : Callee P w K mg base CX0 "turned" 5 [] (spTurned K)) : Callee P w K mg base (L2.CX P w) "fate_holds" 6 [] (spHolds K) := by
  refine ⟨f, fd, _, [], F.ok sc_fate_holds (fun vs H Q E h => ?hl) (fun cdv A outer s H vs Q E hr h => ⟨_, (pss_cons (ps_expr (pe_cl c_need_row hr (pa_cons (pv 0) (pa_cons (pv 1) pa_nil)) (passE (takes_of rfl rfl rfl rfl))))
      (pss_one (ps_ret (pe_cmpR op_notN1 (pe_cl c_turned hr (pa_cons (pv 0) (pa_cons (pv 1) (pa_cons (pv 2) pa_nil))) pass0) pe_non (nomark _))))), ?rd⟩), hm, F.kp, F.bindsN fun _ _ _ _ _ _ us hl => match us, hl with | [_, _, _], _ => rfl, .nil⟩
  case hl =>
    obtain ⟨a, r, T, p1, p2, p3, p4, w0, S, us, bs1, bs2, x, z, tq, rfl, _⟩ := h
    rfl
  case rd =>
    obtain ⟨a, r, T, p1, p2, p3, p4, w0, S, us, bs1, bs2, x, z, tq, rfl, hs, ok, hx, lu, lw, hT, hF, q1, q2⟩ := h
    refine k_start (σ' := [some _, some _, some _]) rfl ?_
    walk_at "g"
    refine ⟨a, r, S, us, tq, rfl, hs, hx, by omega, lw, fun hb H1 s1 => ?_, fun i hi d H1 n1 s1 e1 => q2 i hi d H1 n1 s1 e1⟩
    obtain ⟨hw, l12⟩ := badAt_none ok hb
    walk_at "g"
    refine ⟨a, r, T, p1, p2, p3, p4, w0, S, us, bs1, bs2, x, z, tq, rfl, hs.sm s1, ok, sm_b s1 hx, hw, by omega, sm_t s1 hT, hF.sm s1, fun v H2 s2 hv => ?_⟩
    have q := q1 hb _ (s1.trans s2)
    cases e : roundF S us bs1 bs2 x z with
    | none =>
      rw [e] at hv q
      cases (show v = .non from hv)
      walk_at "g"
      exact q
    | some R =>
      rw [e] at hv q
      obtain ⟨p, rfl, ep⟩ := hv
      walk_at "g"
      exact q
theorem k_rep2 {H : Hp} {Q : VK} {a : Addr} {us : Rw} {n : Nat} (ha : H a = some (.lst (tS us))) (h1 : n ≤ 1000) (h2 : us.length ≤ 9000) (q : ∀ p H', H p = none → Same H H' → H' p = some (.lst (tS (List.replicate n us).flatten)) → Q (.ref p) H') : rRep (.ref a) (.int (n : Nat)) H Q := by
  refine ⟨a, (n : Nat), _, rfl, rfl, ha, by omega, by omega, ?_, fun p hp => q p _ hp (sm_new hp) ?_⟩
  · have h4 : (tS us).length * n ≤ 9000 * 1000 := Nat.mul_le_mul (by rw [len_tS]; exact h2) h1
    have h5 : (9000 * 1000 : Nat) ≤ sizeLine := by decide
    have h6 : ((n : Nat) : Int).toNat = n := rfl
    rw [h6]
    omega
  · rw [upd_same]
    have h6 : ((n : Nat) : Int).toNat = n := rfl
    rw [h6]
    unfold tS
    rw [List.map_flatten, List.map_replicate]
def rpF (n : Nat) (us : Rw) : Rw := (List.replicate n us).flatten
theorem rpF_len (n : Nat) (us : Rw) : (rpF n us).length = n * us.length := by
  unfold rpF
  rw [List.length_flatten, List.map_replicate, List.sum_replicate_nat]
def spRounds (K : PySem.W.Frag) : Sp := fun vs H Q E => ∃ (a r T p1 p2 p3 p4 : Addr) (w0 : V) (S : HsD) (us : Rw) (bs1 bs2 : List Bt) (x z : Rw) (tq : Bool) (many : Int), vs = [.ref a, .ref r, .ref T, .int many] ∧ HsAt K H a S ∧ HsOk S ∧ SqB K tq H r (tS us) ∧ us.length ≤ 1000 ∧ (∀ u ∈ us, u.length ≤ 1000) ∧ SqT K H T [w0, .ref p1, .ref p2, .ref p3, .ref p4] ∧ Told4 K H S p1 p2 p3 p4 bs1 bs2 x z ∧ (x.length + z.length) * 60 ≤ 80000 ∧
  (badAt S us = none → ∀ R, roundF S us bs1 bs2 x z = some R → 0 ≤ many → many ≤ 60 → ∀ p H', H p = none → Same H H' → H' p = some (.lst (tS (rpF many.toNat x ++ R ++ rpF many.toNat z))) → Q (.ref p) H') ∧
  (badAt S us = none → roundF S us bs1 bs2 x z = none → ∀ d H', H d = none → Same H H' → H' d = some (.xd [("word", .str "BadWish")]) → E (.ref (He.ga K "BadWish")) (some d) H') ∧
  (badAt S us = none → (roundF S us bs1 bs2 x z).isSome = true → ¬ (0 ≤ many ∧ many ≤ 60) → ∀ d H', H d = none → Same H H' → H' d = some (.xd (xfs "BadNumber" "number" (.int many))) → E (.ref (He.ga K "BadNumber")) (some d) H') ∧
  (∀ i, badAt S us = some i → ∀ d H', H d = none → Same H H' → H' d = some (.xd (xfs "BadWord" "at" (.int (i : Nat)))) → E (.ref (He.ga K "BadWord")) (some d) H')

theorem made_BadWish (F : FunD K "__init__" "BadWish.__init__" (defArgs s_BadWish_init) (defBody s_BadWish_init) (defScope s_BadWish_init) [] [] (He.ma K (He.ga K "BadWish") "__init__") fd) (gC : mg "BadWish" = some (.ref (He.ga K "BadWish"))) (O : Oex K (He.ga K "BadWish") (He.ma K (He.ga K "BadWish") "__init__"))
    (nw : PySem.W.findIn K (.ref (He.ga K "BadWish")) "word" = some none) : XCls0 P w K mg base "BadWish" 1 "BadWish" := by
  refine ⟨gC, O, nw, fd, ["self"], F.ok sc_BadWish_init (fun vs H Q E h => ?_) (fun cdv A outer s H vs Q E hr h => ⟨_, PSs.nox (pss_one (ps_ost (pv 0) pe_str)), x0_read O.T nw h rfl⟩), F.bindsN fun _ _ _ _ _ _ us hl => match us, hl with | [_], _ => rfl⟩
  obtain ⟨a, rfl, _⟩ := h
  rfl

theorem ok_rounds (F : FnP K "rounds" s_rounds f fd) (hm : mg "rounds" = some (.ref f)) (f_list : mg "list" = none) (c_MOST_ROUNDS : ∃ t, mg "MOST_ROUNDS" = some (.int 60 t)) (c_need_row : Callee P w K mg base (L2.CX P w) "need_row" 3 [] (spNeedRow K)) (c_turned : Callee P w K mg base CX0 "turned" 5 [] (spTurned K)) (c_BadWish : XCls0 P w K mg base "BadWish" 1 "BadWish") (c_BadNumber : XCls P w K mg base "BadNumber" 1 "BadNumber" "number") : Callee P w K mg base (L2.CX P w) "rounds" 6 [] (spRounds K) := by
  refine ⟨f, fd, _, [], F.ok sc_rounds (fun vs H Q E h => ?hl) (fun cdv A outer s H vs Q E hr h => ⟨_, (pss_cons (ps_expr (pe_cl c_need_row hr (pa_cons (pv 0) (pa_cons (pv 1) pa_nil)) (passE (takes_of rfl rfl rfl rfl))))
      (pss_cons (ps_set (i := 4) sc_rounds.nd rfl (by first | exact Or.inl rfl | exact Or.inr rfl) (pe_cl c_turned hr (pa_cons (pv 0) (pa_cons (pv 1) (pa_cons (pv 2) pa_nil))) pass0))
      (pss_cons (ps_if (pt_cmpR op_isN1 (pv 4) pe_non (nomark _)) (pss_one (ps_raise rfl (takes_of rfl rfl rfl rfl) (pmk_x0 c_BadWish hr))) pss_nil)
      (pss_cons (ps_if (pt_not (pt_chain op_leU op_leU pe_int (pv 3) (pe_gi c_MOST_ROUNDS))) (pss_one (ps_raise rfl (takes_of rfl rfl rfl rfl) (pmk_x1 c_BadNumber hr (pa_cons (pv 3) pa_nil)))) pss_nil)
      (pss_one (ps_ret (pe_op (op_addK K) (pe_op (op_addK K) (pe_op op_rep (pe_callTy (call_listK K) (by rfl) f_list (by decide +kernel) (pa_cons (pe_ix (ix_k K) (pv 2) pe_int (fun _ _ => rfl)) pa_nil)) (pv 3)) (pv 4)) (pe_op op_rep (pe_callTy (call_listK K) (by rfl) f_list (by decide +kernel) (pa_cons (pe_ix (ix_k K) (pv 2) pe_int (fun _ _ => rfl)) pa_nil)) (pv 3))))))))), ?rd⟩), hm, F.kp, F.bindsN fun _ _ _ _ _ _ us hl => match us, hl with | [_, _, _, _], _ => rfl, .nil⟩
  case hl =>
    obtain ⟨a, r, T, p1, p2, p3, p4, w0, S, us, bs1, bs2, x, z, tq, many, rfl, _⟩ := h
    rfl
  case rd =>
    obtain ⟨a, r, T, p1, p2, p3, p4, w0, S, us, bs1, bs2, x, z, tq, many, rfl, hs, ok, hx, lu, lw, hT, hF, lxz, q1, q2, q3, q4⟩ := h
    refine k_start (σ' := [some _, some _, some _, some _, none]) rfl ?_
    walk_at "g"
    refine ⟨a, r, S, us, tq, rfl, hs, hx, by omega, lw, fun hb H1 s1 => ?_, fun i hi d H1 n1 s1 e1 => q4 i hi d H1 n1 s1 e1⟩
    obtain ⟨hw, l12⟩ := badAt_none ok hb
    walk_at "g"
    refine ⟨a, r, T, p1, p2, p3, p4, w0, S, us, bs1, bs2, x, z, tq, rfl, hs.sm s1, ok, sm_b s1 hx, hw, by omega, sm_t s1 hT, hF.sm s1, fun v H2 s2 hv => ?_⟩
    have s12 := s1.trans s2
    cases e : roundF S us bs1 bs2 x z with
    | none =>
      rw [e] at hv
      cases (show v = .non from hv)
      walk_at "g"
      refine k_x0 (fun d H3 n3 s3 e3 => ?_)
      exact q2 hb e d H3 (s12.free n3) (s12.trans s3) e3
    | some R =>
      rw [e] at hv
      obtain ⟨p, rfl, ep⟩ := hv
      have hT2 := sm_t s12 hT
      have hF2 := hF.sm s12
      have la := hF.la
      have lc := hF.lc
      have lR : R.length ≤ 3300 := by
        unfold roundF at e
        cases ew : walkF S us bs1 with
        | none => rw [ew] at e; cases e
        | some R' =>
          rw [ew] at e
          have := (walkF_words ok bs1 hw ew).2
          have l1 := hF.l1
          have : R' = R := by
            revert e
            simp only []
            split
            · exact fun z => nomatch z
            · split
              · exact fun z => nomatch z
              · split
                · exact fun z => Option.some.inj z
                · exact fun z => nomatch z
          subst this
          omega
      walk_at "g"
      refine k_dec (fun c1 => ?_) (fun c1 => ?_)
      · walk_at "g"
        refine k_dec (fun c2 => ?_) (fun c2 => ?_)
        · obtain ⟨n, rfl⟩ : ∃ n : Nat, many = (n : Int) := ⟨many.toNat, by omega⟩
          have hn : n ≤ 60 := by omega
          walk_at "g"
          refine k_list_l (sq_l hF2.h3) (fun p6 H4 n4 s4 e4 => ?_)
          walk_at "g"
          refine k_rep2 e4 (by omega) la (fun p7 H5 n5 s5 e5 => ?_)
          have s45 := s4.trans s5
          have l7 : (rpF n x).length ≤ 60 * x.length := by rw [rpF_len]; exact Nat.mul_le_mul_right _ hn
          have l8 : (rpF n z).length ≤ 60 * z.length := by rw [rpF_len]; exact Nat.mul_le_mul_right _ hn
          have e5' : H5 p7 = some (.lst (tS (rpF n x))) := e5
          walk_at "g"
          refine k_add_l e5' (s45 _ _ ep) (by rw [len_tS, len_tS]; omega) (fun p8 H6 n6 s6 e6 => ?_)
          have s46 := s45.trans s6
          have hT6 := sm_t s46 hT2
          walk_at "g"
          refine k_list_l (sq_l (s46 _ _ hF2.h4)) (fun p9 H7 n7 s7 e7 => ?_)
          walk_at "g"
          refine k_rep2 e7 (by omega) lc (fun p10 H8 n8 s8 e8 => ?_)
          have e8' : H8 p10 = some (.lst (tS (rpF n z))) := e8
          have s78 := s7.trans s8
          walk_at "g"
          refine k_add_l (s78 _ _ e6) e8' (by rw [List.length_append, len_tS, len_tS, len_tS]; omega) (fun p11 H9 n9 s9 e9 => ?_)
          have sA := s12.trans (s46.trans s78)
          refine q1 hb R e (by omega) (by omega) p11 H9 (sA.free n9) (sA.trans s9) ?_
          rw [e9, tS_app, tS_app]
          rfl
        · walk_at "g"
          refine k_x1 (fun d H3 n3 s3 e3 => ?_)
          exact q3 hb (by rw [e]; rfl) (fun z => c2 z.2) d H3 (s12.free n3) (s12.trans s3) e3
      · walk_at "g"
        refine k_x1 (fun d H3 n3 s3 e3 => ?_)
        exact q3 hb (by rw [e]; rfl) (fun z => c1 z.1) d H3 (s12.free n3) (s12.trans s3) e3
end
end Lw
set_option autoImplicit true
set_option pp.maxSteps 1200
set_option Elab.async false
set_option linter.all false
set_option maxRecDepth 100000
set_option maxHeartbeats 1000000
namespace Lw
open PySem PySem.Spec PyProof.Rows L2 Gk
open LamX hiding takes0

local macro_rules | `(tactic| walk_at "hp") => `(tactic| first | assumption | exact upd_same | (refine' (upd_ne ?n).trans ?h; (case n => assumption); (case h => walk_at "hp")) | (refine' sm_get ?s ?h; (case s => assumption); (case h => walk_at "hp")))
local macro_rules | `(tactic| walk_at "sq") => `(tactic| first | assumption | (refine' sq_l ?h; (case h => walk_at "hp")) | (refine' sm_l ?s ?h; (case s => assumption); (case h => walk_at "sq")))
local macro_rules | `(tactic| walk_at "st") => `(tactic| first | assumption | (refine' sq_t ?h; (case h => walk_at "hp")) | (refine' sm_t ?s ?h; (case s => assumption); (case h => walk_at "st")))
local macro_rules | `(tactic| walk_at "bg") => `(tactic| first | assumption | (refine' BagOk.sm ?s ?h; (case s => assumption); (case h => walk_at "bg")))
local macro_rules | `(tactic| walk_at "sm") => `(tactic| first | assumption | exact Same.refl _ | (refine' Same.trans ?h ?s; (case s => assumption); (case h => walk_at "sm")))
local macro_rules | `(tactic| walk_at "hs") => `(tactic| first | assumption | (refine' HsAt.sm ?s ?h; (case s => assumption); (case h => walk_at "hs")))
local macro_rules | `(tactic| walk_at "ms") => `(tactic| first | assumption | (refine' MAt.sm ?s ?h; (case s => assumption); (case h => walk_at "ms")))
local macro_rules | `(tactic| walk_at "md") => `(tactic| first | assumption | (refine' MDk.sm ?s ?h; (case s => assumption); (case h => walk_at "md")))
local macro_rules | `(tactic| walk_at "dp") => `(tactic| first | assumption | (refine' dp_sm ?s ?h; (case s => assumption); (case h => walk_at "dp")))
local macro_rules | `(tactic| walk_at "sz") => `(tactic| first | decide | assumption | omega | (simp only [List.length_cons, List.length_nil, List.length_map, List.length_append]; omega))
local macro_rules | `(tactic| walk_at "g1") => `(tactic| first
  | with_reducible refine k_seq ?_
  | with_reducible refine k_itB ?_
  | with_reducible refine k_next ?_
  | with_reducible refine k_asg ?_
  | with_reducible refine k_name ?_
  | with_reducible refine k_ret ?_
  | with_reducible refine k_retN ?_
  | with_reducible refine k_drop ?_
  | with_reducible refine k_ifs ?_
  | with_reducible refine k_brk ?_
  | with_reducible refine k_cont ?_
  | with_reducible refine k_ipI ?_
  | with_reducible refine k_test ?_
  | with_reducible refine k_tB ?_
  | with_reducible refine k_bl ?_
  | with_reducible refine k_not ?_
  | with_reducible refine k_and ?_
  | with_reducible refine k_or ?_
  | with_reducible refine k_yes ?_
  | with_reducible refine k_true ?_
  | with_reducible refine k_false ?_
  | with_reducible refine k_nt ?_
  | with_reducible refine k_c ?_
  | with_reducible refine k_op ?_
  | with_reducible refine k_un ?_
  | with_reducible refine k_if ?_
  | with_reducible refine k_chain ?_
  | with_reducible refine k_nil ?_
  | with_reducible refine k_cons ?_
  | with_reducible refine k_cb ?_
  | with_reducible refine k_call ?_
  | with_reducible refine k_callS ?_
  | with_reducible refine k_andV ?_
  | with_reducible refine k_orV ?_
  | with_reducible refine k_notV ?_
  | with_reducible refine k_lst ?_
  | with_reducible refine k_tup ?_
  | with_reducible refine k_nopart ?_
  | with_reducible refine k_part ?_
  | with_reducible refine k_nInt ?_
  | with_reducible refine k_sl ?_
  | with_reducible refine k_bm ?_
  | with_reducible refine k_bm0 ?_
  | with_reducible refine k_nTyS ?_
  | with_reducible refine k_m1 ?_
  | with_reducible refine k_m0 ?_
  | with_reducible refine k_nStr ?_
  | with_reducible refine k_I0 ?_
  | with_reducible refine k_U ?_
  | with_reducible refine k_add_i ?_
  | with_reducible refine k_eq_i ?_
  | with_reducible refine k_eq_s ?_
  | with_reducible refine k_eq_b ?_
  | with_reducible refine k_ne_i ?_
  | with_reducible refine k_ne_s ?_
  | with_reducible refine k_ne_b ?_
  | with_reducible refine k_le_i ?_
  | with_reducible refine k_le_s ?_
  | with_reducible refine k_gnil ?_
  | with_reducible refine k_gcons ?_
  | with_reducible refine k_gsub ?_
  | with_reducible refine k_for ?_
  | with_reducible refine k_lc ?_
  | with_reducible refine k_rng1 ?_
  | with_reducible refine k_rng2 ?_
  | with_reducible refine k_itl ?_
  | with_reducible refine k_itt ?_
  | with_reducible refine k_its ?_
  | with_reducible refine k_ite ?_
  | with_reducible refine k_iteB ?_
  | with_reducible refine k_lrg2 ?_
  | with_reducible refine k_itz ?_
  | with_reducible refine k_nIts ?_
  | with_reducible refine k_inS ?_
  | with_reducible refine k_niS ?_
  | with_reducible refine k_mk ?_
  | with_reducible refine k_meth ?_
  | with_reducible refine k_fld ?_
  | with_reducible refine k_sfld ?_
  | with_reducible refine k_dg ?_
  | with_reducible refine k_dp ?_
  | with_reducible refine k_pr ?_
  | with_reducible refine k_pr0 ?_
  | with_reducible refine k_sg ?_
  | with_reducible refine k_lc2 ?_
  | with_reducible refine k_callN ?_
  | with_reducible refine k_callNS ?_
  | with_reducible refine k_par ?_
  | with_reducible refine k_nPar ?_
  | with_reducible refine k_isNn ?_
  | with_reducible refine k_isNr ?_
  | with_reducible refine k_ntNn ?_
  | with_reducible refine k_ntNr ?_
  | with_reducible refine k_min2 ?_
  | with_reducible refine k_max2 ?_
  | with_reducible refine k_intB ?_
  | with_reducible refine k_intI ?_
  | with_reducible refine k_isBl ?_
  | with_reducible refine k_ntBl ?_
  | ((with_reducible refine' k_var ?kv ?_); (case kv => exact rfl))
  | ((with_reducible refine' k_aug ?kv ?_); (case kv => exact rfl))
  | ((with_reducible refine' k_ix_l ?ks ?ki ?_); (case ks => walk_at "sq"); (case ki => exact rfl))
  | ((with_reducible refine' k_ix_t ?ks ?ki ?_); (case ks => walk_at "st"); (case ki => exact rfl))
  | ((with_reducible refine' k_len_l ?ks ?_); (case ks => walk_at "sq"))
  | ((with_reducible refine' k_len_t ?ks ?_); (case ks => walk_at "st"))
  | ((with_reducible refine' k_setL ?ks ?ki ?_); (case ks => walk_at "hp"); (case ki => exact rfl))
  | ((with_reducible refine' k_nTyL ?ks ?_); (case ks => walk_at "sq"))
  | ((with_reducible refine' k_nItl ?ks ?_); (case ks => walk_at "sq"))
  | ((with_reducible refine' k_nItt ?ks ?_); (case ks => walk_at "st"))
  | ((with_reducible refine' k_nIte ?ks ?_); (case ks => walk_at "sq"))
  | ((with_reducible refine' k_mul ?km ?_); (case km => first | exact Or.inr ⟨by decide, by decide⟩ | exact Or.inl ⟨by decide, by decide⟩))
  | ((with_reducible refine' k_I ?km ?_); (case km => first | assumption | decide | exact ⟨by decide, by decide +kernel⟩ | exact ⟨by decide, by decide, by decide⟩))
  | ((with_reducible refine' k_nMeth ?kp ?kl ?_); (case kp => walk_at "hp"); (case kl => exact rfl))
  | ((with_reducible refine' k_nFld ?kp ?kc ?kn ?kl ?_); (case kp => walk_at "hp"); (case kc => assumption); (case kn => assumption); (case kl => exact rfl))
  | ((with_reducible refine' k_nSFld ?kp ?kc ?kn ?kl ?_); (case kp => walk_at "hp"); (case kc => assumption); (case kn => assumption); (case kl => exact of_decide_eq_true rfl))
  | ((with_reducible refine' k_nDg ?kp ?kl ?_); (case kp => walk_at "hp"); (case kl => exact rfl))
  | ((with_reducible refine' k_nRng1 ?k1 ?k2 ?_); (case k1 => omega); (case k2 => omega))
  | ((with_reducible refine' k_nKw ?k1 ?k2 ?_); (case k1 => exact rfl); (case k2 => exact rfl))
  | ((with_reducible refine' k_hsm ?kh ?_); (case kh => walk_at "hs"))
  | ((with_reducible refine' k_nMethH ?kh ?kl ?_); (case kh => walk_at "hs"); (case kl => exact fun _ _ => rfl))
  | ((with_reducible refine' k_mLet ?kh ?_); (case kh => walk_at "ms"))
  | ((with_reducible refine' k_mChew ?kh ?_); (case kh => walk_at "ms"))
  | ((with_reducible refine' k_mPut ?kh ?_); (case kh => walk_at "ms"))
  | ((with_reducible refine' k_mMost ?kh ?_); (case kh => walk_at "ms"))
  | ((with_reducible refine' k_mCut ?kh ?_); (case kh => walk_at "ms"))
  | ((with_reducible refine' k_mTab ?kh ?_); (case kh => walk_at "md"))
  | ((with_reducible refine' k_mEats ?kh ?_); (case kh => walk_at "md"))
  | ((with_reducible refine' k_gtup ?ks ?kl ?_); (case ks => walk_at "st"); (case kl => exact rfl)))
local macro_rules | `(tactic| walk_at "g") => `(tactic| repeat (walk_at "g1"))
local macro_rules | `(tactic| walk_at "w1") => `(tactic| first
  | walk_at "g1"
  | ((with_reducible refine' k_decT ?kp ?_); (case kp => omega))
  | ((with_reducible refine' k_decF ?kp ?_); (case kp => omega))
  | ((with_reducible refine' k_decNT ?kp ?_); (case kp => omega))
  | ((with_reducible refine' k_decNF ?kp ?_); (case kp => omega)))
local macro_rules | `(tactic| walk_at "w") => `(tactic| repeat (walk_at "w1"))


section
variable {P : Program} {w : World} {K : PySem.W.Frag} {mg : Str → Option Value} {base : Heap} {f : Addr} {fd : FuncData}
/-! ### behind a lambda -/
theorem HsAt.ext {H H' : Hp} {a : Addr} {S : HsD} (s : ExtN H H') (h : HsAt K H a S) : HsAt K H' a S := by
  obtain ⟨dx, r, t, R, L, h1, h2, h3, h4, h5, h6, h7, h8, h9⟩ := h
  exact ⟨dx, r, t, R, L, s _ _ h1 (fun ps z => by cases z), ext_t s h2, fun q hq => ext_t s (h3 q hq), h4, ext_t s h5, fun q hq => ext_t s (h6 q hq), h7, h8, h9⟩
/-- the law's table of code objects -/
abbrev PtL (K : PySem.W.Frag) : Addr := (He.cT K ("law", none)).2
abbrev TbL (K : PySem.W.Frag) (H : Hp) : Prop := Tabs [(PtL K, (envOfC "law" (defScope s_law) 0 0 .none).qual ++ "<lambda>")] H
def spLawT (K : PySem.W.Frag) : Sp := fun vs H Q _ => ∃ (a : Addr) (ns : List Int), vs = [.ref a] ∧ SqL K H a (ns.map V.int) ∧ ns.length ≤ 63 ∧ H (PtL K) = some (.tbl #[]) ∧ ∀ H', Q (.bl true) H'
/-! ### the answer and the word of a refusal -/
structure WhyC (K : PySem.W.Frag) (C : Addr) : Prop where
  F : XfC K C
  nw : PySem.W.findIn K (.ref C) "word" = some none
  ca : PySem.W.exmOne K (.ref C) (.ref (He.ga K "GulpError")) = some true ∨ (PySem.W.exmOne K (.ref C) (.ref (He.ga K "GulpError")) = some false ∧ PySem.W.exmOne K (.ref C) (.ref (He.ga K "MissError")) = some true)
def EWhy (K : PySem.W.Frag) (Q : VK) : XK := fun cls dd H' => ∃ (C d : Addr) (fs : List (Str × V)) (z : Str), cls = .ref C ∧ WhyC K C ∧ dd = some d ∧ H' d = some (.xd fs) ∧ fs.lookup ("word" : Str) = some (.str z) ∧ ∀ T H2, H' T = none → Same H' H2 → H2 T = some (.tup [.non, .str z]) → Q (.ref T) H2
def TWhy (K : PySem.W.Frag) : (XK → Hp → VK → Prop) → Hp → VK → Prop := fun tl H Q => tl (EWhy K Q) H (fun v H' => ∀ T H2, H' T = none → Same H' H2 → H2 T = some (.tup [v, .str (Str.ofString "")]) → Q (.ref T) H2)
theorem k_why {t : XK → TE} {σ : L2.St} {H : Hp} {Q : VK} (h : t (EWhy K Q) σ H (fun v H' => ∀ T H2, H' T = none → Same H' H2 → H2 T = some (.tup [v, .str (Str.ofString "")]) → Q (.ref T) H2)) : TWhy K (fun E H' Q' => t E σ H' Q') H Q := h
theorem whyC1 {x : Str} {k : Nat} {nm fl : Str} (c : XCls P w K mg base x k nm fl) (h : PySem.W.exmOne K (.ref (He.ga K x)) (.ref (He.ga K "GulpError")) = some true) : WhyC K (He.ga K x) := ⟨c.O.F, c.nw, .inl h⟩
theorem whyC0 {x : Str} {k : Nat} {nm : Str} (c : XCls0 P w K mg base x k nm) (h : PySem.W.exmOne K (.ref (He.ga K x)) (.ref (He.ga K "GulpError")) = some true) : WhyC K (He.ga K x) := ⟨c.O.F, c.nw, .inl h⟩
theorem why_x1 {x : Str} {Q : VK} {H' : Hp} {d : Addr} {nm fl : Str} {v : V} (c : WhyC K (He.ga K x)) (hf : fl ≠ "word") (ed : H' d = some (.xd (xfs nm fl v))) (q : ∀ T H2, H' T = none → Same H' H2 → H2 T = some (.tup [.non, .str nm]) → Q (.ref T) H2) : EWhy K Q (.ref (He.ga K x)) (some d) H' := by
  refine ⟨_, d, _, nm, rfl, c, rfl, ed, ?_, q⟩
  unfold xfs
  rw [List.lookup_cons]
  rw [show (("word" : Str) == fl) = false from beq_false_of_ne fun z => hf z.symm]
  exact List.lookup_cons_self
theorem why_x0 {x : Str} {Q : VK} {H' : Hp} {d : Addr} {nm : Str} (c : WhyC K (He.ga K x)) (ed : H' d = some (.xd [("word", .str nm)])) (q : ∀ T H2, H' T = none → Same H' H2 → H2 T = some (.tup [.non, .str nm]) → Q (.ref T) H2) : EWhy K Q (.ref (He.ga K x)) (some d) H' := ⟨_, d, _, nm, rfl, c, rfl, ed, rfl, q⟩
theorem ok_Lwhy (F : FnP K "_law_why" s_Lwhy f fd) (hm : mg "_law_why" = some (.ref f)) (g_GulpError : mg "GulpError" = some (.ref (He.ga K "GulpError"))) (g_MissError : mg "MissError" = some (.ref (He.ga K "MissError"))) (g_NothingLeft : mg "NothingLeft" = some (.ref (He.ga K "NothingLeft"))) : CalleeA P w K mg base "_law_why" (TWhy K) := by
  refine CalleeA.of F hm sc_Lwhy (fun _ _ _ _ _ _ us hl => match us, hl with | [_], _ => rfl) rfl (.inl rfl) (fun cdv A outer q => fun f c' s H Q tl act hc h => ⟨_, PSs.nox (pss_cons (ps_set (i := 1) sc_Lwhy.nd rfl (by first | exact Or.inl rfl | exact Or.inr rfl) pe_non)
      (pss_cons (ps_set (i := 2) sc_Lwhy.nd rfl (by first | exact Or.inl rfl | exact Or.inr rfl) pe_str)
      (Evl.pss_cut (ps_try_manyAs (Wout := fun _ _ _ _ => False) rfl rfl sc_Lwhy.nd takes0
      (fun W pn xe tk po => (pss_one (ps_set (i := 1) sc_Lwhy.nd rfl (by first | exact Or.inl rfl | exact Or.inr rfl) (act W pn xe _ _ tk))))
      (.cons (i := 3) rfl rfl ⟨by rfl, by decide, Or.inl g_GulpError⟩ (fun a oe cls d pn hz hf => (pss_one (ps_set (i := 2) sc_Lwhy.nd rfl (by first | exact Or.inl rfl | exact Or.inr rfl) (pe_xfU K hz hf (pv 3)))))
      (.cons (i := 3) rfl rfl ⟨by rfl, by decide, Or.inl g_MissError⟩ (fun a oe cls d pn hz hf => (pss_one (ps_set (i := 2) sc_Lwhy.nd rfl (by first | exact Or.inl rfl | exact Or.inr rfl) (pe_xfU K hz hf (pv 3)))))
      (.cons (i := 3) rfl rfl ⟨by rfl, by decide, Or.inl g_NothingLeft⟩ (fun a oe cls d pn hz hf => (pss_one (ps_set (i := 2) sc_Lwhy.nd rfl (by first | exact Or.inl rfl | exact Or.inr rfl) (pe_xfU K hz hf (pv 3)))))
      .nil))))
      (pss_one (ps_ret (pe_tup (pa_cons (pv 1) (pa_cons (pv 2) pa_nil)))))))), ?rd⟩)
  case rd =>
    refine k_start (σ' := [some _, none, none, none]) rfl ?_
    walk_at "g"
    with_reducible refine k_cut (fun σ' H' => ∃ (v : V) (z : Str), σ' = [some (.ref f), some v, some (.str z), none] ∧ ∀ T H2, H' T = none → Same H' H2 → H2 T = some (.tup [v, .str z]) → Q (.ref T) H2) ?_ (fun σ' H' hq => ?_)
    · walk_at "g"
      refine ⟨rfl, hc, _, _, fun cls dd H' hE => ?_, fun v H' hQ => ?_, h⟩
      · obtain ⟨C, d, fs, z, rfl, wc, rfl, ed, el, hq⟩ := hE
        rcases wc.ca with h1 | ⟨h1, h2⟩
        · refine ⟨true, h1, fun _ a0 h0 => ?_, fun q => Bool.noConfusion q⟩
          walk_at "g"
          refine ⟨_, d, _, _, rfl, rfl, wc.F, wc.nw, rfl, ed, el, ?_⟩
          walk_at "g"
          exact ⟨_, _, rfl, hq⟩
        · refine ⟨false, h1, fun q => Bool.noConfusion q, fun _ => ⟨true, h2, fun _ a0 h0 => ?_, fun q => Bool.noConfusion q⟩⟩
          walk_at "g"
          refine ⟨_, d, _, _, rfl, rfl, wc.F, wc.nw, rfl, ed, el, ?_⟩
          walk_at "g"
          exact ⟨_, _, rfl, hq⟩
      · walk_at "g"
        exact ⟨_, _, rfl, hQ⟩
    · obtain ⟨v, z, rfl, hq⟩ := hq
      walk_at "g"
      refine k_nTup (by walk_at "sz") (fun T H2 n2 s2 e2 => ?_)
      exact hq T H2 n2 s2 e2
end
end Lw
set_option autoImplicit true
set_option pp.maxSteps 1200
set_option Elab.async false
set_option linter.all false
set_option maxRecDepth 100000
set_option maxHeartbeats 1000000
namespace Lw
open PySem PySem.Spec PyProof.Rows L2 Gk

local macro_rules | `(tactic| walk_at "hp") => `(tactic| first | assumption | exact upd_same | (refine' (upd_ne ?n).trans ?h; (case n => assumption); (case h => walk_at "hp")) | (refine' sm_get ?s ?h; (case s => assumption); (case h => walk_at "hp")))
local macro_rules | `(tactic| walk_at "sq") => `(tactic| first | assumption | (refine' sq_l ?h; (case h => walk_at "hp")) | (refine' sm_l ?s ?h; (case s => assumption); (case h => walk_at "sq")))
local macro_rules | `(tactic| walk_at "st") => `(tactic| first | assumption | (refine' sq_t ?h; (case h => walk_at "hp")) | (refine' sm_t ?s ?h; (case s => assumption); (case h => walk_at "st")))
local macro_rules | `(tactic| walk_at "bg") => `(tactic| first | assumption | (refine' BagOk.sm ?s ?h; (case s => assumption); (case h => walk_at "bg")))
local macro_rules | `(tactic| walk_at "sm") => `(tactic| first | assumption | exact Same.refl _ | (refine' Same.trans ?h ?s; (case s => assumption); (case h => walk_at "sm")))
local macro_rules | `(tactic| walk_at "hs") => `(tactic| first | assumption | (refine' HsAt.sm ?s ?h; (case s => assumption); (case h => walk_at "hs")))
local macro_rules | `(tactic| walk_at "ms") => `(tactic| first | assumption | (refine' MAt.sm ?s ?h; (case s => assumption); (case h => walk_at "ms")))
local macro_rules | `(tactic| walk_at "md") => `(tactic| first | assumption | (refine' MDk.sm ?s ?h; (case s => assumption); (case h => walk_at "md")))
local macro_rules | `(tactic| walk_at "dp") => `(tactic| first | assumption | (refine' dp_sm ?s ?h; (case s => assumption); (case h => walk_at "dp")))
local macro_rules | `(tactic| walk_at "sz") => `(tactic| first | decide | assumption | omega | (simp only [List.length_cons, List.length_nil, List.length_map, List.length_append]; omega))
local macro_rules | `(tactic| walk_at "g1") => `(tactic| first
  | with_reducible refine k_seq ?_
  | with_reducible refine k_itB ?_
  | with_reducible refine k_next ?_
  | with_reducible refine k_asg ?_
  | with_reducible refine k_name ?_
  | with_reducible refine k_ret ?_
  | with_reducible refine k_retN ?_
  | with_reducible refine k_drop ?_
  | with_reducible refine k_ifs ?_
  | with_reducible refine k_brk ?_
  | with_reducible refine k_cont ?_
  | with_reducible refine k_ipI ?_
  | with_reducible refine k_test ?_
  | with_reducible refine k_tB ?_
  | with_reducible refine k_bl ?_
  | with_reducible refine k_not ?_
  | with_reducible refine k_and ?_
  | with_reducible refine k_or ?_
  | with_reducible refine k_yes ?_
  | with_reducible refine k_true ?_
  | with_reducible refine k_false ?_
  | with_reducible refine k_nt ?_
  | with_reducible refine k_c ?_
  | with_reducible refine k_op ?_
  | with_reducible refine k_un ?_
  | with_reducible refine k_if ?_
  | with_reducible refine k_chain ?_
  | with_reducible refine k_nil ?_
  | with_reducible refine k_cons ?_
  | with_reducible refine k_cb ?_
  | with_reducible refine k_call ?_
  | with_reducible refine k_callS ?_
  | with_reducible refine k_andV ?_
  | with_reducible refine k_orV ?_
  | with_reducible refine k_notV ?_
  | with_reducible refine k_lst ?_
  | with_reducible refine k_tup ?_
  | with_reducible refine k_nopart ?_
  | with_reducible refine k_part ?_
  | with_reducible refine k_nInt ?_
  | with_reducible refine k_sl ?_
  | with_reducible refine k_bm ?_
  | with_reducible refine k_bm0 ?_
  | with_reducible refine k_nTyS ?_
  | with_reducible refine k_m1 ?_
  | with_reducible refine k_m0 ?_
  | with_reducible refine k_nStr ?_
  | with_reducible refine k_I0 ?_
  | with_reducible refine k_U ?_
  | with_reducible refine k_add_i ?_
  | with_reducible refine k_eq_i ?_
  | with_reducible refine k_eq_s ?_
  | with_reducible refine k_eq_b ?_
  | with_reducible refine k_ne_i ?_
  | with_reducible refine k_ne_s ?_
  | with_reducible refine k_ne_b ?_
  | with_reducible refine k_le_i ?_
  | with_reducible refine k_le_s ?_
  | with_reducible refine k_gnil ?_
  | with_reducible refine k_gcons ?_
  | with_reducible refine k_gsub ?_
  | with_reducible refine k_for ?_
  | with_reducible refine k_lc ?_
  | with_reducible refine k_rng1 ?_
  | with_reducible refine k_rng2 ?_
  | with_reducible refine k_itl ?_
  | with_reducible refine k_itt ?_
  | with_reducible refine k_its ?_
  | with_reducible refine k_ite ?_
  | with_reducible refine k_iteB ?_
  | with_reducible refine k_lrg2 ?_
  | with_reducible refine k_itz ?_
  | with_reducible refine k_nIts ?_
  | with_reducible refine k_inS ?_
  | with_reducible refine k_niS ?_
  | with_reducible refine k_mk ?_
  | with_reducible refine k_meth ?_
  | with_reducible refine k_fld ?_
  | with_reducible refine k_sfld ?_
  | with_reducible refine k_dg ?_
  | with_reducible refine k_dp ?_
  | with_reducible refine k_pr ?_
  | with_reducible refine k_pr0 ?_
  | with_reducible refine k_sg ?_
  | with_reducible refine k_lc2 ?_
  | with_reducible refine k_callN ?_
  | with_reducible refine k_callNS ?_
  | with_reducible refine k_par ?_
  | with_reducible refine k_nPar ?_
  | with_reducible refine k_isNn ?_
  | with_reducible refine k_isNr ?_
  | with_reducible refine k_ntNn ?_
  | with_reducible refine k_ntNr ?_
  | with_reducible refine k_min2 ?_
  | with_reducible refine k_max2 ?_
  | with_reducible refine k_intB ?_
  | with_reducible refine k_intI ?_
  | with_reducible refine k_isBl ?_
  | with_reducible refine k_ntBl ?_
  | ((with_reducible refine' k_var ?kv ?_); (case kv => exact rfl))
  | ((with_reducible refine' k_aug ?kv ?_); (case kv => exact rfl))
  | ((with_reducible refine' k_ix_l ?ks ?ki ?_); (case ks => walk_at "sq"); (case ki => exact rfl))
  | ((with_reducible refine' k_ix_t ?ks ?ki ?_); (case ks => walk_at "st"); (case ki => exact rfl))
  | ((with_reducible refine' k_len_l ?ks ?_); (case ks => walk_at "sq"))
  | ((with_reducible refine' k_len_t ?ks ?_); (case ks => walk_at "st"))
  | ((with_reducible refine' k_setL ?ks ?ki ?_); (case ks => walk_at "hp"); (case ki => exact rfl))
  | ((with_reducible refine' k_nTyL ?ks ?_); (case ks => walk_at "sq"))
  | ((with_reducible refine' k_nItl ?ks ?_); (case ks => walk_at "sq"))
  | ((with_reducible refine' k_nItt ?ks ?_); (case ks => walk_at "st"))
  | ((with_reducible refine' k_nIte ?ks ?_); (case ks => walk_at "sq"))
  | ((with_reducible refine' k_mul ?km ?_); (case km => first | exact Or.inr ⟨by decide, by decide⟩ | exact Or.inl ⟨by decide, by decide⟩))
  | ((with_reducible refine' k_I ?km ?_); (case km => first | assumption | decide | exact ⟨by decide, by decide +kernel⟩ | exact ⟨by decide, by decide, by decide⟩))
  | ((with_reducible refine' k_nMeth ?kp ?kl ?_); (case kp => walk_at "hp"); (case kl => exact rfl))
  | ((with_reducible refine' k_nFld ?kp ?kc ?kn ?kl ?_); (case kp => walk_at "hp"); (case kc => assumption); (case kn => assumption); (case kl => exact rfl))
  | ((with_reducible refine' k_nSFld ?kp ?kc ?kn ?kl ?_); (case kp => walk_at "hp"); (case kc => assumption); (case kn => assumption); (case kl => exact of_decide_eq_true rfl))
  | ((with_reducible refine' k_nDg ?kp ?kl ?_); (case kp => walk_at "hp"); (case kl => exact rfl))
  | ((with_reducible refine' k_nRng1 ?k1 ?k2 ?_); (case k1 => omega); (case k2 => omega))
  | ((with_reducible refine' k_nKw ?k1 ?k2 ?_); (case k1 => exact rfl); (case k2 => exact rfl))
  | ((with_reducible refine' k_hsm ?kh ?_); (case kh => walk_at "hs"))
  | ((with_reducible refine' k_nMethH ?kh ?kl ?_); (case kh => walk_at "hs"); (case kl => exact fun _ _ => rfl))
  | ((with_reducible refine' k_mLet ?kh ?_); (case kh => walk_at "ms"))
  | ((with_reducible refine' k_mChew ?kh ?_); (case kh => walk_at "ms"))
  | ((with_reducible refine' k_mPut ?kh ?_); (case kh => walk_at "ms"))
  | ((with_reducible refine' k_mMost ?kh ?_); (case kh => walk_at "ms"))
  | ((with_reducible refine' k_mCut ?kh ?_); (case kh => walk_at "ms"))
  | ((with_reducible refine' k_mTab ?kh ?_); (case kh => walk_at "md"))
  | ((with_reducible refine' k_mEats ?kh ?_); (case kh => walk_at "md"))
  | ((with_reducible refine' k_gtup ?ks ?kl ?_); (case ks => walk_at "st"); (case kl => exact rfl)))
local macro_rules | `(tactic| walk_at "g") => `(tactic| repeat (walk_at "g1"))
local macro_rules | `(tactic| walk_at "w1") => `(tactic| first
  | walk_at "g1"
  | ((with_reducible refine' k_decT ?kp ?_); (case kp => omega))
  | ((with_reducible refine' k_decF ?kp ?_); (case kp => omega))
  | ((with_reducible refine' k_decNT ?kp ?_); (case kp => omega))
  | ((with_reducible refine' k_decNF ?kp ?_); (case kp => omega)))
local macro_rules | `(tactic| walk_at "w") => `(tactic| repeat (walk_at "w1"))


section
variable {σ : L2.St} {H : Hp} {Q : VK} {te : TE} {tt : L2.TT} {g : TG} {n : Nat} {vs : List Nat} {J : It} {G : Hp → Prop} {Y : Nat → Hp → V → Hp → Prop}
/-- a comprehension whose values are told in the heap beside the new list, at its end too -/
theorem k_nLcE (wk : Walk J n G Y) (hG : ∀ H', Same H H' → G H') (Pv : Nat → List V → Hp → Prop) (h0 : Pv 0 [] H) (hz : ∀ i ws H1, i ≤ n → Pv i ws H1 → ws.length ≤ 50000)
    (hs : ∀ (i : Nat) (x : V) (p : Addr) (H1 H2 : Hp) (ws : List V) (Kp : VK) (Ks : Hp → Prop), i < n → H p = none → Same H H1 → H1 p = some (.lst ws) → Pv i ws (del H1 p) → Y i H1 x H2 → (∀ y H5, Same H1 H5 → Pv (i + 1) (ws ++ [y]) (del H5 p) → Kp y H5) → (∀ H5, Same H1 H5 → Pv (i + 1) ws (del H5 p) → Ks H5) →
      g x (wipe σ vs) H2 fun σ2 H3 => wipe σ2 vs = wipe σ vs ∧ tt σ2 H3 fun b H4 => nIte b (te σ2 H4 Kp) (Ks H4))
    (hd : ∀ (p : Addr) (H' : Hp) (ws : List V), H p = none → Same H H' → H' p = some (.lst ws) → Pv n ws (del H' p) → Q (.ref p) H') : nLc J g tt te vs σ H Q := by
  intro p hp
  refine lc_it wk (fun i H' => ∃ ws : List V, Same H H' ∧ H' p = some (.lst ws) ∧ Pv i ws (del H' p)) ⟨[], sm_new hp, upd_same, by rw [del_upd, del_none hp]; exact h0⟩ (fun i H' _ h => ?_) (fun i x H1 H2 hi h hy => ?_) (fun H' h => ?_)
  · obtain ⟨ws, s1, _⟩ := h
    exact hG H' s1
  · obtain ⟨ws, s1, e1, q1⟩ := h
    exact hs i x p H1 H2 ws _ _ hi hp s1 e1 q1 hy (fun y H5 s5 q5 => ⟨ws, s5 p _ e1, sz_lt (by have := hz i ws _ (by omega) q1; omega), ws ++ [y], sm_mut (s1.trans s5) hp, upd_same, by rw [del_upd]; exact q5⟩) (fun H5 s5 q5 => ⟨ws, s1.trans s5, s5 p _ e1, q5⟩)
  · obtain ⟨ws, s1, e1, q1⟩ := h
    exact hd p H' ws hp s1 e1 q1
end
section
variable {P : Program} {w : World} {K : PySem.W.Frag} {mg : Str → Option Value} {base : Heap} {f : Addr} {fd : FuncData}
/-! ### a round bent -/
/-- lists of which each is new and stands alone -/
def NwLs (H0 H : Hp) (ps : List Addr) (cs : List (List V)) : Prop := ps.Nodup ∧ Paired (fun p c => H0 p = none ∧ H p = some (.lst c)) ps cs
theorem NwLs.sm {H0 H H' : Hp} {ps : List Addr} {cs : List (List V)} (s : Same H H') (h : NwLs H0 H ps cs) : NwLs H0 H' ps cs := ⟨h.1, by
  have := h.2
  clear h
  induction this with
  | nil => exact .nil
  | cons r t ih => exact .cons ⟨r.1, s _ _ r.2⟩ ih⟩
theorem NwLs.in {H0 H : Hp} : ∀ {ps : List Addr} {cs : List (List V)}, Paired (fun p c => H0 p = none ∧ H p = some (.lst c)) ps cs → ∀ q ∈ ps, ∃ c, H q = some (.lst c)
  | _, _, .cons r t, q, hq => by
    rcases List.mem_cons.mp hq with rfl | hq
    · exact ⟨_, r.2⟩
    · exact NwLs.in t q hq
theorem NwLs.len {H0 H : Hp} : ∀ {ps : List Addr} {cs : List (List V)}, Paired (fun p c => H0 p = none ∧ H p = some (.lst c)) ps cs → ps.length = cs.length
  | _, _, .nil => rfl
  | _, _, .cons _ t => congrArg (· + 1) (NwLs.len t)
theorem NwLs.snoc {H0 H : Hp} {ps : List Addr} {cs : List (List V)} {p : Addr} {c : List V} (h : NwLs H0 H ps cs) (n0 : H0 p = none) (e : H p = some (.lst c)) (n : p ∉ ps) : NwLs H0 H (ps ++ [p]) (cs ++ [c]) := ⟨List.nodup_append.mpr ⟨h.1, List.pairwise_singleton _ _, fun a ha b hb => by
  rw [List.mem_singleton.mp hb]
  exact fun z => n (by rw [← z]; exact ha)⟩, by
  have := h.2
  clear h
  induction this with
  | nil => exact .cons ⟨n0, e⟩ .nil
  | cons r t ih => exact .cons r (ih fun z => n (List.mem_cons_of_mem _ z))⟩
/-- the round while it is bent -/
structure Br (K : PySem.W.Frag) (H0 H : Hp) (S : HsD) (pL q1 q2 q3 q4 : Addr) (bs1 bs2 : List Bt) (a c : Rw) : Prop where
  s : Same H0 H
  l : H pL = some (.lst [.ref q1, .ref q2, .ref q3, .ref q4])
  t : Told4 K H S q1 q2 q3 q4 bs1 bs2 a c
  nL : H0 pL = none
  n1 : H0 q1 = none
  dL : q1 ≠ pL ∧ q2 ≠ pL ∧ q3 ≠ pL ∧ q4 ≠ pL
  d1 : q2 ≠ q1 ∧ q3 ≠ q1 ∧ q4 ≠ q1
  p1 : ∀ b ∈ bs1, b.1 ≤ 100000
  lb : bs1.length ≤ 300 ∧ bs2.length ≤ 800 ∧ a.length ≤ 601 ∧ c.length ≤ 601
theorem Br.sm {H0 H H' : Hp} {S : HsD} {pL q1 q2 q3 q4 : Addr} {bs1 bs2 : List Bt} {a c : Rw} (s : Same H H') (h : Br K H0 H S pL q1 q2 q3 q4 bs1 bs2 a c) : Br K H0 H' S pL q1 q2 q3 q4 bs1 bs2 a c := ⟨h.s.trans s, s _ _ h.l, h.t.sm s, h.nL, h.n1, h.dL, h.d1, h.p1, h.lb⟩
theorem dbts_to {H H' : Hp} (k : ∀ a xs, SqT K H a xs → SqT K H' a xs) : ∀ {ws : List V} {bs : List Bt}, DpAll K H ws (bs.map dBt) → DpAll K H' ws (bs.map dBt)
  | [], [], _ => .nil
  | _, [], .nil => .nil
  | _, b :: bs, .cons h t => by
    obtain ⟨a, rfl, ha⟩ := dp_btI h
    exact .cons (.tup (k _ _ ha) (.cons (.int _) (.cons (.str _) .nil))) (dbts_to k t)
/-- another list in the place of one -/
theorem told_lst {H : Hp} {S : HsD} {pL q1 q2 q3 q4 : Addr} {bs1 bs2 : List Bt} {a c : Rw} {xs : List V} {o : HO} (hp : H pL = some (.lst xs)) (d : q1 ≠ pL ∧ q2 ≠ pL ∧ q3 ≠ pL ∧ q4 ≠ pL) (h : Told4 K H S q1 q2 q3 q4 bs1 bs2 a c) : Told4 K (L2.upd H pL o) S q1 q2 q3 q4 bs1 bs2 a c := by
  obtain ⟨d1, d2, d3, d4⟩ := d
  have key : ∀ {ws : List V} {bs : List Bt}, DpAll K H ws (bs.map dBt) → DpAll K (L2.upd H pL o) ws (bs.map dBt) := fun h => dbts_to (fun _ _ h => t_lst hp h) h
  obtain ⟨ws1, x1, x2⟩ := h.h1
  obtain ⟨ws2, y1, y2⟩ := h.h2
  exact ⟨⟨ws1, (upd_ne d1).trans x1, key x2⟩, ⟨ws2, (upd_ne d2).trans y1, key y2⟩, (upd_ne d3).trans h.h3, (upd_ne d4).trans h.h4, h.wa, h.wc, h.l1, h.l2, h.la, h.lc, h.pl⟩
def spBentR (K : PySem.W.Frag) : Sp := fun vs H Q _ => ∃ (b T p1 p2 p3 p4 : Addr) (w0 : V) (u : List Nat) (S : HsD) (bs1 bs2 : List Bt) (a c : Rw), vs = [.ref b, .ref T, .str (tx u)] ∧ BagOk H b ∧ HsOk S ∧ AllW S [u] ∧ SqT K H T [w0, .ref p1, .ref p2, .ref p3, .ref p4] ∧ Told4 K H S p1 p2 p3 p4 bs1 bs2 a c ∧ (∀ b ∈ bs1, b.1 ≤ 50000) ∧ (bs1.length ≤ 300 ∧ bs2.length ≤ 400 ∧ a.length ≤ 600 ∧ c.length ≤ 600) ∧
  ∀ T' q1 q2 q3 q4 bs1' bs2' a' c' H', Same H H' → H' T' = some (.tup [.str (Str.ofString "round"), .ref q1, .ref q2, .ref q3, .ref q4]) → Told4 K H' S q1 q2 q3 q4 bs1' bs2' a' c' → (∀ b ∈ bs1', b.1 ≤ 100000) → (a'.length ≤ 601 ∧ c'.length ≤ 601) → Q (.ref T') H'
theorem cut_1 (a b c d e : V) : cutV [a, b, c, d, e] (some 1) none = [b, c, d, e] := rfl
theorem four_get {H : Hp} {p1 p2 p3 p4 : Addr} {c1 c2 c3 c4 : List V} (e1 : H p1 = some (.lst c1)) (e2 : H p2 = some (.lst c2)) (e3 : H p3 = some (.lst c3)) (e4 : H p4 = some (.lst c4)) : ∀ {i : Nat} {v : V}, [V.ref p1, .ref p2, .ref p3, .ref p4][i]? = some v → ∃ p c, v = .ref p ∧ [c1, c2, c3, c4][i]? = some c ∧ H p = some (.lst c)
  | 0, _, h => by cases h; exact ⟨p1, c1, rfl, rfl, e1⟩
  | 1, _, h => by cases h; exact ⟨p2, c2, rfl, rfl, e2⟩
  | 2, _, h => by cases h; exact ⟨p3, c3, rfl, rfl, e3⟩
  | 3, _, h => by cases h; exact ⟨p4, c4, rfl, rfl, e4⟩
  | n + 4, _, h => by simp at h
theorem dpl_drop {H : Hp} : ∀ {vs : List V} {ds : List PyData} (_ : DpAll K H vs ds) (n : Nat), DpAll K H (vs.drop n) (ds.drop n)
  | _, _, h, 0 => h
  | _, _, .nil, n + 1 => .nil
  | _, _, .cons a r, n + 1 => dpl_drop r n
theorem Br.set1 {H0 H' H : Hp} {S : HsD} {pL q1 q2 q3 q4 p9 : Addr} {bs1 bs2 bs9 : List Bt} {a c : Rw} {ws : List V} (h : Br K H0 H' S pL q1 q2 q3 q4 bs1 bs2 a c) (s : Same H' H) (n9 : H' p9 = none) (e9 : H p9 = some (.lst ws)) (d9 : DpAll K H ws (bs9.map dBt)) (l9 : bs9.length ≤ 300) (b9 : ∀ b ∈ bs9, b.1 ≤ 100000) : Br K H0 (L2.upd H pL (.lst [.ref p9, .ref q2, .ref q3, .ref q4])) S pL p9 q2 q3 q4 bs9 bs2 a c := by
  have hL := s _ _ h.l
  obtain ⟨ws2, y1, y2⟩ := h.t.h2
  have hne : ∀ {q : Addr} {o : HO}, H' q = some o → q ≠ p9 := fun e z => by rw [z, n9] at e; cases e
  have nL : p9 ≠ pL := fun z => hne h.l z.symm
  have t : Told4 K H S p9 q2 q3 q4 bs9 bs2 a c := ⟨⟨ws, e9, d9⟩, (h.t.sm s).h2, s _ _ h.t.h3, s _ _ h.t.h4, h.t.wa, h.t.wc, by omega, h.t.l2, h.t.la, h.t.lc, h.t.pl⟩
  exact ⟨sm_mut (h.s.trans s) h.nL, upd_same, told_lst hL ⟨nL, h.dL.2⟩ t, h.nL, h.s.free n9, ⟨nL, h.dL.2⟩, ⟨hne y1, hne h.t.h3, hne h.t.h4⟩, b9, ⟨l9, h.lb.2⟩⟩
theorem Br.set2 {H0 H' H : Hp} {S : HsD} {pL q1 q2 q3 q4 p9 : Addr} {bs1 bs2 bs9 : List Bt} {a c : Rw} {ws : List V} (h : Br K H0 H' S pL q1 q2 q3 q4 bs1 bs2 a c) (s : Same H' H) (n9 : H' p9 = none) (e9 : H p9 = some (.lst ws)) (d9 : DpAll K H ws (bs9.map dBt)) (l9 : bs9.length ≤ 800) (b9 : ∀ b ∈ bs9, b.1 ≤ 100000) : Br K H0 (L2.upd H pL (.lst [.ref q1, .ref p9, .ref q3, .ref q4])) S pL q1 p9 q3 q4 bs1 bs9 a c := by
  have hL := s _ _ h.l
  obtain ⟨ws1, x1, x2⟩ := h.t.h1
  have hne : ∀ {q : Addr} {o : HO}, H' q = some o → q ≠ p9 := fun e z => by rw [z, n9] at e; cases e
  have nL : p9 ≠ pL := fun z => hne h.l z.symm
  have dL := h.dL
  have t : Told4 K H S q1 p9 q3 q4 bs1 bs9 a c := ⟨(h.t.sm s).h1, ⟨ws, e9, d9⟩, s _ _ h.t.h3, s _ _ h.t.h4, h.t.wa, h.t.wc, h.t.l1, l9, h.t.la, h.t.lc, b9⟩
  exact ⟨sm_mut (h.s.trans s) h.nL, upd_same, told_lst hL ⟨dL.1, nL, dL.2.2⟩ t, h.nL, h.n1, ⟨dL.1, nL, dL.2.2⟩, ⟨fun z => hne x1 z.symm, h.d1.2⟩, h.p1, ⟨h.lb.1, l9, h.lb.2.2⟩⟩
theorem Br.set3 {H0 H' H : Hp} {S : HsD} {pL q1 q2 q3 q4 p9 : Addr} {bs1 bs2 : List Bt} {a a9 c : Rw} (h : Br K H0 H' S pL q1 q2 q3 q4 bs1 bs2 a c) (s : Same H' H) (n9 : H' p9 = none) (e9 : H p9 = some (.lst (tS a9))) (w9 : AllW S a9) (l9 : a9.length ≤ 601) : Br K H0 (L2.upd H pL (.lst [.ref q1, .ref q2, .ref p9, .ref q4])) S pL q1 q2 p9 q4 bs1 bs2 a9 c := by
  have hL := s _ _ h.l
  obtain ⟨ws1, x1, x2⟩ := h.t.h1
  have hne : ∀ {q : Addr} {o : HO}, H' q = some o → q ≠ p9 := fun e z => by rw [z, n9] at e; cases e
  have nL : p9 ≠ pL := fun z => hne h.l z.symm
  have dL := h.dL
  have t : Told4 K H S q1 q2 p9 q4 bs1 bs2 a9 c := ⟨(h.t.sm s).h1, (h.t.sm s).h2, e9, s _ _ h.t.h4, w9, h.t.wc, h.t.l1, h.t.l2, by omega, h.t.lc, h.t.pl⟩
  exact ⟨sm_mut (h.s.trans s) h.nL, upd_same, told_lst hL ⟨dL.1, dL.2.1, nL, dL.2.2.2⟩ t, h.nL, h.n1, ⟨dL.1, dL.2.1, nL, dL.2.2.2⟩, ⟨h.d1.1, fun z => hne x1 z.symm, h.d1.2.2⟩, h.p1, ⟨h.lb.1, h.lb.2.1, l9, h.lb.2.2.2⟩⟩
theorem Br.mut1 {H0 H : Hp} {S : HsD} {pL q1 q2 q3 q4 : Addr} {bs1 bs2 bs9 : List Bt} {a c : Rw} {xs ws : List V} (h : Br K H0 H S pL q1 q2 q3 q4 bs1 bs2 a c) (e1 : H q1 = some (.lst xs)) (d9 : DpAll K (L2.upd H q1 (.lst ws)) ws (bs9.map dBt)) (l9 : bs9.length ≤ 300) (b9 : ∀ b ∈ bs9, b.1 ≤ 100000) : Br K H0 (L2.upd H q1 (.lst ws)) S pL q1 q2 q3 q4 bs9 bs2 a c := by
  obtain ⟨d1, d2, d3⟩ := h.d1
  obtain ⟨ws2, y1, y2⟩ := h.t.h2
  exact ⟨sm_mut h.s h.n1, (upd_ne h.dL.1.symm).trans h.l, ⟨⟨ws, upd_same, d9⟩, ⟨ws2, (upd_ne d1).trans y1, dbts_to (fun _ _ h => t_lst e1 h) y2⟩, (upd_ne d2).trans h.t.h3, (upd_ne d3).trans h.t.h4, h.t.wa, h.t.wc, by omega, h.t.l2, h.t.la, h.t.lc, h.t.pl⟩, h.nL, h.n1, h.dL, h.d1, b9, ⟨l9, h.lb.2⟩⟩
def BrM (K : PySem.W.Frag) (H : Hp) (S : HsD) (b T : Addr) (u : List Nat) (n0 : Int) (X : List Bt → List Bt → Rw → Rw → Prop) (σ' : L2.St) (H' : Hp) : Prop := ∃ pL q1 q2 q3 q4 bs1 bs2 a c y5 y6 y7, σ' = [some (.ref b), some (.ref T), some (.str (tx u)), some (.ref pL), some (.int n0), y5, y6, y7, none] ∧ Br K H H' S pL q1 q2 q3 q4 bs1 bs2 a c ∧ X bs1 bs2 a c
abbrev X0 : List Bt → List Bt → Rw → Rw → Prop := fun bs1 bs2 a c => (∀ b ∈ bs1, b.1 ≤ 50000) ∧ bs2.length ≤ 400 ∧ a.length ≤ 600 ∧ c.length ≤ 600
abbrev X1 : List Bt → List Bt → Rw → Rw → Prop := fun bs1 bs2 a c => (∀ b ∈ bs1, b.1 ≤ 50000) ∧ a.length ≤ 600 ∧ c.length ≤ 600
abbrev X2 : List Bt → List Bt → Rw → Rw → Prop := fun bs1 _ _ _ => ∀ b ∈ bs1, b.1 ≤ 50000
abbrev X3 : List Bt → List Bt → Rw → Rw → Prop := fun _ _ _ _ => True
theorem rem_dp {H : Hp} {ws : List V} {bs : List Bt} (d : DpAll K H ws (bs.map dBt)) (k : Nat) : DpAll K H (ws.take k ++ ws.drop (k + 1)) ((bs.take k ++ bs.drop (k + 1)).map dBt) := by
  rw [List.map_append, List.map_take, List.map_drop]
  exact dpall_apps (dpall_take d k) (dpl_drop d (k + 1))
theorem rem_in {bs : List Bt} {k : Nat} {b : Bt} (h : b ∈ bs.take k ++ bs.drop (k + 1)) : b ∈ bs := by
  rcases List.mem_append.mp h with h | h
  · exact List.mem_of_mem_take h
  · exact List.mem_of_mem_drop h
theorem rem_len (bs : List Bt) (k : Nat) : (bs.take k ++ bs.drop (k + 1)).length ≤ bs.length := by
  rw [List.length_append, List.length_take, List.length_drop]
  omega
theorem snoc_of {α : Type} : ∀ {l : List α}, l ≠ [] → ∃ i x, l = i ++ [x]
  | [], h => absurd rfl h
  | [a], _ => ⟨[], a, rfl⟩
  | a :: b :: r, _ => by
    obtain ⟨i, x, e⟩ := snoc_of (l := b :: r) (fun z => nomatch z)
    exact ⟨a :: i, x, by rw [e]; rfl⟩
theorem dpall_snocI {H : Hp} : ∀ {ws : List V} {ds : List PyData} {d : PyData}, DpAll K H ws (ds ++ [d]) → ∃ vs v, ws = vs ++ [v] ∧ DpAll K H vs ds ∧ Dp K H v d
  | _, [], _, .cons h .nil => ⟨[], _, rfl, .nil, h⟩
  | _, _ :: ds, _, .cons h t => by
    obtain ⟨vs, v, rfl, h1, h2⟩ := dpall_snocI (ds := ds) t
    exact ⟨_ :: vs, v, rfl, .cons h h1, h2⟩
theorem ok_Lbent_round (F : FnP K "_law_bent_round" s_Lbent_round f fd) (hm : mg "_law_bent_round" = some (.ref f)) (f_list : mg "list" = none) (f_len : mg "len" = none) (c_Lpull : Callee P w K mg base CX0 "_law_pull" 1 [] spPull) : Callee P w K mg base CX0 "_law_bent_round" 2 [] (spBentR K) := by
  refine ⟨f, fd, _, [], F.ok sc_Lbent_round (fun vs H Q E h => ?hl) (fun cdv A outer s H vs Q E hr h => ⟨_, PSs.nox (pss_cons (ps_setLc (i := 3) (own := [("_law_one_here", 8)]) rfl sc_Lbent_round.nd rfl rfl (sw_true rfl rfl rfl (by decide +kernel)) (pi_tupK K (pe_slice (sl_k K) (pv 1) (po_some pe_int) po_none)) (blkOk_by (N := ["_law_bag_here", "_law_told", "_law_word_in", "_law_lists", "_law_fork", "_law_at", "_law_place", "_law_edge", "_law_one_here"]) (sc := defScope s_Lbent_round) (by decide +kernel)) (fun _ _ _ _ _ => (pg_name (i := 8) sc_Lbent_round.nd rfl (by first | exact Or.inl rfl | exact Or.inr rfl))) (fun _ _ _ _ _ => pts_nil) (fun _ _ _ _ _ => (pe_callTy (call_listK K) (by rfl) f_list (by decide +kernel) (pa_cons (pv 8) pa_nil))))
      (pss_cons (ps_set (i := 4) sc_Lbent_round.nd rfl (by first | exact Or.inl rfl | exact Or.inr rfl) (pe_cl c_Lpull hr (pa_cons (pv 0) (pa_cons pe_int pa_nil)) pass0))
      (Evl.pss_cut (ps_if (PW.pt (pw_and (pt_cmpR op_lt (pv 4) pe_int (nomark _)) (pw_and1 (pt_cmpR (op_neK K hr.units) (pe_ix (ix_k K) (pv 3) (pv 4) (fun _ _ => rfl)) (pe_lst pa_nil) (nomark _))))) (pss_cons (ps_set (i := 5) sc_Lbent_round.nd rfl (by first | exact Or.inl rfl | exact Or.inr rfl) (pe_cl c_Lpull hr (pa_cons (pv 0) (pa_cons (pe_callB (call_lenK K) (by rfl) f_len PySem.boot_len (pa_cons (pe_ix (ix_k K) (pv 3) (pv 4) (fun _ _ => rfl)) pa_nil)) pa_nil)) pass0))
      (pss_one (ps_asg (pe_op (op_addK K) (pe_slice (sl_k K) (pe_ix (ix_k K) (pv 3) (pv 4) (fun _ _ => rfl)) po_none (po_some (pv 5))) (pe_slice (sl_k K) (pe_ix (ix_k K) (pv 3) (pv 4) (fun _ _ => rfl)) (po_some (pe_op (op_addK K) (pv 5) pe_int)) po_none)) (pg_sub (pv 3) (pv 4) set_list)))) pss_nil)
      (Evl.pss_cut (ps_if (pt_cmpR (op_eqK K hr.units) (pv 4) pe_int (nomark _)) (pss_one (ps_asg (pe_op (op_addK K) (pe_ix (ix_k K) (pv 3) pe_int (fun _ _ => rfl)) (pe_ix (ix_k K) (pv 3) pe_int (fun _ _ => rfl))) (pg_sub (pv 3) pe_int set_list))) pss_nil)
      (Evl.pss_cut (ps_if (pt_cmpR (op_eqK K hr.units) (pv 4) pe_int (nomark _)) (pss_one (ps_asg (pe_op (op_addK K) (pe_ix (ix_k K) (pv 3) pe_int (fun _ _ => rfl)) (pe_lst (pa_cons (pv 2) pa_nil))) (pg_sub (pv 3) pe_int set_list))) pss_nil)
      (Evl.pss_cut (ps_if (pt_cmpR (op_eqK K hr.units) (pv 4) pe_int (nomark _)) (pss_one (ps_set (i := 3) sc_Lbent_round.nd rfl (by first | exact Or.inl rfl | exact Or.inr rfl) (pe_lst (pa_cons (pe_ix (ix_k K) (pv 3) pe_int (fun _ _ => rfl)) (pa_cons (pe_ix (ix_k K) (pv 3) pe_int (fun _ _ => rfl)) (pa_cons (pe_ix (ix_k K) (pv 3) pe_int (fun _ _ => rfl)) (pa_cons (pe_ix (ix_k K) (pv 3) pe_int (fun _ _ => rfl)) pa_nil))))))) pss_nil)
      (Evl.pss_cut (ps_if (PW.pt (pw_and (pt_cmpR (op_eqK K hr.units) (pv 4) pe_int (nomark _)) (pw_and1 (pt_cmpR (op_neK K hr.units) (pe_ix (ix_k K) (pv 3) pe_int (fun _ _ => rfl)) (pe_lst pa_nil) (nomark _))))) (pss_cons (ps_asg (pe_bm0Z K PySem.F.plainAttrs_list PySem.F.slot_list_pop PySem.F.type_list_pop L2.mt_pop (pe_ix (ix_k K) (pv 3) pe_int (fun _ _ => rfl))) (pg_tupK K 2 (by rfl) (pgs_cons (pg_name (i := 6) sc_Lbent_round.nd rfl (by first | exact Or.inl rfl | exact Or.inr rfl)) (pgs_cons (pg_name (i := 7) sc_Lbent_round.nd rfl (by first | exact Or.inl rfl | exact Or.inr rfl)) pgs_nil))))
      (pss_one (ps_expr (pe_bmK K PySem.F.plainAttrs_list PySem.F.slot_list_append PySem.F.type_list_append mt_append (pe_ix (ix_k K) (pv 3) pe_int (fun _ _ => rfl)) (pa_cons (pe_tup (pa_cons (pe_op (op_addK K) (pv 6) pe_int) (pa_cons (pv 7) pa_nil))) pa_nil))))) pss_nil)
      (Evl.pss_cut (ps_if (pt_cmpR (op_eqK K hr.units) (pv 4) pe_int (nomark _)) (pss_one (ps_asg (pe_lst pa_nil) (pg_sub (pv 3) pe_int set_list))) pss_nil)
      (pss_one (ps_ret (pe_tup (pa_cons pe_str (pa_cons (pe_ix (ix_k K) (pv 3) pe_int (fun _ _ => rfl)) (pa_cons (pe_ix (ix_k K) (pv 3) pe_int (fun _ _ => rfl)) (pa_cons (pe_ix (ix_k K) (pv 3) pe_int (fun _ _ => rfl)) (pa_cons (pe_ix (ix_k K) (pv 3) pe_int (fun _ _ => rfl)) pa_nil)))))))))))))))), ?rd⟩), hm, F.kp, F.bindsN fun _ _ _ _ _ _ us hl => match us, hl with | [_, _, _], _ => rfl, .nil⟩
  case hl =>
    obtain ⟨b, T, p1, p2, p3, p4, w0, u, S, bs1, bs2, a, c, rfl, _⟩ := h
    rfl
  case rd =>
    obtain ⟨b, T, p1, p2, p3, p4, w0, u, S, bs1, bs2, a, c, rfl, hb, ok, hu, hT, h4, hp1, ⟨lb1, lb2, lba, lbc⟩, q⟩ := h
    refine k_start (σ' := [some _, some _, some _, none, none, none, none, none, none]) rfl ?_
    obtain ⟨ws1, x1, x2⟩ := h4.h1
    obtain ⟨ws2, y1, y2⟩ := h4.h2
    walk_at "g"
    refine k_sl_t hT (fun Tc H1 s1 e1 => ?_)
    rw [cut_1] at e1
    walk_at "g"
    refine k_nLcE (walk_tup (xs := [V.ref p1, .ref p2, .ref p3, .ref p4])) (fun H' s => sm_t s e1) (fun i zs H' => ∃ ps : List Addr, zs = ps.map V.ref ∧ NwLs H H' ps ([ws1, ws2, tS a, tS c].take i)) ⟨[], rfl, List.nodup_nil, .nil⟩ (fun i zs Ha hi h => ?hz) (fun i v p Ha Hb zs Kp Ks hi hpn sa epx hzs hy hKp hKs => ?ht) (fun pL H2 zs nL s2 e2 hzs => ?he)
    case hz =>
      obtain ⟨ps, rfl, hps⟩ := h
      have := NwLs.len hps.2
      rw [List.length_map, this, List.length_take]
      show min i 4 ≤ _
      omega
    case ht =>
      obtain ⟨ps, rfl, hps⟩ := hzs
      obtain ⟨rfl, hv⟩ := hy
      have s1b := s1.trans sa
      obtain ⟨p0, c0, rfl, hc, hp0⟩ := four_get (s1b _ _ x1) (s1b _ _ y1) (s1b _ _ h4.h3) (s1b _ _ h4.h4) hv
      walk_at "g"
      refine ⟨rfl, ?_⟩
      walk_at "g"
      refine k_list_l (sq_l hp0) (fun pn H5 n5 s5 e5 => ?_)
      have npn : pn ≠ p := fun z => by rw [z, epx] at n5; cases n5
      refine hKp _ _ s5 ⟨ps ++ [pn], by rw [List.map_append]; rfl, ?_⟩
      rw [take_more hc]
      refine (NwLs.sm (del_mono s5) hps).snoc (s1b.free n5) ((del_ne npn).trans e5) (fun hin => ?_)
      obtain ⟨c, hc2⟩ := NwLs.in hps.2 pn hin
      have := (sm_del (H := Hb) (p := p)) _ _ hc2
      rw [n5] at this
      cases this
    case he =>
      obtain ⟨ps, rfl, hnd, hps⟩ := hzs
      rw [show [ws1, ws2, tS a, tS c].take ([V.ref p1, .ref p2, .ref p3, .ref p4].length) = [ws1, ws2, tS a, tS c] from rfl] at hps
      cases hps with
      | cons g1 hps =>
      cases hps with
      | cons g2 hps =>
      cases hps with
      | cons g3 hps =>
      cases hps with
      | cons g4 hps =>
      cases hps
      rename_i q1 q2 q3 q4
      have nd : ∀ {q : Addr} {c : List V}, (del H2 pL) q = some (.lst c) → q ≠ pL ∧ H2 q = some (.lst c) := fun {q c} e => by
        refine ⟨fun z => ?_, sm_del _ _ e⟩
        rw [z] at e
        unfold del at e
        rw [if_pos rfl] at e
        cases e
      have s12 := s1.trans s2
      obtain ⟨dL1, k1⟩ := nd g1.2
      obtain ⟨dL2, k2⟩ := nd g2.2
      obtain ⟨dL3, k3⟩ := nd g3.2
      obtain ⟨dL4, k4⟩ := nd g4.2
      have hnd1 := (List.nodup_cons.mp hnd).1
      have dd : q2 ≠ q1 ∧ q3 ≠ q1 ∧ q4 ≠ q1 := ⟨fun z => hnd1 (by rw [← z]; simp), fun z => hnd1 (by rw [← z]; simp), fun z => hnd1 (by rw [← z]; simp)⟩
      have hBr : Br K H H2 S pL q1 q2 q3 q4 bs1 bs2 a c := ⟨s12, e2, ⟨⟨ws1, k1, dpall_sm s12 x2⟩, ⟨ws2, k2, dpall_sm s12 y2⟩, k3, k4, h4.wa, h4.wc, h4.l1, h4.l2, h4.la, h4.lc, h4.pl⟩, s1.free nL, g1.1, ⟨dL1, dL2, dL3, dL4⟩, dd, fun b hb => by have := hp1 b hb; omega, ⟨lb1, by omega, by omega, by omega⟩⟩
      have hX0 : X0 bs1 bs2 a c := ⟨hp1, lb2, lba, lbc⟩
      clear hnd hnd1 g1 g2 g3 g4 k1 k2 k3 k4 dd dL1 dL2 dL3 dL4 nd e2 x1 x2 y1 y2 h4 hT e1
      generalize bs1 = bs1 at *
      walk_at "g"
      refine k_pull (hb.sm s12) (by omega) (by omega) (fun n0 h0 h1 => ?_)
      walk_at "g"
      -- a bite out
      with_reducible refine k_cut (BrM K H S b T u n0 X0) ?_ (fun σ' H' h => ?_)
      · have epL := sq_l (K := K) hBr.l
        obtain ⟨ws1, x1, x2⟩ := hBr.t.h1
        obtain ⟨ws2, y1, y2⟩ := hBr.t.h2
        have lw1 := dpall_len x2
        have lw2 := dpall_len y2
        rw [List.length_map] at lw1 lw2
        have x1s := sq_l (K := K) x1
        have y1s := sq_l (K := K) y1
        walk_at "g"
        refine k_dec (fun d => ?_) (fun d => ?_)
        · have : n0 = 0 ∨ n0 = 1 := by omega
          rcases this with rfl | rfl
          · walk_at "g"
            refine k_nLst (by walk_at "sz") (fun p5 H3 n3 s3 e3 => ?_)
            have x13 := sm_l s3 x1s
            have epL3 := sm_l s3 epL
            refine k_ne_d (.lst x13 (dpall_sm s3 x2)) (.lst (sq_l e3) .nil) ((good_dbts hBr.p1 (by omega) 1).shaped (by decide)) (by decide) ?_
            rw [eqv_nil, dbts_nil]
            walk_at "g"
            refine k_dec (fun d2 => ?_) (fun d2 => ?_)
            · walk_at "g"
              exact ⟨pL, q1, q2, q3, q4, bs1, bs2, a, c, _, _, _, rfl, hBr.sm s3, hX0⟩
            · have : 0 < bs1.length := List.length_pos_iff.mpr d2
              walk_at "g"
              refine k_pull (hb.sm (s12.trans s3)) (by omega) (by omega) (fun n1 g0 g1 => ?_)
              walk_at "g"
              refine k_sl_l x13 (fun p6 H4 n4 s4 e4 => ?_)
              have x14 := sm_l s4 x13
              have epL4 := sm_l s4 epL3
              walk_at "g"
              refine k_sl_l x14 (fun p7 H5 n5 s5 e5 => ?_)
              rw [cutV_toI _ _ g0] at e4
              rw [cutV_fromI _ _ (by omega), show (n1 + 1).toNat = n1.toNat + 1 by omega] at e5
              walk_at "g"
              refine k_add_l (s5 _ _ e4) e5 (by rw [List.length_take, List.length_drop]; omega) (fun p8 H6 n6 s6 e6 => ?_)
              have s36 := s3.trans (s4.trans (s5.trans s6))
              have epL6 := s36 _ _ hBr.l
              walk_at "g"
              refine ⟨pL, p8, q2, q3, q4, bs1.take n1.toNat ++ bs1.drop (n1.toNat + 1), bs2, a, c, _, _, _, rfl, hBr.set1 s36 ((s3.trans (s4.trans s5)).free n6) e6 (rem_dp (dpall_sm s36 x2) n1.toNat) ?_ (fun b hb => hBr.p1 b (rem_in hb)), ⟨fun b hb => hX0.1 b (rem_in hb), hX0.2⟩⟩
              have := rem_len bs1 n1.toNat
              have := hBr.lb.1
              omega
          · walk_at "g"
            refine k_nLst (by walk_at "sz") (fun p5 H3 n3 s3 e3 => ?_)
            have x13 := sm_l s3 y1s
            have epL3 := sm_l s3 epL
            refine k_ne_d (.lst x13 (dpall_sm s3 y2)) (.lst (sq_l e3) .nil) ((good_dbts hBr.t.pl (by have := hBr.t.l2; omega) 1).shaped (by decide)) (by decide) ?_
            rw [eqv_nil, dbts_nil]
            walk_at "g"
            refine k_dec (fun d2 => ?_) (fun d2 => ?_)
            · walk_at "g"
              exact ⟨pL, q1, q2, q3, q4, bs1, bs2, a, c, _, _, _, rfl, hBr.sm s3, hX0⟩
            · have : 0 < bs2.length := List.length_pos_iff.mpr d2
              have hl2 := hBr.t.l2
              walk_at "g"
              refine k_pull (hb.sm (s12.trans s3)) (by omega) (by omega) (fun n1 g0 g1 => ?_)
              walk_at "g"
              refine k_sl_l x13 (fun p6 H4 n4 s4 e4 => ?_)
              have x14 := sm_l s4 x13
              have epL4 := sm_l s4 epL3
              walk_at "g"
              refine k_sl_l x14 (fun p7 H5 n5 s5 e5 => ?_)
              rw [cutV_toI _ _ g0] at e4
              rw [cutV_fromI _ _ (by omega), show (n1 + 1).toNat = n1.toNat + 1 by omega] at e5
              walk_at "g"
              refine k_add_l (s5 _ _ e4) e5 (by rw [List.length_take, List.length_drop]; omega) (fun p8 H6 n6 s6 e6 => ?_)
              have s36 := s3.trans (s4.trans (s5.trans s6))
              have epL6 := s36 _ _ hBr.l
              have hrl := rem_len bs2 n1.toNat
              walk_at "g"
              exact ⟨pL, q1, p8, q3, q4, bs1, bs2.take n1.toNat ++ bs2.drop (n1.toNat + 1), a, c, _, _, _, rfl, hBr.set2 s36 ((s3.trans (s4.trans s5)).free n6) e6 (rem_dp (dpall_sm s36 y2) n1.toNat) (by omega) (fun b hb => hBr.t.pl b (rem_in hb)), ⟨hX0.1, by have := hX0.2.1; omega, hX0.2.2⟩⟩
        · walk_at "g"
          exact ⟨pL, q1, q2, q3, q4, bs1, bs2, a, c, _, _, _, rfl, hBr, hX0⟩
      obtain ⟨pL, q1, q2, q3, q4, bs1, bs2, a, c, y5, y6, y7, rfl, hBr, hX⟩ := h
      -- the turn twice
      with_reducible refine k_cut (BrM K H S b T u n0 X1) ?_ (fun σ' H' h => ?_)
      · have epL := sq_l (K := K) hBr.l
        obtain ⟨ws2, y1, y2⟩ := hBr.t.h2
        have lw2 := dpall_len y2
        rw [List.length_map] at lw2
        walk_at "g"
        refine k_dec (fun d => ?_) (fun d => ?_)
        · have hl2 := hX.2.1
          walk_at "g"
          refine k_add_l y1 y1 (by omega) (fun p8 H6 n6 s6 e6 => ?_)
          have epL6 := s6 _ _ hBr.l
          walk_at "g"
          refine ⟨pL, q1, p8, q3, q4, bs1, bs2 ++ bs2, a, c, _, _, _, rfl, hBr.set2 s6 n6 e6 ?_ (by rw [List.length_append]; omega) (fun b hb => ?_), ⟨hX.1, hX.2.2⟩⟩
          · rw [List.map_append]
            exact dpall_apps (dpall_sm s6 y2) (dpall_sm s6 y2)
          · rcases List.mem_append.mp hb with hb | hb <;> exact hBr.t.pl b hb
        · walk_at "g"
          exact ⟨pL, q1, q2, q3, q4, bs1, bs2, a, c, _, _, _, rfl, hBr, ⟨hX.1, hX.2.2⟩⟩
      obtain ⟨pL, q1, q2, q3, q4, bs1, bs2, a, c, y5, y6, y7, rfl, hBr, hX⟩ := h
      -- a word more
      with_reducible refine k_cut (BrM K H S b T u n0 X2) ?_ (fun σ' H' h => ?_)
      · have epL := sq_l (K := K) hBr.l
        have y1 := hBr.t.h3
        walk_at "g"
        refine k_dec (fun d => ?_) (fun d => ?_)
        · have hl2 := hX.2.1
          walk_at "g"
          refine k_nLst (by walk_at "sz") (fun p5 H3 n3 s3 e3 => ?_)
          walk_at "g"
          refine k_add_l (s3 _ _ y1) e3 (by rw [len_tS]; show a.length + 1 ≤ _; omega) (fun p8 H6 n6 s6 e6 => ?_)
          have epL6 := s6 _ _ (s3 _ _ hBr.l)
          walk_at "g"
          refine ⟨pL, q1, q2, p8, q4, bs1, bs2, a ++ [u], c, _, _, _, rfl, hBr.set3 (s3.trans s6) (s3.free n6) ?_ (fun v hv => ?_) (by rw [List.length_append]; show a.length + 1 ≤ _; omega), hX.1⟩
          · rw [e6]
            unfold tS
            rw [List.map_append]
            rfl
          · rcases List.mem_append.mp hv with hv | hv
            · exact hBr.t.wa v hv
            · exact hu v hv
        · walk_at "g"
          exact ⟨pL, q1, q2, q3, q4, bs1, bs2, a, c, _, _, _, rfl, hBr, hX.1⟩
      obtain ⟨pL, q1, q2, q3, q4, bs1, bs2, a, c, y5, y6, y7, rfl, hBr, hX⟩ := h
      -- ahead and behind exchanged
      with_reducible refine k_cut (BrM K H S b T u n0 X2) ?_ (fun σ' H' h => ?_)
      · have epL := sq_l (K := K) hBr.l
        walk_at "g"
        refine k_dec (fun d => ?_) (fun d => ?_)
        · walk_at "g"
          refine k_nLst (by walk_at "sz") (fun p5 H3 n3 s3 e3 => ?_)
          walk_at "g"
          have hB3 := hBr.sm s3
          have t := hB3.t
          obtain ⟨ws1, x1, x2⟩ := hBr.t.h1
          obtain ⟨ws2, y1, y2⟩ := hBr.t.h2
          have hne : ∀ {q : Addr} {o : HO}, H' q = some o → q ≠ p5 := fun e z => by rw [z, n3] at e; cases e
          exact ⟨p5, q1, q2, q4, q3, bs1, bs2, c, a, _, _, _, rfl, ⟨hB3.s, e3, ⟨t.h1, t.h2, t.h4, t.h3, t.wc, t.wa, t.l1, t.l2, t.lc, t.la, t.pl⟩, hBr.s.free n3, hBr.n1, ⟨hne x1, hne y1, hne hBr.t.h4, hne hBr.t.h3⟩, ⟨hBr.d1.1, hBr.d1.2.2, hBr.d1.2.1⟩, hBr.p1, ⟨hBr.lb.1, hBr.lb.2.1, hBr.lb.2.2.2, hBr.lb.2.2.1⟩⟩, hX⟩
        · walk_at "g"
          exact ⟨pL, q1, q2, q3, q4, bs1, bs2, a, c, _, _, _, rfl, hBr, hX⟩
      obtain ⟨pL, q1, q2, q3, q4, bs1, bs2, a, c, y5, y6, y7, rfl, hBr, hX⟩ := h
      -- the last bite at another place
      with_reducible refine k_cut (BrM K H S b T u n0 X3) ?_ (fun σ' H' h => ?_)
      · have epL := sq_l (K := K) hBr.l
        obtain ⟨ws1, x1, x2⟩ := hBr.t.h1
        have lw1 := dpall_len x2
        rw [List.length_map] at lw1
        have l1 := hBr.t.l1
        walk_at "g"
        refine k_dec (fun d => ?_) (fun d => ?_)
        · walk_at "g"
          refine k_nLst (by walk_at "sz") (fun p5 H3 n3 s3 e3 => ?_)
          have hB3 := hBr.sm s3
          have x13 := s3 _ _ x1
          have epL3 := sm_l s3 epL
          have x13s := sq_l (K := K) x13
          have d13 := dpall_sm s3 x2
          refine k_ne_d (.lst x13s d13) (.lst (sq_l e3) .nil) ((good_dbts hBr.p1 (by omega) 1).shaped (by decide)) (by decide) ?_
          rw [eqv_nil, dbts_nil]
          walk_at "g"
          refine k_dec (fun d2 => ?_) (fun d2 => ?_)
          · walk_at "g"
            exact ⟨pL, q1, q2, q3, q4, bs1, bs2, a, c, _, _, _, rfl, hB3, trivial⟩
          · obtain ⟨ini, lb, rfl⟩ := snoc_of d2
            rw [List.map_append] at d13
            obtain ⟨vs, v, rfl, dv1, dv2⟩ := dpall_snocI (ds := ini.map dBt) (d := dBt lb) d13
            obtain ⟨t, rfl, ht⟩ := dp_btI dv2
            have hlb := hX lb (List.mem_append_right _ (List.mem_singleton.mpr rfl))
            have hini : ini.length ≤ 299 := by
              have := hBr.lb.1
              rw [List.length_append] at this
              have e : [lb].length = 1 := rfl
              omega
            have lvs := dpall_len dv1
            rw [List.length_map] at lvs
            walk_at "g"
            refine k_pop0 x13 ?_
            have ht8 := t_lst (o := .lst vs) x13 ht
            have hB8 := hB3.mut1 (ws := vs) (bs9 := ini) x13 (dbts_to (fun _ _ h => t_lst x13 h) dv1) (by omega) (fun b hb => hBr.p1 b (List.mem_append_left _ hb))
            have x18 : (L2.upd H3 q1 (.lst vs)) q1 = some (.lst vs) := upd_same
            have dv8 : DpAll K (L2.upd H3 q1 (.lst vs)) vs (ini.map dBt) := dbts_to (fun _ _ h => t_lst x13 h) dv1
            generalize L2.upd H3 q1 (.lst vs) = H8 at ht8 hB8 x18 dv8 ⊢
            have epL8 := sq_l (K := K) hB8.l
            have x18s := sq_l (K := K) x18
            walk_at "g"
            refine k_nTup (by walk_at "sz") (fun T9 H9 n9 s9 e9 => ?_)
            have x19 := s9 _ _ x18
            walk_at "g"
            refine k_append x19 (by omega) ?_
            walk_at "g"
            refine ⟨pL, q1, q2, q3, q4, ini ++ [(lb.1 + 1, lb.2)], bs2, a, c, _, _, _, rfl, (hB8.sm s9).mut1 x19 ?_ (by rw [List.length_append]; show ini.length + 1 ≤ _; omega) (fun b hb => ?_), trivial⟩
            · rw [List.map_append]
              exact dpall_apps (dbts_to (fun _ _ h => t_lst x19 h) (dpall_sm s9 dv8)) (.cons (.tup (t_lst x19 (sq_t e9)) (.cons (.int _) (.cons (.str _) .nil))) .nil)
            · rcases List.mem_append.mp hb with hb | hb
              · exact hBr.p1 b (List.mem_append_left _ hb)
              · rw [List.mem_singleton.mp hb]
                show lb.1 + 1 ≤ 100000
                omega
        · walk_at "g"
          exact ⟨pL, q1, q2, q3, q4, bs1, bs2, a, c, _, _, _, rfl, hBr, trivial⟩
      obtain ⟨pL, q1, q2, q3, q4, bs1, bs2, a, c, y5, y6, y7, rfl, hBr, hX⟩ := h
      -- no turn
      with_reducible refine k_cut (BrM K H S b T u n0 X3) ?_ (fun σ' H' h => ?_)
      · walk_at "g"
        refine k_dec (fun d => ?_) (fun d => ?_)
        · walk_at "g"
          refine k_nLst (by walk_at "sz") (fun p8 H6 n6 s6 e6 => ?_)
          have epL6 := s6 _ _ hBr.l
          walk_at "g"
          exact ⟨pL, q1, p8, q3, q4, bs1, [], a, c, _, _, _, rfl, hBr.set2 s6 n6 e6 .nil (by decide) (fun b hb => nomatch hb), trivial⟩
        · walk_at "g"
          exact ⟨pL, q1, q2, q3, q4, bs1, bs2, a, c, _, _, _, rfl, hBr, trivial⟩
      obtain ⟨pL, q1, q2, q3, q4, bs1, bs2, a, c, y5, y6, y7, rfl, hBr, _⟩ := h
      have epL := sq_l (K := K) hBr.l
      walk_at "g"
      refine k_nTup (by walk_at "sz") (fun T9 H9 n9 s9 e9 => ?_)
      exact q T9 q1 q2 q3 q4 bs1 bs2 a c _ (hBr.s.trans s9) e9 (hBr.t.sm s9) hBr.p1 ⟨hBr.lb.2.2.1, hBr.lb.2.2.2⟩
end
end Lw
set_option autoImplicit true
set_option pp.maxSteps 1200
set_option Elab.async false
set_option linter.all false
set_option maxRecDepth 100000
set_option maxHeartbeats 1000000
namespace Lw
open PySem PySem.Spec PyProof.Rows L2 Gk NdefX
open LamX hiding takes0
section
variable {K : PySem.W.Frag}
/-! ### while a dict is gone through: what else stands in the heap -/
section
variable {H H1 : Hp} {d : Addr} {od : Obj} {kvs : List (List Key × V)}
end
mutual
theorem dp_ext {H H' : Hp} (e : ExtN H H') : ∀ {v : V} {d : PyData}, Dp K H v d → Dp K H' v d
  | _, _, .non => .non
  | _, _, .bl b => .bl b
  | _, _, .int i => .int i
  | _, _, .str x => .str x
  | _, _, .lst h r => .lst (ext_l e h) (dpall_ext e r)
  | _, _, .tup h r => .tup (ext_t e h) (dpall_ext e r)
theorem dpall_ext {H H' : Hp} (e : ExtN H H') : ∀ {vs : List V} {ds : List PyData}, DpAll K H vs ds → DpAll K H' vs ds
  | _, _, .nil => .nil
  | _, _, .cons h r => .cons (dp_ext e h) (dpall_ext e r)
end
end
end Lw
namespace Lw
open PySem PySem.Spec PyProof.Rows L2 Gk NdefX
open LamX hiding takes0

local macro_rules | `(tactic| walk_at "hp") => `(tactic| first | assumption | exact upd_same | (refine' (upd_ne ?n).trans ?h; (case n => assumption); (case h => walk_at "hp")) | (refine' sm_get ?s ?h; (case s => assumption); (case h => walk_at "hp")))
local macro_rules | `(tactic| walk_at "sq") => `(tactic| first | assumption | (refine' sq_l ?h; (case h => walk_at "hp")) | (refine' sm_l ?s ?h; (case s => assumption); (case h => walk_at "sq")))
local macro_rules | `(tactic| walk_at "st") => `(tactic| first | assumption | (refine' sq_t ?h; (case h => walk_at "hp")) | (refine' sm_t ?s ?h; (case s => assumption); (case h => walk_at "st")))
local macro_rules | `(tactic| walk_at "bg") => `(tactic| first | assumption | (refine' BagOk.sm ?s ?h; (case s => assumption); (case h => walk_at "bg")))
local macro_rules | `(tactic| walk_at "sm") => `(tactic| first | assumption | exact Same.refl _ | (refine' Same.trans ?h ?s; (case s => assumption); (case h => walk_at "sm")))
local macro_rules | `(tactic| walk_at "hs") => `(tactic| first | assumption | (refine' HsAt.sm ?s ?h; (case s => assumption); (case h => walk_at "hs")))
local macro_rules | `(tactic| walk_at "ms") => `(tactic| first | assumption | (refine' MAt.sm ?s ?h; (case s => assumption); (case h => walk_at "ms")))
local macro_rules | `(tactic| walk_at "md") => `(tactic| first | assumption | (refine' MDk.sm ?s ?h; (case s => assumption); (case h => walk_at "md")))
local macro_rules | `(tactic| walk_at "dp") => `(tactic| first | assumption | (refine' dp_sm ?s ?h; (case s => assumption); (case h => walk_at "dp")))
local macro_rules | `(tactic| walk_at "sz") => `(tactic| first | decide | assumption | omega | (simp only [List.length_cons, List.length_nil, List.length_map, List.length_append]; omega))
local macro_rules | `(tactic| walk_at "g1") => `(tactic| first
  | with_reducible refine k_seq ?_
  | with_reducible refine k_itB ?_
  | with_reducible refine k_next ?_
  | with_reducible refine k_asg ?_
  | with_reducible refine k_name ?_
  | with_reducible refine k_ret ?_
  | with_reducible refine k_retN ?_
  | with_reducible refine k_drop ?_
  | with_reducible refine k_ifs ?_
  | with_reducible refine k_brk ?_
  | with_reducible refine k_cont ?_
  | with_reducible refine k_ipI ?_
  | with_reducible refine k_test ?_
  | with_reducible refine k_tB ?_
  | with_reducible refine k_bl ?_
  | with_reducible refine k_not ?_
  | with_reducible refine k_and ?_
  | with_reducible refine k_or ?_
  | with_reducible refine k_yes ?_
  | with_reducible refine k_true ?_
  | with_reducible refine k_false ?_
  | with_reducible refine k_nt ?_
  | with_reducible refine k_c ?_
  | with_reducible refine k_op ?_
  | with_reducible refine k_un ?_
  | with_reducible refine k_if ?_
  | with_reducible refine k_chain ?_
  | with_reducible refine k_nil ?_
  | with_reducible refine k_cons ?_
  | with_reducible refine k_cb ?_
  | with_reducible refine k_call ?_
  | with_reducible refine k_callS ?_
  | with_reducible refine k_andV ?_
  | with_reducible refine k_orV ?_
  | with_reducible refine k_notV ?_
  | with_reducible refine k_lst ?_
  | with_reducible refine k_tup ?_
  | with_reducible refine k_nopart ?_
  | with_reducible refine k_part ?_
  | with_reducible refine k_nInt ?_
  | with_reducible refine k_sl ?_
  | with_reducible refine k_bm ?_
  | with_reducible refine k_bm0 ?_
  | with_reducible refine k_nTyS ?_
  | with_reducible refine k_m1 ?_
  | with_reducible refine k_m0 ?_
  | with_reducible refine k_nStr ?_
  | with_reducible refine k_I0 ?_
  | with_reducible refine k_U ?_
  | with_reducible refine k_add_i ?_
  | with_reducible refine k_eq_i ?_
  | with_reducible refine k_eq_s ?_
  | with_reducible refine k_eq_b ?_
  | with_reducible refine k_ne_i ?_
  | with_reducible refine k_ne_s ?_
  | with_reducible refine k_ne_b ?_
  | with_reducible refine k_le_i ?_
  | with_reducible refine k_le_s ?_
  | with_reducible refine k_gnil ?_
  | with_reducible refine k_gcons ?_
  | with_reducible refine k_gsub ?_
  | with_reducible refine k_for ?_
  | with_reducible refine k_lc ?_
  | with_reducible refine k_rng1 ?_
  | with_reducible refine k_rng2 ?_
  | with_reducible refine k_itl ?_
  | with_reducible refine k_itt ?_
  | with_reducible refine k_its ?_
  | with_reducible refine k_ite ?_
  | with_reducible refine k_iteB ?_
  | with_reducible refine k_lrg2 ?_
  | with_reducible refine k_itz ?_
  | with_reducible refine k_nIts ?_
  | with_reducible refine k_inS ?_
  | with_reducible refine k_niS ?_
  | with_reducible refine k_mk ?_
  | with_reducible refine k_meth ?_
  | with_reducible refine k_fld ?_
  | with_reducible refine k_sfld ?_
  | with_reducible refine k_dg ?_
  | with_reducible refine k_dp ?_
  | with_reducible refine k_pr ?_
  | with_reducible refine k_pr0 ?_
  | with_reducible refine k_sg ?_
  | with_reducible refine k_lc2 ?_
  | with_reducible refine k_callN ?_
  | with_reducible refine k_callNS ?_
  | with_reducible refine k_par ?_
  | with_reducible refine k_nPar ?_
  | with_reducible refine k_isNn ?_
  | with_reducible refine k_isNr ?_
  | with_reducible refine k_ntNn ?_
  | with_reducible refine k_ntNr ?_
  | with_reducible refine k_min2 ?_
  | with_reducible refine k_max2 ?_
  | with_reducible refine k_intB ?_
  | with_reducible refine k_intI ?_
  | with_reducible refine k_isBl ?_
  | with_reducible refine k_ntBl ?_
  | ((with_reducible refine' k_var ?kv ?_); (case kv => exact rfl))
  | ((with_reducible refine' k_aug ?kv ?_); (case kv => exact rfl))
  | ((with_reducible refine' k_ix_l ?ks ?ki ?_); (case ks => walk_at "sq"); (case ki => exact rfl))
  | ((with_reducible refine' k_ix_t ?ks ?ki ?_); (case ks => walk_at "st"); (case ki => exact rfl))
  | ((with_reducible refine' k_len_l ?ks ?_); (case ks => walk_at "sq"))
  | ((with_reducible refine' k_len_t ?ks ?_); (case ks => walk_at "st"))
  | ((with_reducible refine' k_setL ?ks ?ki ?_); (case ks => walk_at "hp"); (case ki => exact rfl))
  | ((with_reducible refine' k_nTyL ?ks ?_); (case ks => walk_at "sq"))
  | ((with_reducible refine' k_nItl ?ks ?_); (case ks => walk_at "sq"))
  | ((with_reducible refine' k_nItt ?ks ?_); (case ks => walk_at "st"))
  | ((with_reducible refine' k_nIte ?ks ?_); (case ks => walk_at "sq"))
  | ((with_reducible refine' k_mul ?km ?_); (case km => first | exact Or.inr ⟨by decide, by decide⟩ | exact Or.inl ⟨by decide, by decide⟩))
  | ((with_reducible refine' k_I ?km ?_); (case km => first | assumption | decide | exact ⟨by decide, by decide +kernel⟩ | exact ⟨by decide, by decide, by decide⟩))
  | ((with_reducible refine' k_nMeth ?kp ?kl ?_); (case kp => walk_at "hp"); (case kl => exact rfl))
  | ((with_reducible refine' k_nFld ?kp ?kc ?kn ?kl ?_); (case kp => walk_at "hp"); (case kc => assumption); (case kn => assumption); (case kl => exact rfl))
  | ((with_reducible refine' k_nSFld ?kp ?kc ?kn ?kl ?_); (case kp => walk_at "hp"); (case kc => assumption); (case kn => assumption); (case kl => exact of_decide_eq_true rfl))
  | ((with_reducible refine' k_nDg ?kp ?kl ?_); (case kp => walk_at "hp"); (case kl => exact rfl))
  | ((with_reducible refine' k_nRng1 ?k1 ?k2 ?_); (case k1 => omega); (case k2 => omega))
  | ((with_reducible refine' k_nKw ?k1 ?k2 ?_); (case k1 => exact rfl); (case k2 => exact rfl))
  | ((with_reducible refine' k_hsm ?kh ?_); (case kh => walk_at "hs"))
  | ((with_reducible refine' k_nMethH ?kh ?kl ?_); (case kh => walk_at "hs"); (case kl => exact fun _ _ => rfl))
  | ((with_reducible refine' k_mLet ?kh ?_); (case kh => walk_at "ms"))
  | ((with_reducible refine' k_mChew ?kh ?_); (case kh => walk_at "ms"))
  | ((with_reducible refine' k_mPut ?kh ?_); (case kh => walk_at "ms"))
  | ((with_reducible refine' k_mMost ?kh ?_); (case kh => walk_at "ms"))
  | ((with_reducible refine' k_mCut ?kh ?_); (case kh => walk_at "ms"))
  | ((with_reducible refine' k_mTab ?kh ?_); (case kh => walk_at "md"))
  | ((with_reducible refine' k_mEats ?kh ?_); (case kh => walk_at "md"))
  | ((with_reducible refine' k_gtup ?ks ?kl ?_); (case ks => walk_at "st"); (case kl => exact rfl)))
local macro_rules | `(tactic| walk_at "g") => `(tactic| repeat (walk_at "g1"))
local macro_rules | `(tactic| walk_at "w1") => `(tactic| first
  | walk_at "g1"
  | ((with_reducible refine' k_decT ?kp ?_); (case kp => omega))
  | ((with_reducible refine' k_decF ?kp ?_); (case kp => omega))
  | ((with_reducible refine' k_decNT ?kp ?_); (case kp => omega))
  | ((with_reducible refine' k_decNF ?kp ?_); (case kp => omega)))
local macro_rules | `(tactic| walk_at "w") => `(tactic| repeat (walk_at "w1"))

section
variable {P : Program} {w : World} {K : PySem.W.Frag} {mg : Str → Option Value} {base : Heap} {f : Addr} {fd : FuncData}
theorem bad_end {S : HsD} (ok : HsOk S) {us : List (List Nat)} {u : List Nat} (hw : AllW S us) (hl : us.length ≤ 11) (hu : isW S (tx u) = false) : badAt S (us ++ [u]) = some us.length := by
  unfold badAt
  rw [List.take_of_length_le (by rw [List.length_append]; show _ + 1 ≤ _; omega)]
  rw [show firstBad S (us ++ [u]) = some us.length from fidx_some (by rw [List.getElem?_append_right (Nat.le_refl _), Nat.sub_self]; rfl) (by rw [hu]; rfl) fun k hk v hv => by
    rw [List.getElem?_append_left hk] at hv
    rw [isW_word ok (hw v (List.mem_of_getElem? hv))]
    rfl]
theorem no_q {S : HsD} (ok : HsOk S) : isW S (tx [63]) = false := by
  have : decide ((63 : Nat) ∈ S.ls) = false := decide_eq_false fun hm => by
    have := ok.rise.2 63 hm
    unfold small at this
    omega
  unfold isW
  simp [tl_tx, this]
theorem k_ntW {H : Hp} {Q : VK} {v : V} {o : Option (List (List Nat))} (h : WkIs K H v o) (q : Q (.bl o.isSome) H) : rNotN v .non H Q := by
  cases o with
  | none =>
    cases (show v = .non from h)
    exact k_ntNn q
  | some R =>
    obtain ⟨p, rfl, _⟩ := h
    exact k_ntNr q
def d4F (bs1 bs2 : List Bt) (x z : Rw) : List PyData := [.list (bs1.map dBt), .list (bs2.map dBt), .list (x.map fun u => PyData.str (tx u)), .list (z.map fun u => PyData.str (tx u))]
theorem told_get {H : Hp} {S : HsD} {q1 q2 q3 q4 : Addr} {bs1 bs2 : List Bt} {x z : Rw} (h : Told4 K H S q1 q2 q3 q4 bs1 bs2 x z) : ∀ {i : Nat} {v : V}, [V.ref q1, .ref q2, .ref q3, .ref q4][i]? = some v → ∃ p c ds, v = .ref p ∧ (d4F bs1 bs2 x z)[i]? = some (.list ds) ∧ H p = some (.lst c) ∧ ∀ H2 : Hp, (∀ a xs, SqT K H a xs → SqT K H2 a xs) → DpAll K H2 c ds := fun {i v} hv => by
  obtain ⟨ws1, x1, x2⟩ := h.h1
  obtain ⟨ws2, y1, y2⟩ := h.h2
  match i, hv with
  | 0, hv => cases hv; exact ⟨q1, ws1, _, rfl, rfl, x1, fun H2 k => dbts_to k x2⟩
  | 1, hv => cases hv; exact ⟨q2, ws2, _, rfl, rfl, y1, fun H2 k => dbts_to k y2⟩
  | 2, hv => cases hv; exact ⟨q3, _, _, rfl, rfl, h.h3, fun H2 _ => dp_tS _⟩
  | 3, hv => cases hv; exact ⟨q4, _, _, rfl, rfl, h.h4, fun H2 _ => dp_tS _⟩
  | n + 4, hv => simp at hv
theorem good_d4 {S : HsD} (ok : HsOk S) {H : Hp} {q1 q2 q3 q4 : Addr} {bs1 bs2 : List Bt} {x z : Rw} (h : Told4 K H S q1 q2 q3 q4 bs1 bs2 x z) (h1 : ∀ b ∈ bs1, b.1 ≤ 100000) : Good 4 (.list (d4F bs1 bs2 x z)) := ⟨by show 4 ≤ 50000; decide, fun e he => by
  have l1 := h.l1
  have l2 := h.l2
  have la := h.la
  have lc := h.lc
  rcases List.mem_cons.mp he with rfl | he
  · exact good_dbts h1 (by omega) 0
  rcases List.mem_cons.mp he with rfl | he
  · exact good_dbts h.pl (by omega) 0
  rcases List.mem_cons.mp he with rfl | he
  · exact good_allW ok h.wa (by omega) 1
  · rw [List.mem_singleton.mp he]
    exact good_allW ok h.wc (by omega) 1⟩
theorem Told4.ext {H H' : Hp} {S : HsD} {p1 p2 p3 p4 : Addr} {bs1 bs2 : List Bt} {a c : Rw} (s : ExtN H H') (h : Told4 K H S p1 p2 p3 p4 bs1 bs2 a c) : Told4 K H' S p1 p2 p3 p4 bs1 bs2 a c := by
  obtain ⟨ws1, x1, x2⟩ := h.h1
  obtain ⟨ws2, y1, y2⟩ := h.h2
  exact ⟨⟨ws1, ext_lst s x1, dbts_to (fun _ _ h => ext_t s h) x2⟩, ⟨ws2, ext_lst s y1, dbts_to (fun _ _ h => ext_t s h) y2⟩, ext_lst s h.h3, ext_lst s h.h4, h.wa, h.wc, h.l1, h.l2, h.la, h.lc, h.pl⟩
def dueF (g : Bool) (many : Int) : Str := if g = false then Str.ofString "BadWish" else if many = 2 then Str.ofString "" else Str.ofString "BadNumber"
theorem due_ok (g : Bool) (many : Int) : Pl (dueF g many) ∧ (dueF g many).length ≤ 100000 := by
  have : ∀ z ∈ [Str.ofString "BadWish", Str.ofString "", Str.ofString "BadNumber"], (TL.tl z).all (fun c => decide (c < 128)) = true ∧ z.length ≤ 100000 := by decide +kernel
  have h : dueF g many ∈ [Str.ofString "BadWish", Str.ofString "", Str.ofString "BadNumber"] := by
    unfold dueF
    split
    · simp
    · split <;> simp
  exact ⟨pl_B (this _ h).1, (this _ h).2⟩
theorem ok_law (F : FnP K "law" s_law (He.fAd K ("law", none)) fd) (tb : TabB base mg (He.cT K ("law", none)).1 (PtL K)) (f_range : mg "range" = none) (f_list : mg "list" = none) (xm_BadWord_GulpError : PySem.W.exmOne K (.ref (He.ga K "BadWord")) (.ref (He.ga K "GulpError")) = some true) (xm_BadWish_GulpError : PySem.W.exmOne K (.ref (He.ga K "BadWish")) (.ref (He.ga K "GulpError")) = some true) (xm_BadNumber_GulpError : PySem.W.exmOne K (.ref (He.ga K "BadNumber")) (.ref (He.ga K "GulpError")) = some true)
    (c_BadWord : XCls P w K mg base "BadWord" 1 "BadWord" "at") (c_BadWish : XCls0 P w K mg base "BadWish" 1 "BadWish") (c_BadNumber : XCls P w K mg base "BadNumber" 1 "BadNumber" "number")
    (c_Lbag : Callee P w K mg base CX0 "_law_bag" 1 [] (spBag K)) (c_Lpull : Callee P w K mg base CX0 "_law_pull" 1 [] spPull) (c_Lone : Callee P w K mg base CX0 "_law_one" 2 [] (spOne K)) (c_Lsame : Callee P w K mg base CX0 "_law_same" 4 [] (spSame K 4)) (c_Lgoing_house : Callee P w K mg base CX0 "_law_going_house" 5 [] (spGoHouse K))
    (c_Lmade : Callee P w K mg base CX0 "_law_made" 4 [] (spMade K)) (c_Lrow : Callee P w K mg base CX0 "_law_row" 3 [] (spLRow K)) (c_Lwords : Callee P w K mg base CX0 "_law_words" 1 [] (spLWords K)) (c_Lbent_round : Callee P w K mg base CX0 "_law_bent_round" 2 [] (spBentR K)) (c_Lround_of : Callee P w K mg base CX0 "_law_round_of" 4 [] (spRoundOf K))
    (c_fate_holds : Callee P w K mg base (L2.CX P w) "fate_holds" 6 [] (spHolds K)) (c_rounds : Callee P w K mg base (L2.CX P w) "rounds" 6 [] (spRounds K)) (c_fate_most : CalleeN P w K mg base (L2.CX P w) "fate" 7 2 ["most"] (fun vs zs => vs ++ zs) (spFate K)) (c_Lwhy : CalleeA P w K mg base "_law_why" (TWhy K)) : FnOk P w K mg base CX0 12 (He.fAd K ("law", none)) fd ["_law_script"] (spLawT K) := by
  refine okC F sc_law (fun vs H Q E h => ?hl) (fun A outer s H vs Q E hr h => ⟨_, PSs.nox (pss_cons (ps_set (i := 1) sc_law.nd rfl (by first | exact Or.inl rfl | exact Or.inr rfl) (pe_cl c_Lbag hr (pa_cons (pv 0) pa_nil) pass0))
      (pss_cons (ps_for PassesOwn.never rfl (pi_range1 (by rfl) f_range (pa_cons pe_int pa_nil)) (pg_name (i := 2) sc_law.nd rfl (by first | exact Or.inl rfl | exact Or.inr rfl)) (pss_cons (ps_set (i := 3) sc_law.nd rfl (by first | exact Or.inl rfl | exact Or.inr rfl) (pe_cl c_Lgoing_house hr (pa_cons (pv 1) pa_nil) pass0))
      (pss_cons (ps_set (i := 4) sc_law.nd rfl (by first | exact Or.inl rfl | exact Or.inr rfl) (pe_cl c_Lmade hr (pa_cons (pv 3) pa_nil) pass0))
      (pss_cons (ps_set (i := 5) sc_law.nd rfl (by first | exact Or.inl rfl | exact Or.inr rfl) (pe_cl c_Lrow hr (pa_cons (pv 1) (pa_cons (pv 3) (pa_cons pe_int pa_nil))) pass0))
      (pss_cons (ps_set (i := 6) sc_law.nd rfl (by first | exact Or.inl rfl | exact Or.inr rfl) (pe_clN c_fate_most hr (pa_cons (pv 4) (pa_cons (pv 5) pa_nil)) (pk_cons (pe_op (op_addK K) pe_int (pe_cl c_Lpull hr (pa_cons (pv 1) (pa_cons pe_int pa_nil)) pass0)) pk_nil) passX))
      (Evl.pss_cut (ps_if (pt_cmpR (op_neK K hr.units) (pe_ix (ix_k K) (pv 6) pe_int (fun _ _ => rfl)) pe_str (nomark _)) (pss_one (ps_set (i := 6) sc_law.nd rfl (by first | exact Or.inl rfl | exact Or.inr rfl) (pe_tup (pa_cons pe_str (pa_cons (pe_lst pa_nil) (pa_cons (pe_lst (pa_cons (pe_tup (pa_cons pe_int (pa_cons pe_str pa_nil))) pa_nil)) (pa_cons (pe_lst pa_nil) (pa_cons (pe_lst pa_nil) pa_nil)))))))) pss_nil)
      (pss_cons (ps_set (i := 7) sc_law.nd rfl (by first | exact Or.inl rfl | exact Or.inr rfl) (pe_cl c_Lbent_round hr (pa_cons (pv 1) (pa_cons (pv 6) (pa_cons (pe_ix (ix_k K) (pe_cl c_Lwords hr (pa_cons (pv 3) pa_nil) pass0) pe_int (fun _ _ => rfl)) pa_nil))) pass0))
      (pss_cons (ps_set (i := 8) sc_law.nd rfl (by first | exact Or.inl rfl | exact Or.inr rfl) (pe_cmpR op_notN1 (pe_cl c_Lround_of hr (pa_cons (pv 3) (pa_cons (pv 5) (pa_cons (pv 7) pa_nil))) pass0) pe_non (nomark _)))
      (pss_cons (ps_setLc (i := 9) (own := [("_law_one_here", 12)]) rfl sc_law.nd rfl rfl (sw_true rfl rfl rfl (by decide +kernel)) (pi_tupK K (pe_slice (sl_k K) (pv 7) (po_some pe_int) po_none)) (blkOk_by (N := ["_law_script", "_law_bag_here", "_law_k", "_law_m", "_law_house_here", "_law_row_here", "_law_told", "_law_bent", "_law_good", "_law_kept_lists", "_law_many", "_law_due", "_law_one_here"]) (sc := defScope s_law) (by decide +kernel)) (fun _ _ _ _ _ => (pg_name (i := 12) sc_law.nd rfl (by first | exact Or.inl rfl | exact Or.inr rfl))) (fun _ _ _ _ _ => pts_nil) (fun _ _ _ _ _ => (pe_callTy (call_listK K) (by rfl) f_list (by decide +kernel) (pa_cons (pv 12) pa_nil))))
      (pss_cons (ps_if (pt_not (pt_val (pe_cl c_Lsame hr (pa_cons (pe_cl c_fate_holds hr (pa_cons (pv 4) (pa_cons (pv 5) (pa_cons (pv 7) pa_nil))) passX) (pa_cons (pv 8) pa_nil)) pass0))) (pss_one (ps_ret pe_bl)) pss_nil)
      (pss_cons (ps_set (i := 10) sc_law.nd rfl (by first | exact Or.inl rfl | exact Or.inr rfl) (pe_cl c_Lone hr (pa_cons (pv 1) (pa_cons (pe_lst (pa_cons (pe_op op_sub pe_int pe_int) (pa_cons pe_int (pa_cons (pe_op op_pow pe_int pe_int) (pa_cons pe_int pa_nil))))) pa_nil)) pass0))
      (Evl.pss_cut (ps_set (i := 11) sc_law.nd rfl (by first | exact Or.inl rfl | exact Or.inr rfl) (pe_ifExp (pt_not (pt_val (pv 8))) pe_str (pe_ifExp (pt_cmpR (op_neK K hr.units) (pv 10) pe_int (nomark _)) pe_str pe_str)))
      (pss_cons (ps_if (pt_cmpR (op_neK K hr.units) (pe_ix (ix_k K) (pe_lamS (k := 9) c_Lwhy ⟨tb, rfl⟩ hr (by rfl) (lamS_by (sc := defScope s_law) (by decide +kernel)) rfl (fun _ _ _ _ _ => rfl) (fun E A outer s H f c' hr => (pe_cl c_rounds hr (pa_cons (pv 4) (pa_cons (pv 5) (pa_cons (pv 7) (pa_cons (pv 10) pa_nil)))) (passE (takes_of rfl rfl rfl rfl))))) pe_int (fun _ _ => rfl)) (pv 11) (nomark _)) (pss_one (ps_ret pe_bl)) pss_nil)
      (pss_cons (ps_if (pt_cmpR (op_neK K hr.units) (pe_ix (ix_k K) (pe_lamS (k := 9) c_Lwhy ⟨tb, rfl⟩ hr (by rfl) (lamS_by (sc := defScope s_law) (by decide +kernel)) rfl (fun _ _ _ _ _ => rfl) (fun E A outer s H f c' hr => (pe_cl c_fate_holds hr (pa_cons (pv 4) (pa_cons (pe_op (op_addK K) (pv 5) (pe_lst (pa_cons pe_str pa_nil))) (pa_cons (pv 7) pa_nil))) (passE (takes_of rfl rfl rfl rfl))))) pe_int (fun _ _ => rfl)) pe_str (nomark _)) (pss_one (ps_ret pe_bl)) pss_nil)
      (pss_cons (ps_if (pt_cmpR (op_neK K hr.units) (pe_ix (ix_k K) (pe_lamS (k := 9) c_Lwhy ⟨tb, rfl⟩ hr (by rfl) (lamS_by (sc := defScope s_law) (by decide +kernel)) rfl (fun _ _ _ _ _ => rfl) (fun E A outer s H f c' hr => (pe_cl c_rounds hr (pa_cons (pv 4) (pa_cons (pe_lst (pa_cons pe_str pa_nil)) (pa_cons (pv 7) (pa_cons (pe_op op_sub pe_int pe_int) pa_nil)))) (passE (takes_of rfl rfl rfl rfl))))) pe_int (fun _ _ => rfl)) pe_str (nomark _)) (pss_one (ps_ret pe_bl)) pss_nil)
      (pss_one (ps_if (pt_cmpR (op_neK K hr.units) (pe_lc (own := [("_law_one_here", 12)]) rfl sc_law.nd (pi_tupK K (pe_slice (sl_k K) (pv 7) (po_some pe_int) po_none)) (blkOk_by (N := ["_law_script", "_law_bag_here", "_law_k", "_law_m", "_law_house_here", "_law_row_here", "_law_told", "_law_bent", "_law_good", "_law_kept_lists", "_law_many", "_law_due", "_law_one_here"]) (sc := defScope s_law) (by decide +kernel)) (fun _ _ _ _ _ => (pg_name (i := 12) sc_law.nd rfl (by first | exact Or.inl rfl | exact Or.inr rfl))) (fun _ _ _ _ _ => pts_nil) (fun _ _ _ _ _ => (pe_callTy (call_listK K) (by rfl) f_list (by decide +kernel) (pa_cons (pv 12) pa_nil)))) (pv 9) (nomark _)) (pss_one (ps_ret pe_bl)) pss_nil)))))))))))))))))
      (pss_one (ps_ret pe_bl)))), ?rd⟩)
  case hl =>
    obtain ⟨b, u, rfl, _⟩ := h
    rfl
  case rd =>
    have wc1 := whyC1 c_BadWord xm_BadWord_GulpError
    have wc2 := whyC0 c_BadWish xm_BadWish_GulpError
    have wc3 := whyC1 c_BadNumber xm_BadNumber_GulpError
    obtain ⟨a, ns, rfl, hS, hn, hPt, q⟩ := h
    have hT0 : TbL K H := fun p hp => by rw [List.mem_singleton.mp hp]; exact TabS.nil hPt
    refine k_start (σ' := [some _, none, none, none, none, none, none, none, none, none, none, none, none]) rfl ?_
    walk_at "g"
    refine ⟨a, ns, rfl, hS, hn, fun b H1 s1 hb => ?_⟩
    walk_at "g"
    refine k_nFor walk_range (fun i σ H' => (∃ y2 y3 y4 y5 y6 y7 y8 y9 y10 y11 y12, σ = [some (.ref a), some (.ref b), y2, y3, y4, y5, y6, y7, y8, y9, y10, y11, y12]) ∧ BagOk H' b ∧ TbL K H') ⟨⟨_, _, _, _, _, _, _, _, _, _, _, rfl⟩, hb, tabs_sm s1 hT0⟩ (fun _ _ _ _ _ => trivial) (fun i x σ Ha Hb hi h hy => ?ht) (fun σ H' h => ?he)
    case he =>
      obtain ⟨⟨y2, y3, y4, y5, y6, y7, y8, y9, y10, y11, y12, rfl⟩, _⟩ := h
      walk_at "g"
      exact q _
    case ht =>
      obtain ⟨⟨y2, y3, y4, y5, y6, y7, y8, y9, y10, y11, y12, rfl⟩, hbA, hTA⟩ := h
      obtain ⟨rfl, rfl⟩ := y_rng hy
      walk_at "g"
      refine ⟨b, rfl, hbA, fun S m H2 ok s2 hM => ?_⟩
      have hb2 := hbA.sm s2
      walk_at "g"
      refine ⟨m, S, rfl, hM, ok, fun ah H3 n3 s3 hs => ?_⟩
      have hM3 := hM.sm s3
      have hb3 := hb2.sm s3
      walk_at "g"
      refine ⟨b, m, S, 4, rfl, hb3, hM3, ok, by decide, fun us pr H5 hw lu n5 s5 e5 => ?_⟩
      have hb5 := hb3.sm s5
      have hs5 := hs.sm s5
      have hM5 := hM3.sm s5
      have hT5 := tabs_sm s5 (tabs_sm s3 (tabs_sm s2 hTA))
      have wl := fun u hu => ((hw.len ok) u hu)
      have wl' : ∀ u ∈ us, u.length ≤ 1000 := fun u hu => by have := wl u hu; omega
      have bad := hw.bad ok (by omega)
      walk_at "g"
      refine k_pull hb5 (by omega) (by omega) (fun n0 h0 h1 => ?_)
      obtain ⟨bd, hbd⟩ : ∃ bd : Nat, (1 + n0 : Int) = (bd : Int) := ⟨(1 + n0).toNat, by omega⟩
      walk_at "g"
      rw [hbd]
      refine ⟨ah, pr, (bd : Nat), S, us, false, rfl, hs5, ok, sq_l e5, by omega, wl', fun _ _ _ v H8 s8 hv => ?_, fun _ hbad => absurd ⟨by omega, by omega⟩ hbad, fun j hj => absurd hj (by rw [bad]; exact fun z => nomatch z)⟩
      rw [Int.toNat_natCast] at hv
      have hb8 := hb5.sm s8
      have hM8 := hM5.sm s8
      have hs8 := hs5.sm s8
      have hT8 := tabs_sm s8 hT5
      have e8 := s8 _ _ e5
      walk_at "g"
      with_reducible refine k_cut (fun σ' H' => ∃ (T p1 p2 p3 p4 : Addr) (bs1 bs2 : List Bt) (x z : Rw), σ' = [some (.ref a), some (.ref b), some (.int (i : Nat)), some (.ref m), some (.ref ah), some (.ref pr), some (.ref T), y7, y8, y9, y10, y11, y12] ∧ Same H8 H' ∧ SqT K H' T [.str (Str.ofString "round"), .ref p1, .ref p2, .ref p3, .ref p4] ∧ Told4 K H' S p1 p2 p3 p4 bs1 bs2 x z ∧ (∀ b ∈ bs1, b.1 ≤ 50000) ∧ bs1.length ≤ 300 ∧ bs2.length ≤ 400 ∧ x.length ≤ 600 ∧ z.length ≤ 600) ?_ (fun σ' H' h => ?_)
      · have other : ∀ (T : Addr) (xs : List V) (z : Str), v = .ref T → SqT K H8 T (.str z :: xs) → z ≠ Str.ofString "round" → z ∈ [Str.ofString "far", Str.ofString "ends"] → True := fun _ _ _ _ _ _ _ => trivial
        cases hfo : fateF S us bd with
        | far =>
          rw [hfo] at hv
          obtain ⟨T, rfl, hT⟩ := hv
          walk_at "g"
          rw [show decide (Str.ofString "far" = Str.ofString "round") = false by decide +kernel]
          walk_at "g"
          refine k_nLst (by walk_at "sz") (fun p1 G1 m1 t1 f1 => ?_)
          walk_at "g"
          refine k_nTup (by walk_at "sz") (fun Tb G2 m2 t2 f2 => ?_)
          walk_at "g"
          refine k_nLst (by walk_at "sz") (fun p2 G3 m3 t3 f3 => ?_)
          walk_at "g"
          refine k_nLst (by walk_at "sz") (fun p3 G4 m4 t4 f4 => ?_)
          walk_at "g"
          refine k_nLst (by walk_at "sz") (fun p4 G5 m5 t5 f5 => ?_)
          walk_at "g"
          refine k_nTup (by walk_at "sz") (fun T2 G6 m6 t6 f6 => ?_)
          walk_at "g"
          have t46 := t4.trans (t5.trans t6)
          have t36 := t3.trans t46
          exact ⟨T2, p1, p2, p3, p4, [], [(0, true)], [], [], rfl, t1.trans (t2.trans t36), sq_t f6, ⟨⟨_, (t2.trans t36) _ _ f1, .nil⟩, ⟨_, t46 _ _ f3, .cons (.tup (sq_t (t36 _ _ f2)) (.cons (.int _) (.cons (.str _) .nil))) .nil⟩, (t5.trans t6) _ _ f4, t6 _ _ f5, (fun u hu => nomatch hu), (fun u hu => nomatch hu), by decide, by decide, by decide, by decide, fun b hb => by rw [List.mem_singleton.mp hb]; decide⟩, (fun b hb => nomatch hb), by decide, by decide, by decide, by decide⟩
        | ends n =>
          rw [hfo] at hv
          obtain ⟨T, rfl, hT⟩ := hv
          walk_at "g"
          rw [show decide (Str.ofString "ends" = Str.ofString "round") = false by decide +kernel]
          walk_at "g"
          refine k_nLst (by walk_at "sz") (fun p1 G1 m1 t1 f1 => ?_)
          walk_at "g"
          refine k_nTup (by walk_at "sz") (fun Tb G2 m2 t2 f2 => ?_)
          walk_at "g"
          refine k_nLst (by walk_at "sz") (fun p2 G3 m3 t3 f3 => ?_)
          walk_at "g"
          refine k_nLst (by walk_at "sz") (fun p3 G4 m4 t4 f4 => ?_)
          walk_at "g"
          refine k_nLst (by walk_at "sz") (fun p4 G5 m5 t5 f5 => ?_)
          walk_at "g"
          refine k_nTup (by walk_at "sz") (fun T2 G6 m6 t6 f6 => ?_)
          walk_at "g"
          have t46 := t4.trans (t5.trans t6)
          have t36 := t3.trans t46
          exact ⟨T2, p1, p2, p3, p4, [], [(0, true)], [], [], rfl, t1.trans (t2.trans t36), sq_t f6, ⟨⟨_, (t2.trans t36) _ _ f1, .nil⟩, ⟨_, t46 _ _ f3, .cons (.tup (sq_t (t36 _ _ f2)) (.cons (.int _) (.cons (.str _) .nil))) .nil⟩, (t5.trans t6) _ _ f4, t6 _ _ f5, (fun u hu => nomatch hu), (fun u hu => nomatch hu), by decide, by decide, by decide, by decide, fun b hb => by rw [List.mem_singleton.mp hb]; decide⟩, (fun b hb => nomatch hb), by decide, by decide, by decide, by decide⟩
        | round =>
          rw [hfo] at hv
          obtain ⟨T, p1, p2, p3, p4, bs1, bs2, x, z, R, rfl, hT, h4, _, _, w1, w2, ne, l1, l2⟩ := RndAt.told ok hw (by omega) (by omega) hv
          obtain ⟨wR, lR⟩ := walkF_words ok bs1 hw w1
          obtain ⟨wm, lm⟩ := walkF_words ok bs2 wR w2
          rw [List.length_append, List.length_append] at lm
          walk_at "g"
          rw [decide_eq_true (rfl : Str.ofString "round" = Str.ofString "round")]
          walk_at "g"
          exact ⟨T, p1, p2, p3, p4, bs1, bs2, x, z, rfl, Same.refl _, hT, h4, fun b hb => by
            have := walkF_small ok bs1 (N := 20000) hw w1 (by omega) b hb
            omega, by omega, by omega, by omega, by omega⟩
      obtain ⟨T, p1, p2, p3, p4, bs1, bs2, x, z, rfl, sC, hT, h4, hp1, lb1, lb2, lx, lz⟩ := h
      have hbC := hb8.sm sC
      walk_at "g"
      refine ⟨m, S, rfl, hM8.sm sC, ok, fun pw Hw nw sw ew => ?_⟩
      obtain ⟨u0, hu0⟩ : ∃ u0, (wordsF S.ls S.mo.toNat)[0]? = some u0 := by
        have := words_pos ok
        exact ⟨_, List.getElem?_eq_getElem this⟩
      have sCw := sC.trans sw
      walk_at "g"
      refine k_ix_l (sq_l ew) (at_n (j := 0) rfl (by unfold tS; rw [List.getElem?_map, hu0]; rfl)) ?_
      walk_at "g"
      refine ⟨b, T, p1, p2, p3, p4, _, u0, S, bs1, bs2, x, z, rfl, hbC.sm sw, ok, fun v hv => by rw [List.mem_singleton.mp hv]; exact List.mem_of_getElem? hu0, sm_t sw hT, h4.sm sw, hp1, ⟨lb1, lb2, lx, lz⟩, fun T2 q1 q2 q3 q4 bs1 bs2 x z H9 s9 e9 h4 hp1 lxz => ?_⟩
      have s89 := sCw.trans s9
      have hT2 := sq_t (K := K) e9
      walk_at "g"
      refine ⟨m, pr, T2, q1, q2, q3, q4, _, S, us, bs1, bs2, x, z, rfl, hM8.sm s89, ok, s89 _ _ e8, hw, by omega, hT2, h4, fun v10 H10 s10 hv10 => ?_⟩
      walk_at "g"
      refine k_ntW hv10 ?_
      have s810 := s89.trans s10
      have hT10 := sm_t s10 hT2
      have h410 := h4.sm s10
      walk_at "g"
      refine k_sl_t hT10 (fun Tc H11 s11 e11 => ?_)
      rw [cut_1] at e11
      have h411 := h410.sm s11
      walk_at "g"
      refine k_nLcD (walk_tup (xs := [V.ref q1, .ref q2, .ref q3, .ref q4])) (fun H' s => sm_t s e11) (fun i zs H' => DpAll K H' zs ((d4F bs1 bs2 x z).take i)) (fun i zs Ha Hb s h => dpall_sm s h) .nil (fun i zs Ha hi h => ?hz) (fun j v p Hc Hd zs Kp Ks hj hpn sa epx hzs hy hKp hKs => ?ht2) (fun pk H12 zs n12 s12 e12 hzs => ?he2)
      case hz =>
        have := dpall_len h
        rw [List.length_take] at this
        have e : (d4F bs1 bs2 x z).length = 4 := rfl
        omega
      case ht2 =>
        obtain ⟨rfl, hv⟩ := hy
        obtain ⟨p0, c0, ds, rfl, hd0, hp0, hc0⟩ := told_get (h411.sm sa) hv
        walk_at "g"
        refine ⟨rfl, ?_⟩
        walk_at "g"
        refine k_list_l (sq_l hp0) (fun pn H13 n13 s13 e13 => ?_)
        have npn : pn ≠ p := fun z => by rw [z, epx] at n13; cases n13
        refine hKp _ _ s13 ?_
        rw [take_more hd0]
        exact dpall_app (dpall_sm (del_mono s13) hzs) (.lst (sq_l ((del_ne npn).trans e13)) (hc0 _ fun _ _ h => del_t (s13 _ _ epx) (sm_t s13 h)))
      case he2 =>
        rw [show (d4F bs1 bs2 x z).take ([V.ref q1, .ref q2, .ref q3, .ref q4].length) = d4F bs1 bs2 x z from rfl] at hzs
        have s812 := s810.trans (s11.trans s12)
        have s1012 := s11.trans s12
        have hT12 := sm_t s1012 hT10
        have h412 := h410.sm s1012
        have gd := good_d4 ok h4 hp1
        walk_at "g"
        refine ⟨ah, pr, T2, q1, q2, q3, q4, _, S, us, bs1, bs2, x, z, false, rfl, hs8.sm s812, ok, sq_l (s812 _ _ e8), by omega, wl', hT12, h412, fun _ H13 s13 => ?_, fun j hj => absurd hj (by rw [bad]; exact fun z => nomatch z)⟩
        walk_at "g"
        refine ⟨_, _, .bool _, rfl, .bl _, .bl _, trivial, fun H14 s14 => ?_⟩
        have s814 := s812.trans (s13.trans s14)
        have s1214 := s13.trans s14
        have hb14 := hb8.sm s814
        generalize hg : (roundF S us bs1 bs2 x z).isSome = g
        walk_at "g"
        refine k_nLst (by walk_at "sz") (fun p15 H15 n15 s15 e15 => ?_)
        walk_at "g"
        refine ⟨b, .ref p15, rfl, hb14.sm s15, .inl ⟨p15, _, rfl, sq_l e15, by show 0 < 4; decide, by show 4 ≤ 100000; decide, fun vo hv => ?_⟩⟩
        obtain ⟨many, rfl, hmany⟩ : ∃ n : Int, vo = .int n ∧ (n = 2 ∨ ¬ (0 ≤ n ∧ n ≤ 60)) := by
          rcases List.mem_cons.mp hv with rfl | hv
          · exact ⟨_, rfl, .inr (by decide)⟩
          rcases List.mem_cons.mp hv with rfl | hv
          · exact ⟨_, rfl, .inr (by decide)⟩
          rcases List.mem_cons.mp hv with rfl | hv
          · have e : (10 : Int) ^ Int.toNat 20 = 100000000000000000000 := by decide
            exact ⟨_, rfl, .inr (by omega)⟩
          rcases List.mem_cons.mp hv with rfl | hv
          · exact ⟨_, rfl, .inl rfl⟩
          cases hv
        clear hv
        have s815 := s814.trans s15
        have s1215 := s1214.trans s15
        walk_at "g"
        with_reducible refine k_cut (fun σ' H' => σ' = [some (.ref a), some (.ref b), some (.int (i : Nat)), some (.ref m), some (.ref ah), some (.ref pr), some (.ref T), some (.ref T2), some (.bl g), some (.ref pk), some (.int many), some (.str (dueF g many)), y12] ∧ H15 = H') ?_ (fun σ' H' h => ?_)
        · cases g with
          | false =>
            walk_at "g"
            exact ⟨rfl, rfl⟩
          | true =>
            walk_at "g"
            refine k_dec (fun d => ?_) (fun d => ?_)
            · walk_at "g"
              refine ⟨?_, rfl⟩
              rw [show dueF true many = Str.ofString "" by unfold dueF; rw [if_neg (by decide), if_pos d]]
              rfl
            · walk_at "g"
              refine ⟨?_, rfl⟩
              rw [show dueF true many = Str.ofString "BadNumber" by unfold dueF; rw [if_neg (by decide), if_neg d]]
              rfl
        obtain ⟨rfl, rfl⟩ := h
        have hT15 := sm_t s1215 hT12
        have h415 := h412.sm s1215
        have hs15 := hs8.sm s815
        have e815 := s815 _ _ e8
        have hb15 := hb8.sm s815
        have tb15 := tabs_sm s815 hT8
        have ek15 := s1215 _ _ e12
        have dk15 := dpall_sm s1215 hzs
        clear hs8 e8 hb8 hT8 h412 h411 h410 h4 hT12 hT10 hT2 hzs
        obtain ⟨dpl, dll⟩ := due_ok g many
        walk_at "g"
        refine k_post (fun v H' => ∃ T x, v = .ref T ∧ ExtN H15 H' ∧ TbL K H' ∧ H' T = some (.tup [x, .str (dueF g many)])) (fun Q' hQ' => ?_) (fun v H' h => ?_)
        · refine k_lam tb15 (fun H6 x6 hT6 => ?_)
          refine k_why ?_
          walk_at "g"
          refine ⟨ah, pr, T2, q1, q2, q3, q4, _, S, us, bs1, bs2, x, z, false, many, rfl, hs15.ext x6, ok, sq_l (ext_lst x6 e815), by omega, wl', ext_t x6 hT15, h415.ext x6, by omega, fun _ R hR m0 m1 p H7 n7 s7 _ T8 H9 n9 s9 e9 => ?_, fun _ hR d H7 n7 s7 e7 => why_x0 wc2 e7 (fun T8 H9 n9 s9 e9 => ?_), fun _ hR hm d H7 n7 s7 e7 => why_x1 wc3 (by decide) e7 (fun T8 H9 n9 s9 e9 => ?_), fun j hj => absurd hj (by rw [bad]; exact fun z => nomatch z)⟩
          · have e2 : dueF g many = Str.ofString "" := by
              unfold dueF
              rw [if_neg (by rw [← hg, hR]; exact fun z => nomatch z), if_pos (by rcases hmany with h | h; exact h; exact absurd ⟨m0, m1⟩ h)]
            exact hQ' _ _ ⟨T8, _, rfl, x6.trans (same_ext (s7.trans s9)), tabs_sm (s7.trans s9) hT6, by rw [e2]; exact e9⟩
          · have e2 : dueF g many = Str.ofString "BadWish" := by
              unfold dueF
              rw [if_pos (by rw [← hg, hR]; rfl)]
            exact hQ' _ _ ⟨T8, _, rfl, x6.trans (same_ext (s7.trans s9)), tabs_sm (s7.trans s9) hT6, by rw [e2]; exact e9⟩
          · have e2 : dueF g many = Str.ofString "BadNumber" := by
              unfold dueF
              rw [if_neg (by rw [← hg, hR]; decide), if_neg (fun z => hm ⟨by omega, by omega⟩)]
            exact hQ' _ _ ⟨T8, _, rfl, x6.trans (same_ext (s7.trans s9)), tabs_sm (s7.trans s9) hT6, by rw [e2]; exact e9⟩
        obtain ⟨T8, v8, rfl, x8, t8, e8⟩ := h
        have e8t := sq_t (K := K) e8
        walk_at "g"
        rw [decide_eq_true (rfl : dueF g many = dueF g many)]
        walk_at "g"
        refine k_post (fun v H2 => ∃ T x, v = .ref T ∧ ExtN H' H2 ∧ TbL K H2 ∧ H2 T = some (.tup [x, .str (Str.ofString "BadWord")])) (fun Q' hQ' => ?_) (fun v H2 h => ?_)
        · refine k_lam t8 (fun H6 x6 hT6 => ?_)
          refine k_why ?_
          have xx := x8.trans x6
          have e6 := ext_lst xx e815
          walk_at "g"
          refine k_nLst (by walk_at "sz") (fun p7 H7 n7 s7 e7 => ?_)
          walk_at "g"
          refine k_add_l (s7 _ _ e6) e7 (by rw [len_tS]; show us.length + 1 ≤ _; omega) (fun p9 H9 n9 s9 e9 => ?_)
          have s79 := s7.trans s9
          have e9' : H9 p9 = some (.lst (tS (us ++ [[63]]))) := by
            rw [e9]
            unfold tS
            rw [List.map_append]
            rfl
          have bq := bad_end ok hw (by omega) (no_q ok)
          walk_at "g"
          refine ⟨ah, p9, T2, q1, q2, q3, q4, _, S, us ++ [[63]], bs1, bs2, x, z, false, rfl, (hs15.ext xx).sm s79, ok, sq_l e9', by rw [List.length_append]; show us.length + 1 ≤ _; omega, fun u hu => ?_, sm_t s79 (ext_t xx hT15), (h415.ext xx).sm s79, fun hb => absurd (bq.symm.trans hb) (fun z => nomatch z), fun j hj d H10 n10 s10 e10 => why_x1 wc1 (by decide) e10 (fun T8 H11 n11 s11 e11 => ?_)⟩
          · rcases List.mem_append.mp hu with hu | hu
            · exact wl' u hu
            · rw [List.mem_singleton.mp hu]
              decide
          · have sX := s79.trans (s10.trans s11)
            exact hQ' _ _ ⟨T8, _, rfl, x6.trans (same_ext sX), tabs_sm sX hT6, e11⟩
        obtain ⟨T9, v9, rfl, x9, t9, e9'⟩ := h
        have e9t := sq_t (K := K) e9'
        walk_at "g"
        rw [decide_eq_true (rfl : Str.ofString "BadWord" = Str.ofString "BadWord")]
        walk_at "g"
        refine k_post (fun v H3 => ∃ T x, v = .ref T ∧ ExtN H2 H3 ∧ TbL K H3 ∧ H3 T = some (.tup [x, .str (Str.ofString "BadWord")])) (fun Q' hQ' => ?_) (fun v H3 h => ?_)
        · refine k_lam t9 (fun H6 x6 hT6 => ?_)
          refine k_why ?_
          have xx := x8.trans (x9.trans x6)
          walk_at "g"
          refine k_nLst (by walk_at "sz") (fun p7 H7 n7 s7 e7 => ?_)
          have e7' : H7 p7 = some (.lst (tS ([] ++ [[63]]))) := by
            rw [e7]
            rfl
          have bq := bad_end ok (us := []) (fun u hu => nomatch hu) (by decide) (no_q ok)
          walk_at "g"
          refine ⟨ah, p7, T2, q1, q2, q3, q4, _, S, [] ++ [[63]], bs1, bs2, x, z, false, _, rfl, (hs15.ext xx).sm s7, ok, sq_l e7', by decide, fun u hu => ?_, sm_t s7 (ext_t xx hT15), (h415.ext xx).sm s7, by omega, fun hb => absurd (bq.symm.trans hb) (fun z => nomatch z), fun hb => absurd (bq.symm.trans hb) (fun z => nomatch z), fun hb => absurd (bq.symm.trans hb) (fun z => nomatch z), fun j hj d H10 n10 s10 e10 => why_x1 wc1 (by decide) e10 (fun T8 H11 n11 s11 e11 => ?_)⟩
          · rw [List.mem_singleton.mp (show u ∈ [[63]] from hu)]
            decide
          · have sX := s7.trans (s10.trans s11)
            exact hQ' _ _ ⟨T8, _, rfl, x6.trans (same_ext sX), tabs_sm sX hT6, e11⟩
        obtain ⟨T10, v10', rfl, x10, t10, e10'⟩ := h
        have e10t := sq_t (K := K) e10'
        have xx := x8.trans (x9.trans x10)
        have hTx := ext_t xx hT15
        have h4x := h415.ext xx
        walk_at "g"
        rw [decide_eq_true (rfl : Str.ofString "BadWord" = Str.ofString "BadWord")]
        walk_at "g"
        refine k_sl_t hTx (fun Td H21 s21 e21 => ?_)
        rw [cut_1] at e21
        have h421 := h4x.sm s21
        walk_at "g"
        refine k_nLcD (walk_tup (xs := [V.ref q1, .ref q2, .ref q3, .ref q4])) (fun H' s => sm_t s e21) (fun i zs H' => DpAll K H' zs ((d4F bs1 bs2 x z).take i)) (fun i zs Ha Hb s h => dpall_sm s h) .nil (fun i zs Ha hi h => ?hz3) (fun j v p Hc Hd zs Kp Ks hj hpn sa epx hzs hy hKp hKs => ?ht3) (fun p22 H22 zs n22 s22 e22 hzs => ?he3)
        case hz3 =>
          have := dpall_len h
          rw [List.length_take] at this
          have e : (d4F bs1 bs2 x z).length = 4 := rfl
          omega
        case ht3 =>
          obtain ⟨rfl, hv⟩ := hy
          obtain ⟨p0, c0, ds, rfl, hd0, hp0, hc0⟩ := told_get (h421.sm sa) hv
          walk_at "g"
          refine ⟨rfl, ?_⟩
          walk_at "g"
          refine k_list_l (sq_l hp0) (fun pn H13 n13 s13 e13 => ?_)
          have npn : pn ≠ p := fun z => by rw [z, epx] at n13; cases n13
          refine hKp _ _ s13 ?_
          rw [take_more hd0]
          exact dpall_app (dpall_sm (del_mono s13) hzs) (.lst (sq_l ((del_ne npn).trans e13)) (hc0 _ fun _ _ h => del_t (s13 _ _ epx) (sm_t s13 h)))
        case he3 =>
          rw [show (d4F bs1 bs2 x z).take ([V.ref q1, .ref q2, .ref q3, .ref q4].length) = d4F bs1 bs2 x z from rfl] at hzs
          have s2122 := s21.trans s22
          have ekx := s2122 _ _ (ext_lst xx ek15)
          have dkx := dpall_sm s2122 (dpall_ext xx dk15)
          walk_at "g"
          refine k_ne_d (.lst (sq_l e22) hzs) (.lst (sq_l ekx) dkx) (gd.shaped (by decide)) (gd.shaped (by decide)) ?_
          rw [eqv_self gd]
          walk_at "g"
          have xE := xx.trans (same_ext s2122)
          exact ⟨⟨_, _, _, _, _, _, _, _, _, _, _, rfl⟩, hb15.ext xE, tabs_sm s2122 t10⟩
end
end Lw
set_option autoImplicit true
set_option pp.maxSteps 1200
set_option Elab.async false
set_option linter.all false
set_option maxRecDepth 100000
set_option maxHeartbeats 1000000

namespace Lw
open PySem PySem.Spec PyProof.Rows L2 Gk
theorem facts {P : Program} {w : World} {K : PySem.W.Frag} {h : Heap} {mg : Str → Option Value} {f : Addr} (X : K.In h) (G : h.Ns mainGlobals mg) (hfa : mg ("law" : Str) = some (.ref f)) (c : SaysX fa fx fn K) :
    ∃ fd : FuncData, (∀ (s : Shared) (v : Value), BindsTo s fd ⟨[v], []⟩ [("_law_script", v)]) ∧ ∀ base : Heap, K.In base → base.Ns mainGlobals mg → LamX.TabB base mg (He.cT K ("law", none)).1 (He.cT K ("law", none)).2 → FnOk P w K mg base CX0 12 f fd ["_law_script"] (spLawT K) := by
  obtain ⟨fd0, F0⟩ := c.def_ 0 (d := dd0) rfl
  obtain ⟨fd1, F1⟩ := c.def_ 1 (d := dd1) rfl
  obtain ⟨fd2, F2⟩ := c.def_ 2 (d := dd2) rfl
  obtain ⟨fd3, F3⟩ := c.def_ 3 (d := dd3) rfl
  obtain ⟨fd4, F4⟩ := c.def_ 4 (d := dd4) rfl
  obtain ⟨fd5, F5⟩ := c.def_ 5 (d := dd5) rfl
  obtain ⟨fd6, F6⟩ := c.def_ 6 (d := dd6) rfl
  obtain ⟨fd7, F7⟩ := c.def_ 7 (d := dd7) rfl
  obtain ⟨fd8, F8⟩ := c.def_ 8 (d := dd8) rfl
  obtain ⟨fd9, F9⟩ := c.def_ 9 (d := dd9) rfl
  obtain ⟨fd10, F10⟩ := c.def_ 10 (d := dd10) rfl
  obtain ⟨fd11, F11⟩ := c.def_ 11 (d := dd11) rfl
  obtain ⟨fd12, F12⟩ := c.def_ 12 (d := dd12) rfl
  obtain ⟨fd13, F13⟩ := c.def_ 13 (d := dd13) rfl
  obtain ⟨fd14, F14⟩ := c.def_ 14 (d := dd14) rfl
  obtain ⟨fd15, F15⟩ := c.def_ 15 (d := dd15) rfl
  obtain ⟨fd16, F16⟩ := c.def_ 16 (d := dd16) rfl
  obtain ⟨fd17, F17⟩ := c.def_ 17 (d := dd17) rfl
  obtain ⟨fd18, F18⟩ := c.def_ 18 (d := dd18) rfl
  obtain ⟨fd19, F19⟩ := c.def_ 19 (d := dd19) rfl
  obtain ⟨fd20, F20⟩ := c.def_ 20 (d := dd20) rfl
  obtain ⟨fd21, F21⟩ := c.def_ 21 (d := dd21) rfl
  obtain ⟨fd22, F22⟩ := c.def_ 22 (d := dd22) rfl
  obtain ⟨fd23, F23⟩ := c.def_ 23 (d := dd23) rfl
  obtain ⟨fd24, F24⟩ := c.def_ 24 (d := dd24) rfl
  obtain ⟨fd25, F25⟩ := c.def_ 25 (d := dd25) rfl
  obtain ⟨fd26, F26⟩ := c.def_ 26 (d := dd26) rfl
  obtain ⟨fd27, F27⟩ := c.def_ 27 (d := dd27) rfl
  obtain ⟨fd28, F28⟩ := c.def_ 28 (d := dd28) rfl
  obtain ⟨fd29, F29⟩ := c.def_ 29 (d := dd29) rfl
  obtain ⟨fd30, F30⟩ := c.def_ 30 (d := dd30) rfl
  obtain ⟨fd31, F31⟩ := c.def_ 31 (d := dd31) rfl
  obtain ⟨fd32, F32⟩ := c.def_ 32 (d := dd32) rfl
  obtain ⟨fd33, F33⟩ := c.def_ 33 (d := dd33) rfl
  obtain ⟨fd34, F34⟩ := c.def_ 34 (d := dd34) rfl
  obtain ⟨fd35, F35⟩ := c.def_ 35 (d := dd35) rfl
  obtain ⟨fd36, F36⟩ := c.def_ 36 (d := dd36) rfl
  obtain ⟨fd37, F37⟩ := c.def_ 37 (d := dd37) rfl
  obtain ⟨fd38, F38⟩ := c.def_ 38 (d := dd38) rfl
  obtain ⟨fd39, F39⟩ := c.def_ 39 (d := dd39) rfl
  obtain ⟨fd40, F40⟩ := c.def_ 40 (d := dd40) rfl
  obtain ⟨fd41, F41⟩ := c.def_ 41 (d := dd41) rfl
  obtain ⟨fd42, F42⟩ := c.def_ 42 (d := dd42) rfl
  obtain ⟨fd43, F43⟩ := c.def_ 43 (d := dd43) rfl
  obtain ⟨fd44, F44⟩ := c.def_ 44 (d := dd44) rfl
  obtain ⟨fd45, F45⟩ := c.def_ 45 (d := dd45) rfl
  obtain ⟨fd46, F46⟩ := c.def_ 46 (d := dd46) rfl
  obtain ⟨fd47, F47⟩ := c.def_ 47 (d := dd47) rfl
  obtain ⟨fd48, F48⟩ := c.def_ 48 (d := dd48) rfl
  obtain ⟨fd49, F49⟩ := c.def_ 49 (d := dd49) rfl
  obtain ⟨fd50, F50⟩ := c.def_ 50 (d := dd50) rfl
  obtain ⟨fd51, F51⟩ := c.def_ 51 (d := dd51) rfl
  obtain ⟨fd52, F52⟩ := c.def_ 52 (d := dd52) rfl
  have g_BadNumber := He.glo_ok X G (c.fact 0 (f := .glo "BadNumber") rfl)
  have g_BadWish := He.glo_ok X G (c.fact 1 (f := .glo "BadWish") rfl)
  have g_BadWord := He.glo_ok X G (c.fact 2 (f := .glo "BadWord") rfl)
  have g_GulpError := He.glo_ok X G (c.fact 3 (f := .glo "GulpError") rfl)
  have g_House := He.glo_ok X G (c.fact 4 (f := .glo "House") rfl)
  have g_MissError := He.glo_ok X G (c.fact 5 (f := .glo "MissError") rfl)
  have g_NothingLeft := He.glo_ok X G (c.fact 6 (f := .glo "NothingLeft") rfl)
  have g_SIDES := He.glo_ok X G (c.fact 7 (f := .glo "SIDES") rfl)
  have g_Tree := He.glo_ok X G (c.fact 8 (f := .glo "Tree") rfl)
  have g_Lbag := He.glo_ok X G (c.fact 9 (f := .glo "_law_bag") rfl)
  have g_Lbehind := He.glo_ok X G (c.fact 10 (f := .glo "_law_behind") rfl)
  have g_Lbent_round := He.glo_ok X G (c.fact 11 (f := .glo "_law_bent_round") rfl)
  have g_Lcut := He.glo_ok X G (c.fact 12 (f := .glo "_law_cut") rfl)
  have g_Lgoing_house := He.glo_ok X G (c.fact 13 (f := .glo "_law_going_house") rfl)
  have g_Lgrown := He.glo_ok X G (c.fact 14 (f := .glo "_law_grown") rfl)
  have g_Lhouse := He.glo_ok X G (c.fact 15 (f := .glo "_law_house") rfl)
  have g_Lletters := He.glo_ok X G (c.fact 16 (f := .glo "_law_letters") rfl)
  have g_Lmade := He.glo_ok X G (c.fact 17 (f := .glo "_law_made") rfl)
  have g_Lmeasures := He.glo_ok X G (c.fact 18 (f := .glo "_law_measures") rfl)
  have g_Lone := He.glo_ok X G (c.fact 19 (f := .glo "_law_one") rfl)
  have g_Lpull := He.glo_ok X G (c.fact 20 (f := .glo "_law_pull") rfl)
  have g_Lround_of := He.glo_ok X G (c.fact 21 (f := .glo "_law_round_of") rfl)
  have g_Lrow := He.glo_ok X G (c.fact 22 (f := .glo "_law_row") rfl)
  have g_Lsame := He.glo_ok X G (c.fact 23 (f := .glo "_law_same") rfl)
  have g_Ltaste := He.glo_ok X G (c.fact 24 (f := .glo "_law_taste") rfl)
  have g_Lwalk := He.glo_ok X G (c.fact 25 (f := .glo "_law_walk") rfl)
  have g_Lwhy := He.glo_ok X G (c.fact 26 (f := .glo "_law_why") rfl)
  have g_Lwords := He.glo_ok X G (c.fact 27 (f := .glo "_law_words") rfl)
  have g_behind := He.glo_ok X G (c.fact 28 (f := .glo "behind") rfl)
  have g_bites_of := He.glo_ok X G (c.fact 29 (f := .glo "bites_of") rfl)
  have g_cut_long := He.glo_ok X G (c.fact 30 (f := .glo "cut_long") rfl)
  have g_fate := He.glo_ok X G (c.fact 31 (f := .glo "fate") rfl)
  have g_fate_holds := He.glo_ok X G (c.fact 32 (f := .glo "fate_holds") rfl)
  have g_followed := He.glo_ok X G (c.fact 33 (f := .glo "followed") rfl)
  have g_grown := He.glo_ok X G (c.fact 34 (f := .glo "grown") rfl)
  have g_is_word := He.glo_ok X G (c.fact 35 (f := .glo "is_word") rfl)
  have g_law := He.glo_ok X G (c.fact 36 (f := .glo "law") rfl)
  have g_need_eats := He.glo_ok X G (c.fact 37 (f := .glo "need_eats") rfl)
  have g_need_letters := He.glo_ok X G (c.fact 38 (f := .glo "need_letters") rfl)
  have g_need_row := He.glo_ok X G (c.fact 39 (f := .glo "need_row") rfl)
  have g_need_table := He.glo_ok X G (c.fact 40 (f := .glo "need_table") rfl)
  have g_place_within := He.glo_ok X G (c.fact 41 (f := .glo "place_within") rfl)
  have g_rounds := He.glo_ok X G (c.fact 42 (f := .glo "rounds") rfl)
  have g_turned := He.glo_ok X G (c.fact 43 (f := .glo "turned") rfl)
  have g_word_count := He.glo_ok X G (c.fact 44 (f := .glo "word_count") rfl)
  have f_all := He.free_ok X G (c.fact 45 (f := .free "all") rfl)
  have f_enumerate := He.free_ok X G (c.fact 46 (f := .free "enumerate") rfl)
  have f_isinstance := He.free_ok X G (c.fact 47 (f := .free "isinstance") rfl)
  have f_len := He.free_ok X G (c.fact 48 (f := .free "len") rfl)
  have f_list := He.free_ok X G (c.fact 49 (f := .free "list") rfl)
  have f_max := He.free_ok X G (c.fact 50 (f := .free "max") rfl)
  have f_min := He.free_ok X G (c.fact 51 (f := .free "min") rfl)
  have f_range := He.free_ok X G (c.fact 52 (f := .free "range") rfl)
  have f_repr := He.free_ok X G (c.fact 53 (f := .free "repr") rfl)
  have f_set := He.free_ok X G (c.fact 54 (f := .free "set") rfl)
  have f_sorted := He.free_ok X G (c.fact 55 (f := .free "sorted") rfl)
  have f_sum := He.free_ok X G (c.fact 56 (f := .free "sum") rfl)
  have f_tuple := He.free_ok X G (c.fact 57 (f := .free "tuple") rfl)
  have f_zip := He.free_ok X G (c.fact 58 (f := .free "zip") rfl)
  have c_MOST_FAR := He.int_ok X G (c.fact 59 (f := .int "MOST_FAR" 400) rfl)
  have c_MOST_ROUNDS := He.int_ok X G (c.fact 60 (f := .int "MOST_ROUNDS" 60) rfl)
  have c_MOST_ROW := He.int_ok X G (c.fact 61 (f := .int "MOST_ROW" 12) rfl)
  have c_MOST_TASTES := He.int_ok X G (c.fact 62 (f := .int "MOST_TASTES" 4) rfl)
  have c_MOST_WORDS := He.int_ok X G (c.fact 63 (f := .int "MOST_WORDS" 14) rfl)
  have c_SMALL := He.str_ok X G (c.fact 64 (f := .str "SMALL" "abcdefghijklmnopqrstuvwxyz") rfl)
  have a_House := c.fact 65 (f := .cls "House") rfl
  have a_mk := c.fact 66 (f := .mkr "House") rfl
  have n1 := c.fact 67 (f := .noat "House" "signs") rfl
  have n2 := c.fact 68 (f := .noat "House" "rooms") rfl
  have n3 := c.fact 69 (f := .noat "House" "triples") rfl
  have n4 := c.fact 70 (f := .noat "House" "chewed") rfl
  have n5 := c.fact 71 (f := .noat "House" "putting") rfl
  have n6 := c.fact 72 (f := .noat "House" "span") rfl
  have n7 := c.fact 73 (f := .noat "House" "cutting") rfl
  have a_Tree := c.fact 74 (f := .cls "Tree") rfl
  have t_mk := c.fact 75 (f := .mkr "Tree") rfl
  have t1 := c.fact 76 (f := .noat "Tree" "home") rfl
  have t2 := c.fact 77 (f := .noat "Tree" "line") rfl
  have t3 := c.fact 78 (f := .noat "Tree" "above") rfl
  have t4 := c.fact 79 (f := .noat "Tree" "below") rfl
  have m_House_letters := c.fact 80 (f := .meth "House" "letters") rfl
  have m_House_most := c.fact 81 (f := .meth "House" "most") rfl
  have m_House_tasted := c.fact 82 (f := .meth "House" "tasted") rfl
  have m_House_chew := c.fact 83 (f := .meth "House" "chew") rfl
  have m_House_put := c.fact 84 (f := .meth "House" "put") rfl
  have m_House_cut := c.fact 85 (f := .meth "House" "cut") rfl
  have m_Tree_way := c.fact 86 (f := .meth "Tree" "way") rfl
  have m_Tree_round_at := c.fact 87 (f := .meth "Tree" "round_at") rfl
  have m_Tree_next_rows := c.fact 88 (f := .meth "Tree" "next_rows") rfl
  have m_Tree_grown := c.fact 89 (f := .meth "Tree" "grown") rfl
  have m_Tree_longest := c.fact 90 (f := .meth "Tree" "longest") rfl
  have m_Tree_ring := c.fact 91 (f := .meth "Tree" "ring") rfl
  have x0 := c.more 0 (f := .tup "SIDES" [.str "left", .str "right"]) rfl
  have x1 := c.more 1 (f := .oex "BadWord") rfl
  have x2 := c.more 2 (f := .field "BadWord" "word") rfl
  have x3 := c.more 3 (f := .field "BadWord" "at") rfl
  have x4 := c.more 4 (f := .oex "BadNumber") rfl
  have x5 := c.more 5 (f := .field "BadNumber" "word") rfl
  have x6 := c.more 6 (f := .field "BadNumber" "number") rfl
  have x7 := c.more 7 (f := .oex "BadWish") rfl
  have x8 := c.more 8 (f := .field "BadWish" "word") rfl
  have x9 := c.more 9 (f := .exm "BadWord" "GulpError" true) rfl
  have x10 := c.more 10 (f := .exm "BadWish" "GulpError" true) rfl
  have x11 := c.more 11 (f := .exm "BadNumber" "GulpError" true) rfl
  have e := hfa.symm.trans g_law
  cases e
  have b := FunD.bindsA (ps := ["_law_script"]) F52 fun _ _ _ _ _ _ us hl => match us, hl with | [_], _ => rfl
  refine ⟨fd52, fun s v => b s [v] rfl, fun base Kb Gb tb => ?_⟩
  have c_SIDES : GloT K mg "SIDES" [V.str (Str.ofString "left"), V.str (Str.ofString "right")] := ⟨g_SIDES, fun H => He.tupB_ok (vs := [.str "left", .str "right"]) x0 H⟩
  have c_Lbag := ok_Lbag (P := P) (w := w) (K := K) (mg := mg) (base := base) F0 g_Lbag f_len f_list
  have c_Lpull := ok_Lpull (P := P) (w := w) (K := K) (mg := mg) (base := base) F1 g_Lpull f_len
  have c_Lone := ok_Lone (P := P) (w := w) (K := K) (mg := mg) (base := base) F2 g_Lone f_len c_Lpull
  have c_Lsame := ok_Lsame (P := P) (w := w) (K := K) (mg := mg) (base := base) F3 g_Lsame f_len f_isinstance f_list f_tuple f_repr f_zip f_all 4
  have c_Lletters := ok_Lletters (P := P) (w := w) (K := K) (mg := mg) (base := base) F4 g_Lletters f_range f_sorted c_Lpull
  have hC : HsC K := ⟨He.cls_ok a_House, He.noat_ok n1, He.noat_ok n2, He.noat_ok n3, He.noat_ok n4, He.noat_ok n5, He.noat_ok n6, He.noat_ok n7⟩
  have c_word_count := ok_word_count (P := P) (w := w) (K := K) (mg := mg) (base := base) F5 g_word_count f_sum
  have c_need_letters := ok_need_letters (P := P) (w := w) (K := K) (mg := mg) (base := base) F6 g_need_letters f_len f_all f_sorted f_set c_SMALL
  have c_need_table := ok_need_table (P := P) (w := w) (K := K) (mg := mg) (base := base) F7 g_need_table f_len f_all f_enumerate c_MOST_TASTES
  have c_need_eats := ok_need_eats (P := P) (w := w) (K := K) (mg := mg) (base := base) F8 g_need_eats f_enumerate c_SIDES
  have c_House_init := ok_House_init (P := P) (w := w) (K := K) (mg := mg) (base := base) F9 hC f_tuple f_sorted f_all f_len c_MOST_WORDS c_need_eats c_need_table c_word_count c_need_letters
  have c_House_letters := ok_House_letters (P := P) (w := w) (K := K) (mg := mg) (base := base) F10 hC (He.meth_ok m_House_letters)
  have c_House_most := ok_House_most (P := P) (w := w) (K := K) (mg := mg) (base := base) F11 hC (He.meth_ok m_House_most)
  have c_House_tasted := ok_House_tasted (P := P) (w := w) (K := K) (mg := mg) (base := base) F12 hC (He.meth_ok m_House_tasted)
  have c_House_chew := ok_House_chew (P := P) (w := w) (K := K) (mg := mg) (base := base) F13 hC (He.meth_ok m_House_chew)
  have c_House_put := ok_House_put (P := P) (w := w) (K := K) (mg := mg) (base := base) F14 hC (He.meth_ok m_House_put)
  have c_House_cut := ok_House_cut (P := P) (w := w) (K := K) (mg := mg) (base := base) F15 hC (He.meth_ok m_House_cut)
  have c_is_word := ok_is_word (P := P) (w := w) (K := K) (mg := mg) (base := base) F16 g_is_word f_len f_all c_House_letters c_House_most
  have c_BadWord := made_BadWord (P := P) (w := w) (K := K) (mg := mg) (base := base) F17 g_BadWord (oex_ok x1) (of_decide_eq_true x2) (of_decide_eq_true x3)
  have c_need_row := ok_need_row (P := P) (w := w) (K := K) (mg := mg) (base := base) F18 g_need_row f_len f_enumerate c_MOST_ROW c_is_word c_BadWord
  have c_cut_long := ok_cut_long (P := P) (w := w) (K := K) (mg := mg) (base := base) F19 g_cut_long f_len c_House_most c_House_cut
  have c_grown := ok_grown (P := P) (w := w) (K := K) (mg := mg) (base := base) F20 g_grown f_len f_max c_House_put c_House_chew
  have c_behind := ok_behind (P := P) (w := w) (K := K) (mg := mg) (base := base) F21 g_behind hC f_len f_min c_House_tasted c_cut_long c_grown
  have c_bites_of := ok_bites_of (P := P) (w := w) (K := K) (mg := mg) (base := base) F22 g_bites_of f_len f_range c_behind
  have c_followed := ok_followed (P := P) (w := w) (K := K) (mg := mg) (base := base) F23 g_followed f_enumerate c_behind
  have hTr : TrC K := ⟨He.cls_ok a_Tree, He.noat_ok t1, He.noat_ok t2, He.noat_ok t3, He.noat_ok t4⟩
  have c_place_within := ok_place_within (P := P) (w := w) (K := K) (mg := mg) (base := base) F24 g_place_within f_range f_len
  have c_Tree_init := ok_Tree_init (P := P) (w := w) (K := K) (mg := mg) (base := base) F25 hTr
  have c_Tree := Tree_made F25 g_Tree (He.mkr_ok t_mk) c_Tree_init
  have c_Tree_way := ok_Tree_way (P := P) (w := w) (K := K) (mg := mg) (base := base) F26 hTr (He.meth_ok m_Tree_way)
  have c_Tree_round_at := ok_Tree_round_at (P := P) (w := w) (K := K) (mg := mg) (base := base) F27 hTr (He.meth_ok m_Tree_round_at) f_list f_len c_place_within c_Tree_way
  have c_Tree_next_rows := ok_Tree_next_rows (P := P) (w := w) (K := K) (mg := mg) (base := base) F28 hTr (He.meth_ok m_Tree_next_rows) f_list f_tuple c_bites_of
  have c_Tree_grown := ok_Tree_grown (P := P) (w := w) (K := K) (mg := mg) (base := base) F29 hTr (He.meth_ok m_Tree_grown) f_len c_Tree_next_rows c_Tree_round_at
  have c_Tree_longest := ok_Tree_longest (P := P) (w := w) (K := K) (mg := mg) (base := base) F30 hTr (He.meth_ok m_Tree_longest) f_all f_max
  have c_Tree_ring := ok_Tree_ring (P := P) (w := w) (K := K) (mg := mg) (base := base) F31 hTr (He.meth_ok m_Tree_ring) f_len c_Tree_way
  have c_BadNumber := made_BadNumber (P := P) (w := w) (K := K) (mg := mg) (base := base) F32 g_BadNumber (oex_ok x4) (of_decide_eq_true x5) (of_decide_eq_true x6)
  have c_fate_most := ok_fate__most (P := P) (w := w) (K := K) (mg := mg) (base := base) F33 g_fate f_len f_tuple c_MOST_FAR c_need_row c_BadNumber c_Tree c_Tree_grown c_Tree_longest c_Tree_ring hTr
  have c_fate := ok_fate (P := P) (w := w) (K := K) (mg := mg) (base := base) F33 g_fate f_len f_tuple c_MOST_FAR c_need_row c_BadNumber c_Tree c_Tree_grown c_Tree_longest c_Tree_ring hTr
  have c_Lmeasures := ok_Lmeasures (P := P) (w := w) (K := K) (mg := mg) (base := base) F34 g_Lmeasures c_Lone
  have c_Lhouse := ok_Lhouse (P := P) (w := w) (K := K) (mg := mg) (base := base) F35 g_Lhouse f_range f_tuple f_sum c_Lpull c_Lone c_Lmeasures c_Lletters
  have c_House := House_made F9 g_House (He.mkr_ok a_mk) c_House_init
  have c_Lmade := ok_Lmade (P := P) (w := w) (K := K) (mg := mg) (base := base) F36 g_Lmade f_list c_House
  have c_Lwords := ok_Lwords (P := P) (w := w) (K := K) (mg := mg) (base := base) F37 g_Lwords f_range
  have c_Ltaste := ok_Ltaste (P := P) (w := w) (K := K) (mg := mg) (base := base) F38 g_Ltaste
  have c_Lcut := ok_Lcut (P := P) (w := w) (K := K) (mg := mg) (base := base) F39 g_Lcut f_len
  have c_Lgrown := ok_Lgrown (P := P) (w := w) (K := K) (mg := mg) (base := base) F40 g_Lgrown f_len f_range
  have c_Lbehind := ok_Lbehind (P := P) (w := w) (K := K) (mg := mg) (base := base) F41 g_Lbehind f_len f_min c_Ltaste c_Lcut c_Lgrown
  have c_Lrow := ok_Lrow (P := P) (w := w) (K := K) (mg := mg) (base := base) F42 g_Lrow f_range c_Lpull c_Lone c_Lwords
  have c_Lwalk := ok_Lwalk (P := P) (w := w) (K := K) (mg := mg) (base := base) F43 g_Lwalk c_Lbehind
  have c_Lround_of := ok_Lround_of (P := P) (w := w) (K := K) (mg := mg) (base := base) F44 g_Lround_of c_Lwalk
  have c_Lgoing_house := ok_Lgoing_house (P := P) (w := w) (K := K) (mg := mg) (base := base) F45 g_Lgoing_house c_Lpull c_Lone c_Lhouse
  have c_turned := ok_turned (P := P) (w := w) (K := K) (mg := mg) (base := base) F46 g_turned f_len f_list c_followed
  have c_fate_holds := ok_fate_holds (P := P) (w := w) (K := K) (mg := mg) (base := base) F47 g_fate_holds c_need_row c_turned
  have c_BadWish := made_BadWish (P := P) (w := w) (K := K) (mg := mg) (base := base) F48 g_BadWish (oex_ok x7) (of_decide_eq_true x8)
  have c_rounds := ok_rounds (P := P) (w := w) (K := K) (mg := mg) (base := base) F49 g_rounds f_list c_MOST_ROUNDS c_need_row c_turned c_BadWish c_BadNumber
  have c_Lwhy := ok_Lwhy (P := P) (w := w) (K := K) (mg := mg) (base := base) F50 g_Lwhy g_GulpError g_MissError g_NothingLeft
  have c_Lbent_round := ok_Lbent_round (P := P) (w := w) (K := K) (mg := mg) (base := base) F51 g_Lbent_round f_list f_len c_Lpull
  exact ok_law (P := P) (w := w) (K := K) (mg := mg) (base := base) F52 tb f_range f_list (of_decide_eq_true x9) (of_decide_eq_true x10) (of_decide_eq_true x11) c_BadWord c_BadWish c_BadNumber c_Lbag c_Lpull c_Lone c_Lsame c_Lgoing_house c_Lmade c_Lrow c_Lwords c_Lbent_round c_Lround_of c_fate_holds c_rounds c_fate_most c_Lwhy
end Lw
open PySem PySem.W PySem.Calls PyProof.Rows
theorem PySem.Challenge.cw_gulprow_k44_rounds_judged_holds : PySem.Challenge.rw_gulprow_k44_rounds_judged.Holds := by
  refine Lw.pre ?hc
  case hc =>
    refine LamX.walk_ofTsE (l := PySem.Challenge.rw_gulprow_k44_rounds_judged) (n := 63) (k := 12) (x := "_law_script") (CX := fun _ => L2.CX0) rfl (by decide) (by kernel_rfl) ⟨rfl, by decide, by decide⟩ ?F (fun _ _ _ _ _ z => z)
    intro w mg fa h Y G hmg0
    obtain ⟨K, KX, c⟩ := Y
    have hmg : mg ("law" : PySem.Str) = some (.ref fa) := by
      have e : (HandSHeadRun.topDef (OpenLaw.row PySem.Challenge.rw_gulprow_k44_rounds_judged).prog 69).name = ("law" : PySem.Str) := by kernel_rfl
      rw [← e]
      exact hmg0
    obtain ⟨fd, hb, hF⟩ := Lw.facts (P := (PySem.Challenge.rw_gulprow_k44_rounds_judged).prog) (w := w) KX G hmg c.x
    have m1 : (("law" : Str), (none : Option Str)) ∈ [(("law" : Str), (none : Option Str))] := List.mem_singleton.mpr rfl
    exact ⟨K, KX, fd, [He.cT K ("law", none)], Lw.spLawT K, fun p hp => by rw [List.mem_singleton.mp hp]; exact c.empty _ m1, fun p hp => by rw [List.mem_singleton.mp hp]; exact c.out _ m1, fun p hp => by rw [List.mem_singleton.mp hp]; exact PySem.W.codeHd_of_K KX (c.hd _ m1), hb, fun H a ns hl _ ht hS => ⟨a, ns, rfl, hS, hl, ht _ (List.mem_singleton.mpr rfl), fun _ => rfl⟩, fun base Kb Gb hT => hF base Kb Gb (hT _ (List.mem_singleton.mpr rfl))⟩
