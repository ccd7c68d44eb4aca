import PyProof.Rows.All
import HandS.ExcInit
import HandS.ExcField
import KE.KExcInit
import Wide.All
import OpenK.AllK
import Wide.FinOn
import KE.KStateDown
import HandS.ForMost
import HandS.Exc
import HandS.ExcOwn
import HandS.TryOnly
import HandS.TryMany
import HandS.WordsExc
import HandS.Flow
import HandS.Walk
import HandS.Steps
import HandS.Evl
import HandS.Zip
import HandS.IsInst
import HandS.Wide
import HandS.TupAny
import HandS.RaiseMore
import HandS.Defaults
import HandS.More
import HandS.Head0
import HandS.Head1
import HandS.Head2
import HandS.HeadEnd
import HandS.HeadHook1
import HandS.HeadHook2
import HandS.HeadHook4
import HandS.Set
import HandS.Strs
import HandS.SetBool
import HandS.TupSets
import HandS.SetTxt0
import HandS.SetFor
import HandS.SetTxtIn
import PyProof.EnumMake
import KE.SortData
import HandS.MakeKwOnly
import HandS.Replace
import HandS.Dict
import HandS.Deep
import HandS.CallSlots
import HandS.Style
import KE.GoesEnum
import KE.GoesMore
import HandS.Conv
import HandS.Lambda
import HandS.EndTab
import HandS.HeadWalk
import HandS.NestedK
import HandS.DictComp
import HandS.DictTup
import HandS.Iter
import KE.KDictSum
import KE.DatumOrd
import KE.KUnpackStar
import HandS.OwnEq
import HandS.Codes
import HandS.HeadHook3
import KE.KDictDisplayH
import KE.KSortKey
import KE.SortKeyHeap
import HandS.SortKw
import HandS.Nested
import HandS.TupLen
import Wide.Once
import Lean
import HandS.Base
import HandS.Call
import HandS.Ends
import HandS.Words
import PySem.Challenge.RW_gulprow_k20_lots_judged
set_option autoImplicit true
set_option Elab.async false
set_option linter.all false
set_option maxRecDepth 100000
set_option maxHeartbeats 4000000
/-! # Exception classes over any of the built-in bases, made by their own __init__ -/
namespace Gk
open PySem PySem.Spec PyProof.Rows L2
open Builtin Builtin.ObjectAttr
/-- own classes, then the base's line -/
def ownT (tl : List Value) : List Value → Bool
  | .ref _ :: r => ownT tl r
  | l => l == tl
/-! ### rules -/
/-! ### what the head tells of such a class -/
def oexGB (K : PySem.W.Frag) (newId : String) (tl : List Value) (C : Addr) : Bool := match K.lookup C with
  | some ⟨.type t, _, .cls cd, sl⟩ => (match cd.mro, sl.toList with
    | .ref C' :: bm, [_, _, _, _, some (.builtin n), _] => decide (t = "type") && (decide (C' = C) && (decide (n = newId) && (!cd.hasDel && (cd.hasDict && ownT tl bm))))
    | _, _ => false)
  | _ => false
abbrev leT : List Value := [.type "LookupError", .type "Exception", .type "BaseException", .type "object"]
end Gk
set_option autoImplicit true
set_option Elab.async false
set_option linter.all false
set_option maxRecDepth 100000
set_option maxHeartbeats 4000000
/-! # The common part: facts of the top, callees, steps of readings -/
namespace Gk
open PySem PySem.Spec PyProof.Rows L2

/-! ## 1. Facts of the top beyond those of the modules -/
/-- an own exception class under ValueError, as ExcInit wants it -/
def oexB (K : PySem.W.Frag) (C : Addr) : Bool := match K.lookup C with
  | some ⟨.type t, _, .cls cd, sl⟩ => (match cd.mro, sl.toList with
    | .ref C' :: bm, [_, _, _, _, some (.builtin n), _] => decide (t = "type") && (decide (C' = C) && (decide (n = "ValueError.__new__") && (!cd.hasDel && (cd.hasDict && PySem.HandSPX.refsVE bm))))
    | _, _ => false)
  | _ => false
inductive Fx where
  /-- an exception class with an __init__ of its own -/
  | oex (x : Str)
  /-- .. over LookupError -/
  | oexL (x : Str)
  /-- the class is an exception's (what a clause names) -/
  | exc (x : Str)
  | field (x f : Str)
  | exm (x y : Str) (b : Bool)
  | str (x z : Str)
  | tup (x : Str) (vs : List He.Dv)
  /-- what isinstance asks of an own class -/
  | isC (x : Str)
  /-- two defs' tables of code objects stand apart -/
  | ptn (x y : Str)
def Fx.ok (K : PySem.W.Frag) : Fx → Bool
  | .oex x => oexB K (He.ga K x) && (decide (PySem.W.findIn K (.ref (He.ga K x)) "__setattr__" = some (some (.builtin "object.__setattr__"))) && (decide (PySem.W.subIn K (.ref (He.ga K x)) (.type "BaseException") = some true) && (decide (PySem.W.typeIn K (.ref (He.ga K x)) = some (.type "type")) &&
      (PySem.W.keepIn K (.ref (He.ga K x)) && (decide (PySem.W.findIn K (.ref (He.ga K x)) "__init__" = some (some (.ref (He.ma K (He.ga K x) "__init__")))) && (decide (PySem.W.typeIn K (.ref (He.ma K (He.ga K x) "__init__")) = some (.type "function")) && xfB K (He.ga K x)))))))
  | .oexL x => oexGB K "LookupError.__new__" leT (He.ga K x) && (decide (PySem.W.findIn K (.ref (He.ga K x)) "__setattr__" = some (some (.builtin "object.__setattr__"))) && (decide (PySem.W.subIn K (.ref (He.ga K x)) (.type "BaseException") = some true) && (decide (PySem.W.typeIn K (.ref (He.ga K x)) = some (.type "type")) &&
      (PySem.W.keepIn K (.ref (He.ga K x)) && (decide (PySem.W.findIn K (.ref (He.ga K x)) "__init__" = some (some (.ref (He.ma K (He.ga K x) "__init__")))) && (decide (PySem.W.typeIn K (.ref (He.ma K (He.ga K x) "__init__")) = some (.type "function")) && xfB K (He.ga K x)))))))
  | .exc x => decide (PySem.W.subIn K (.ref (He.ga K x)) (.type "BaseException") = some true) && decide (PySem.W.typeIn K (.ref (He.ga K x)) = some (.type "type"))
  | .field x f => decide (PySem.W.findIn K (.ref (He.ga K x)) f = some none)
  | .exm x y b => decide (PySem.W.exmOne K (.ref (He.ga K x)) (.ref (He.ga K y)) = some b)
  | .str x z => (match PySem.W.nsIn K mainGlobals x with
    | some (some (.str y _)) => decide (y = z)
    | _ => false)
  | .tup x vs => He.tupB K x vs
  | .ptn x y => decide ((He.cT K (x, none)).2 ≠ (He.cT K (y, none)).2)
  | .isC x => decide (PySem.W.findIn K (.ref (He.ga K x)) "__class__" = some (some (.builtin "object.__class__"))) && (decide (PySem.W.specialIn K (.builtin "object.__class__") "__get__" = some (some (.builtin "getset_descriptor.__get__"))) && (decide (PySem.W.takesIn K (.builtin "object.__class__") = some true) && (decide (PySem.W.mroIn K (He.ga K x) (.type "object") = some true) && decide (PySem.W.kitOne K (.ref (He.ga K x)) (.ref (He.ga K x)) = some true))))
/-! ## 2. The head's Hook -/
abbrev AlX : Type := Bool × List He.FnW
def obsX (fa : List He.Fa) (fx : List Fx) (fn : List He.DefD) (K : PySem.W.Frag) : AlX := ((fa.all fun f => f.ok K) && ((fx.all fun f => f.ok K) && fn.all fun d => d.ok K), fn.map fun d => He.fnW K d.at_)
def valX (fn : List He.DefD) : AlX := (true, fn.map He.DefD.val)
def SaysX (fa : List He.Fa) (fx : List Fx) (fn : List He.DefD) (K : PySem.W.Frag) : Prop := obsX fa fx fn K = valX fn
end Gk
set_option Elab.async false
set_option autoImplicit false
set_option linter.all false
set_option maxRecDepth 100000
set_option maxHeartbeats 4000000
/-! # Sets of tuples whose items are ints and texts: adding, gathering, sorting; the set comprehension over any kind of set -/
set_option Elab.async false
set_option autoImplicit false
set_option linter.all false
set_option maxRecDepth 100000
set_option maxHeartbeats 4000000
set_option Elab.async false
set_option autoImplicit false
set_option linter.all false
set_option maxRecDepth 100000
set_option maxHeartbeats 4000000
/-! # Sets as things of the layer: rules and steps -/
set_option Elab.async false
set_option autoImplicit false
set_option linter.all false
set_option maxRecDepth 100000
set_option maxHeartbeats 4000000
/-! # Own classes, dicts, lists that grow: rules by name, steps -/
set_option Elab.async false
set_option autoImplicit false
set_option linter.all false
set_option maxRecDepth 100000
set_option maxHeartbeats 4000000
/-! # LookupErrors with a field, deep membership in tuples, while, slices by codes -/
set_option Elab.async false
set_option autoImplicit false
set_option linter.all false
set_option maxRecDepth 100000
set_option maxHeartbeats 4000000
/-! # enumerate over tuples, rows that are lists or tuples -/
set_option Elab.async false
set_option autoImplicit false
set_option linter.all false
set_option maxRecDepth 100000
set_option maxHeartbeats 4000000
/-! # lambdas without parameters, handed to a def that calls them; a Hook that tells empty tables -/
namespace Gk
open PySem PySem.Spec PyProof.Rows L2 LamX
/-! ## the Hook -/
structure SaysL (fa : List He.Fa) (fx : List Fx) (fn : List He.DefD) (tf : List He.Defn) (h : Heap) (K : PySem.W.Frag) : Prop where
  x : SaysX fa fx fn K
  hd : ∀ p ∈ tf, PySem.W.codeHdIn K (He.cT K p).1 (He.cT K p).2 = true
  out : ∀ p ∈ tf, K.lookup (He.cT K p).2 = none
  empty : ∀ p ∈ tf, h.get? (He.cT K p).2 = some { cls := .none, data := .fields #[] }
abbrev AlL : Type := AlX × Bool
def obsLG (n : Nat) (fa : List He.Fa) (fx : List Fx) (fn : List He.DefD) (tf : List He.Defn) (g : Addr → Option Obj) : AlL := (obsX fa fx fn (He.frT g (He.asD g n)), He.tabsB g tf (He.frT g (He.asD g n)))
theorem saysL_of {n : Nat} {fa : List He.Fa} {fx : List Fx} {fn : List He.DefD} {tf : List He.Defn} {h : Heap} (e : obsLG n fa fx fn tf h.get? = (valX fn, true)) : SaysL fa fx fn tf h (He.frT h.get? (He.asD h.get? n)) := by
  have e1 : obsX fa fx fn (He.frT h.get? (He.asD h.get? n)) = valX fn := congrArg (fun z : AlL => z.1) e
  have e2 : He.tabsB h.get? tf (He.frT h.get? (He.asD h.get? n)) = true := congrArg (fun z : AlL => z.2) e
  have key : ∀ p ∈ tf, PySem.W.codeHdIn (He.frT h.get? (He.asD h.get? n)) (He.cT (He.frT h.get? (He.asD h.get? n)) p).1 (He.cT (He.frT h.get? (He.asD h.get? n)) p).2 = true ∧ ∃ o, h.get? (He.cT (He.frT h.get? (He.asD h.get? n)) p).2 = some o ∧ He.emptyTab o = true := fun p hp => by
    obtain ⟨h3, h4⟩ := He.ba (List.all_eq_true.mp e2 p hp)
    refine ⟨h3, ?_⟩
    cases q : h.get? (He.cT (He.frT h.get? (He.asD h.get? n)) p).2 with
    | none =>
      rw [q] at h4
      cases h4
    | some o =>
      rw [q] at h4
      exact ⟨o, rfl, h4⟩
  exact ⟨e1, fun p hp => (key p hp).1, fun p hp => by
    obtain ⟨_, o, q, z⟩ := key p hp
    exact He.frT_none q z, fun p hp => by
    obtain ⟨_, o, q, z⟩ := key p hp
    rw [q, He.emptyTab_eq z]⟩
end Gk
set_option Elab.async false
set_option autoImplicit false
set_option linter.all false
set_option maxRecDepth 100000
set_option maxHeartbeats 4000000
/-! # several clauses `except x as n` -/
set_option Elab.async false
set_option autoImplicit false
set_option linter.all false
set_option maxRecDepth 100000
set_option maxHeartbeats 4000000
/-! # dicts: their values summed, comprehensions that make them -/
set_option Elab.async false
set_option autoImplicit false
set_option linter.all false
set_option maxRecDepth 100000
set_option maxHeartbeats 4000000
/-! # the order of data; list.index -/
set_option Elab.async false
set_option autoImplicit false
set_option linter.all false
set_option maxRecDepth 100000
set_option maxHeartbeats 4000000
/-! # x, *xs = tuple -/
set_option Elab.async false
set_option autoImplicit false
set_option linter.all false
set_option maxRecDepth 100000
set_option maxHeartbeats 4000000
/-! # list.pop(i); set(list of tuples); sorted(text); == by an own __eq__ -/
set_option Elab.async false
set_option autoImplicit false
set_option linter.all false
set_option maxRecDepth 100000
set_option maxHeartbeats 4000000
/-! # a dict of the module, texts to ints: the Hook that tells it, `in`, `[]` -/
namespace Gk
open PySem PySem.Spec PyProof.Rows L2 LamX
/-! ## the Hook -/
abbrev DTab : Type := Str × List (Str × Int)
def dvalsB (K : PySem.W.Frag) (t : DTab) : Bool := He.valsB K (He.ga K t.1) (t.2.map fun q => (q.1, He.Dv.int q.2))
structure SaysF (fa : List He.Fa) (fx : List Fx) (fn : List He.DefD) (tf : List He.Defn) (ts : List DTab) (w : World) (h : Heap) (K : PySem.W.Frag) : Prop where
  l : SaysL fa fx fn tf h K
  d : ∀ t ∈ ts, He.dicW K (He.ga K t.1) = some (He.keysIn w.params (t.2.map (·.1)))
  v : ∀ t ∈ ts, dvalsB K t = true
abbrev AlF : Type := AlL × (List (Option (List (Option (Str × Int)))) × Bool)
def obsFG (n : Nat) (fa : List He.Fa) (fx : List Fx) (fn : List He.DefD) (tf : List He.Defn) (ts : List DTab) (g : Addr → Option Obj) : AlF :=
  (obsLG n fa fx fn tf g, (ts.map fun t => He.dicW (He.frT g (He.asD g n)) (He.ga (He.frT g (He.asD g n)) t.1), ts.all fun t => dvalsB (He.frT g (He.asD g n)) t))
def valF (fn : List He.DefD) (ts : List DTab) (w : World) : AlF := ((valX fn, true), (ts.map fun t => some (He.keysIn w.params (t.2.map (·.1))), true))
theorem map_eq_at {α β : Type} {f g : α → β} : ∀ {l : List α}, l.map f = l.map g → ∀ x ∈ l, f x = g x
  | y :: l, h, x, hx => by
    rw [List.map_cons, List.map_cons] at h
    injection h with h1 h2
    rcases List.mem_cons.mp hx with rfl | hx
    · exact h1
    · exact map_eq_at h2 x hx
theorem saysF_of {n : Nat} {fa : List He.Fa} {fx : List Fx} {fn : List He.DefD} {tf : List He.Defn} {ts : List DTab} {w : World} {h : Heap} (e : obsFG n fa fx fn tf ts h.get? = valF fn ts w) : SaysF fa fx fn tf ts w h (He.frT h.get? (He.asD h.get? n)) :=
  ⟨saysL_of (congrArg (fun z : AlF => z.1) e), map_eq_at (congrArg (fun z : AlF => z.2.1) e), List.all_eq_true.mp (congrArg (fun z : AlF => z.2.2) e)⟩
def hookF (n : Nat) (fa : List He.Fa) (fx : List Fx) (fn : List He.DefD) (tf : List He.Defn) (ts : List DTab) : PySem.W.Hook where
  α := AlF
  obs := fun s => obsFG n fa fx fn tf ts s.heap.get?
  val := fun w => valF fn ts w
  says := fun w h => ∃ K : PySem.W.Frag, K.In h ∧ SaysF fa fx fn tf ts w h K
  of := fun _ _ e => ⟨_, He.frT_in, saysF_of e⟩
  keeps := fun _ _ _ ⟨K, hK, c⟩ k => ⟨K, PySem.W.Frag.In.keeps hK k, ⟨⟨c.l.x, c.l.hd, c.l.out, fun p hp => k _ _ (c.l.empty p hp)⟩, c.d, c.v⟩⟩
theorem obsFG_eq {n : Nat} {fa : List He.Fa} {fx : List Fx} {fn : List He.DefD} {tf : List He.Defn} {ts : List DTab} {g : Addr → Option Obj} {s : Shared} (h : ∀ a, g a = s.heap.get? a) : obsFG n fa fx fn tf ts g = (hookF n fa fx fn tf ts).obs s := by
  have e : g = s.heap.get? := funext h
  rw [e] <;> rfl
end Gk
set_option autoImplicit true
set_option pp.maxSteps 1200
set_option Elab.async false
set_option linter.all false
set_option maxRecDepth 100000
set_option maxHeartbeats 1000000

namespace Lw
open PySem PySem.Spec PyProof.Rows L2 Gk
def top (i : Nat) : Stmt := PySem.Challenge.pw_gulprow_k20_lots_judged.main.body.getD i (.Pass ⟨0, 0, 0, 0⟩)
abbrev s_Lbag : Stmt := (top 48)
theorem sc_Lbag : FnScope ["_law_script", "_law_cells", "_law_knot", "_law_cell"] ["_law_script"] (defScope s_Lbag) := ⟨rfl, rfl, rfl, by decide +kernel, rfl, by decide +kernel, by decide +kernel⟩
abbrev s_Lpull : Stmt := (top 49)
theorem sc_Lpull : FnScope ["_law_bag_here", "_law_upto", "_law_drawn", "_law_seed", "_law_fold", "_law_twist"] ["_law_bag_here", "_law_upto"] (defScope s_Lpull) := ⟨rfl, rfl, rfl, by decide +kernel, rfl, by decide +kernel, by decide +kernel⟩
abbrev s_Lone : Stmt := (top 50)
theorem sc_Lone : FnScope ["_law_bag_here", "_law_row_here"] ["_law_bag_here", "_law_row_here"] (defScope s_Lone) := ⟨rfl, rfl, rfl, by decide +kernel, rfl, by decide +kernel, by decide +kernel⟩
abbrev s_Lsame : Stmt := (top 51)
theorem sc_Lsame : FnScope ["_law_found", "_law_due", "_law_same_here", "_law_one_here", "_law_other"] ["_law_found", "_law_due"] (defScope s_Lsame) := ⟨rfl, rfl, rfl, by decide +kernel, rfl, by decide +kernel, by decide +kernel⟩
abbrev s_Lletters : Stmt := (top 54)
theorem sc_Lletters : FnScope ["_law_bag_here", "_law_many", "_law_spot", "_law_step", "_law_k"] ["_law_bag_here", "_law_many"] (defScope s_Lletters) := ⟨rfl, rfl, rfl, by decide +kernel, rfl, by decide +kernel, by decide +kernel⟩
abbrev s_word_count : Stmt := (top 21)
theorem sc_word_count : FnScope ["letters", "most"] ["letters", "most"] (defScope s_word_count) := ⟨rfl, rfl, rfl, by decide +kernel, rfl, by decide +kernel, by decide +kernel⟩
abbrev s_need_letters : Stmt := (top 22)
theorem sc_need_letters : FnScope ["letters", "sign"] ["letters"] (defScope s_need_letters) := ⟨rfl, rfl, rfl, by decide +kernel, rfl, by decide +kernel, by decide +kernel⟩
abbrev s_need_table : Stmt := (top 23)
theorem sc_need_table : FnScope ["table", "many", "at", "row", "to"] ["table", "many"] (defScope s_need_table) := ⟨rfl, rfl, rfl, by decide +kernel, rfl, by decide +kernel, by decide +kernel⟩
abbrev s_need_eats : Stmt := (top 24)
theorem sc_need_eats : FnScope ["eats", "tastes", "at", "side", "one", "other"] ["eats", "tastes"] (defScope s_need_eats) := ⟨rfl, rfl, rfl, by decide +kernel, rfl, by decide +kernel, by decide +kernel⟩
abbrev s_House_init : Stmt := (inClass (top 25) 0)
theorem sc_House_init : FnScope ["self", "letters", "table", "eats", "chew", "put", "most", "cut", "row", "side", "one", "other", "sign"] ["self", "letters", "table", "eats", "chew", "put", "most", "cut"] (defScope s_House_init) := ⟨rfl, rfl, rfl, by decide +kernel, rfl, by decide +kernel, by decide +kernel⟩
abbrev s_House_letters : Stmt := (inClass (top 25) 6)
theorem sc_House_letters : FnScope ["self"] ["self"] (defScope s_House_letters) := ⟨rfl, rfl, rfl, by decide +kernel, rfl, by decide +kernel, by decide +kernel⟩
abbrev s_House_most : Stmt := (inClass (top 25) 11)
theorem sc_House_most : FnScope ["self"] ["self"] (defScope s_House_most) := ⟨rfl, rfl, rfl, by decide +kernel, rfl, by decide +kernel, by decide +kernel⟩
abbrev s_House_tasted : Stmt := (inClass (top 25) 13)
theorem sc_House_tasted : FnScope ["self", "word", "here", "sign"] ["self", "word"] (defScope s_House_tasted) := ⟨rfl, rfl, rfl, by decide +kernel, rfl, by decide +kernel, by decide +kernel⟩
abbrev s_House_chew : Stmt := (inClass (top 25) 9)
theorem sc_House_chew : FnScope ["self"] ["self"] (defScope s_House_chew) := ⟨rfl, rfl, rfl, by decide +kernel, rfl, by decide +kernel, by decide +kernel⟩
abbrev s_House_put : Stmt := (inClass (top 25) 10)
theorem sc_House_put : FnScope ["self"] ["self"] (defScope s_House_put) := ⟨rfl, rfl, rfl, by decide +kernel, rfl, by decide +kernel, by decide +kernel⟩
abbrev s_House_cut : Stmt := (inClass (top 25) 12)
theorem sc_House_cut : FnScope ["self"] ["self"] (defScope s_House_cut) := ⟨rfl, rfl, rfl, by decide +kernel, rfl, by decide +kernel, by decide +kernel⟩
abbrev s_is_word : Stmt := (top 30)
theorem sc_is_word : FnScope ["house", "text", "sign"] ["house", "text"] (defScope s_is_word) := ⟨rfl, rfl, rfl, by decide +kernel, rfl, by decide +kernel, by decide +kernel⟩
abbrev s_BadWord_init : Stmt := (inClass (top 11) 0)
theorem sc_BadWord_init : FnScope ["self", "at"] ["self", "at"] (defScope s_BadWord_init) := ⟨rfl, rfl, rfl, by decide +kernel, rfl, by decide +kernel, by decide +kernel⟩
abbrev s_need_row : Stmt := (top 31)
theorem sc_need_row : FnScope ["house", "row", "at", "word"] ["house", "row"] (defScope s_need_row) := ⟨rfl, rfl, rfl, by decide +kernel, rfl, by decide +kernel, by decide +kernel⟩
abbrev s_cut_long : Stmt := (top 34)
theorem sc_cut_long : FnScope ["house", "long", "found", "left"] ["house", "long"] (defScope s_cut_long) := ⟨rfl, rfl, rfl, by decide +kernel, rfl, by decide +kernel, by decide +kernel⟩
abbrev s_grown : Stmt := (top 35)
theorem sc_grown : FnScope ["house", "eater", "eaten", "side"] ["house", "eater", "eaten", "side"] (defScope s_grown) := ⟨rfl, rfl, rfl, by decide +kernel, rfl, by decide +kernel, by decide +kernel⟩
abbrev s_behind : Stmt := (top 36)
theorem sc_behind : FnScope ["house", "row", "place", "side", "other", "eater", "eaten", "low", "made"] ["house", "row", "place", "side"] (defScope s_behind) := ⟨rfl, rfl, rfl, by decide +kernel, rfl, by decide +kernel, by decide +kernel⟩
abbrev s_bites_of : Stmt := (top 37)
theorem sc_bites_of : FnScope ["house", "row", "found", "place", "side", "made"] ["house", "row"] (defScope s_bites_of) := ⟨rfl, rfl, rfl, by decide +kernel, rfl, by decide +kernel, by decide +kernel⟩
abbrev s_is_number : Stmt := (top 40)
theorem sc_is_number : FnScope ["thing"] ["thing"] (defScope s_is_number) := ⟨rfl, rfl, rfl, by decide +kernel, rfl, by decide +kernel, by decide +kernel⟩
abbrev s_is_row : Stmt := (top 41)
theorem sc_is_row : FnScope ["house", "thing", "word"] ["house", "thing"] (defScope s_is_row) := ⟨rfl, rfl, rfl, by decide +kernel, rfl, by decide +kernel, by decide +kernel⟩
abbrev s_is_wish : Stmt := (top 42)
theorem sc_is_wish : FnScope ["house", "wish", "word", "things"] ["house", "wish"] (defScope s_is_wish) := ⟨rfl, rfl, rfl, by decide +kernel, rfl, by decide +kernel, by decide +kernel⟩
abbrev s_BadWish_init : Stmt := (inClass (top 12) 0)
theorem sc_BadWish_init : FnScope ["self"] ["self"] (defScope s_BadWish_init) := ⟨rfl, rfl, rfl, by decide +kernel, rfl, by decide +kernel, by decide +kernel⟩
abbrev s_need_wish : Stmt := (top 43)
theorem sc_need_wish : FnScope ["house", "wish"] ["house", "wish"] (defScope s_need_wish) := ⟨rfl, rfl, rfl, by decide +kernel, rfl, by decide +kernel, by decide +kernel⟩
abbrev s_letters_in : Stmt := (top 32)
theorem sc_letters_in : FnScope ["row", "word"] ["row"] (defScope s_letters_in) := ⟨rfl, rfl, rfl, by decide +kernel, rfl, by decide +kernel, by decide +kernel⟩
abbrev s_fulfilled : Stmt := (top 44)
theorem sc_fulfilled : FnScope ["house", "wish", "row", "word", "things"] ["house", "wish", "row"] (defScope s_fulfilled) := ⟨rfl, rfl, rfl, by decide +kernel, rfl, by decide +kernel, by decide +kernel⟩
abbrev s_fits : Stmt := (top 45)
theorem sc_fits : FnScope ["house", "row", "word"] ["house", "row"] (defScope s_fits) := ⟨rfl, rfl, rfl, by decide +kernel, rfl, by decide +kernel, by decide +kernel⟩
abbrev s_lot_holds : Stmt := (top 46)
theorem sc_lot_holds : FnScope ["house", "row", "wish", "rows", "known", "one", "bite", "made"] ["house", "row", "wish", "rows"] (defScope s_lot_holds) := ⟨rfl, rfl, rfl, by decide +kernel, rfl, by decide +kernel, by decide +kernel⟩
abbrev s_Lmeasures : Stmt := (top 55)
theorem sc_Lmeasures : FnScope ["_law_bag_here", "_law_sort", "_law_some"] ["_law_bag_here", "_law_sort"] (defScope s_Lmeasures) := ⟨rfl, rfl, rfl, by decide +kernel, rfl, by decide +kernel, by decide +kernel⟩
abbrev s_Lhouse : Stmt := (top 56)
theorem sc_Lhouse : FnScope ["_law_bag_here", "_law_sort", "_law_most_words", "_law_many", "_law_sizes", "_law_letters_here", "_law_longest", "_law_rooms", "_law_table", "_law_triples", "_law_k", "_law_chewing", "_law_plus", "_law_m", "_law_size", "_law_row_here", "_law_sign"] ["_law_bag_here", "_law_sort", "_law_most_words"] (defScope s_Lhouse) := ⟨rfl, rfl, rfl, by decide +kernel, rfl, by decide +kernel, by decide +kernel⟩
abbrev s_Lmade : Stmt := (top 57)
theorem sc_Lmade : FnScope ["_law_m", "_law_table", "_law_triples", "_law_row_here"] ["_law_m"] (defScope s_Lmade) := ⟨rfl, rfl, rfl, by decide +kernel, rfl, by decide +kernel, by decide +kernel⟩
abbrev s_Lwords : Stmt := (top 58)
theorem sc_Lwords : FnScope ["_law_m", "_law_found", "_law_last", "_law_size", "_law_longer", "_law_word", "_law_sign"] ["_law_m"] (defScope s_Lwords) := ⟨rfl, rfl, rfl, by decide +kernel, rfl, by decide +kernel, by decide +kernel⟩
abbrev s_Ltaste : Stmt := (top 59)
theorem sc_Ltaste : FnScope ["_law_m", "_law_word", "_law_here", "_law_sign"] ["_law_m", "_law_word"] (defScope s_Ltaste) := ⟨rfl, rfl, rfl, by decide +kernel, rfl, by decide +kernel, by decide +kernel⟩
abbrev s_Lcut : Stmt := (top 60)
theorem sc_Lcut : FnScope ["_law_m", "_law_long", "_law_found", "_law_left"] ["_law_m", "_law_long"] (defScope s_Lcut) := ⟨rfl, rfl, rfl, by decide +kernel, rfl, by decide +kernel, by decide +kernel⟩
abbrev s_Lgrown : Stmt := (top 61)
theorem sc_Lgrown : FnScope ["_law_m", "_law_eater", "_law_eaten", "_law_edge", "_law_rest", "_law_k"] ["_law_m", "_law_eater", "_law_eaten", "_law_edge"] (defScope s_Lgrown) := ⟨rfl, rfl, rfl, by decide +kernel, rfl, by decide +kernel, by decide +kernel⟩
abbrev s_Lbehind : Stmt := (top 62)
theorem sc_Lbehind : FnScope ["_law_m", "_law_row_here", "_law_place", "_law_edge", "_law_other", "_law_low", "_law_made_here"] ["_law_m", "_law_row_here", "_law_place", "_law_edge"] (defScope s_Lbehind) := ⟨rfl, rfl, rfl, by decide +kernel, rfl, by decide +kernel, by decide +kernel⟩
abbrev s_Lbites : Stmt := (top 63)
theorem sc_Lbites : FnScope ["_law_m", "_law_row_here", "_law_found", "_law_place", "_law_edge"] ["_law_m", "_law_row_here"] (defScope s_Lbites) := ⟨rfl, rfl, rfl, by decide +kernel, rfl, by decide +kernel, by decide +kernel⟩
abbrev s_Lrow : Stmt := (top 64)
theorem sc_Lrow : FnScope ["_law_bag_here", "_law_m", "_law_most_words", "_law_shelf", "_law_k"] ["_law_bag_here", "_law_m", "_law_most_words"] (defScope s_Lrow) := ⟨rfl, rfl, rfl, by decide +kernel, rfl, by decide +kernel, by decide +kernel⟩
abbrev s_Lout : Stmt := (top 66)
theorem sc_Lout : FnScope ["_law_m", "_law_row_here", "_law_cap", "_law_depths", "_law_line", "_law_at", "_law_here", "_law_place", "_law_edge", "_law_there"] ["_law_m", "_law_row_here", "_law_cap"] (defScope s_Lout) := ⟨rfl, rfl, rfl, by decide +kernel, rfl, by decide +kernel, by decide +kernel⟩
abbrev s_Lsmall_row : Stmt := (top 67)
theorem sc_Lsmall_row : FnScope ["_law_bag_here", "_law_m", "_law_most_letters", "_law_row_here", "_law_word", "_law_fits_in"] ["_law_bag_here", "_law_m", "_law_most_letters"] (defScope s_Lsmall_row) := ⟨rfl, rfl, rfl, by decide +kernel, rfl, by decide +kernel, by decide +kernel⟩
abbrev s_Lgone : Stmt := (top 65)
theorem sc_Lgone : FnScope ["_law_m", "_law_row_here", "_law_rule", "_law_bound", "_law_here", "_law_found", "_law_many", "_law_k", "_law_some", "_law_bite", "_law_top", "_law_at", "_law_edge", "_law_one_here"] ["_law_m", "_law_row_here", "_law_rule", "_law_bound"] (defScope s_Lgone) := ⟨rfl, rfl, rfl, by decide +kernel, rfl, by decide +kernel, by decide +kernel⟩
abbrev s_Lwish : Stmt := (top 68)
theorem sc_Lwish : FnScope ["_law_bag_here", "_law_m", "_law_row_here", "_law_shelf", "_law_near", "_law_some", "_law_k"] ["_law_bag_here", "_law_m", "_law_row_here"] (defScope s_Lwish) := ⟨rfl, rfl, rfl, by decide +kernel, rfl, by decide +kernel, by decide +kernel⟩
abbrev s_Lfulfils : Stmt := (top 69)
theorem sc_Lfulfils : FnScope ["_law_m", "_law_wish_here", "_law_row_here", "_law_word"] ["_law_m", "_law_wish_here", "_law_row_here"] (defScope s_Lfulfils) := ⟨rfl, rfl, rfl, by decide +kernel, rfl, by decide +kernel, by decide +kernel⟩
abbrev s_Lis_lot : Stmt := (top 70)
theorem sc_Lis_lot : FnScope ["_law_m", "_law_row_here", "_law_wish_here", "_law_rows", "_law_shelf", "_law_one_here", "_law_place", "_law_edge", "_law_word", "_law_two"] ["_law_m", "_law_row_here", "_law_wish_here", "_law_rows"] (defScope s_Lis_lot) := ⟨rfl, rfl, rfl, by decide +kernel, rfl, by decide +kernel, by decide +kernel⟩
abbrev s_Lwhy : Stmt := (top 53)
theorem sc_Lwhy : FnScope ["_law_ask", "_law_answer", "_law_word", "e"] ["_law_ask"] (defScope s_Lwhy) := ⟨rfl, rfl, rfl, by decide +kernel, rfl, by decide +kernel, by decide +kernel⟩
abbrev s_Lmixed : Stmt := (top 52)
theorem sc_Lmixed : FnScope ["_law_bag_here", "_law_row_here", "_law_left", "_law_found"] ["_law_bag_here", "_law_row_here"] (defScope s_Lmixed) := ⟨rfl, rfl, rfl, by decide +kernel, rfl, by decide +kernel, by decide +kernel⟩
abbrev s_law : Stmt := (top 71)
theorem sc_law : FnScope ["_law_script", "_law_bag_here", "_law_k", "_law_m", "_law_house_here", "_law_row_here", "_law_wish_here", "_law_rows", "_law_step", "_law_bent", "_law_at", "_law_fork", "_law_handed", "_law_found", "_law_one_here"] ["_law_script"] (defScope s_law) := ⟨rfl, rfl, rfl, by decide +kernel, rfl, by decide +kernel, by decide +kernel⟩
def dd0 : He.DefD := ⟨("_law_bag", none), "_law_bag", "_law_bag", defArgs s_Lbag, defBody s_Lbag, defScope s_Lbag, [], []⟩
def dd1 : He.DefD := ⟨("_law_pull", none), "_law_pull", "_law_pull", defArgs s_Lpull, defBody s_Lpull, defScope s_Lpull, [], []⟩
def dd2 : He.DefD := ⟨("_law_one", none), "_law_one", "_law_one", defArgs s_Lone, defBody s_Lone, defScope s_Lone, [], []⟩
def dd3 : He.DefD := ⟨("_law_same", none), "_law_same", "_law_same", defArgs s_Lsame, defBody s_Lsame, defScope s_Lsame, [], []⟩
def dd4 : He.DefD := ⟨("_law_letters", none), "_law_letters", "_law_letters", defArgs s_Lletters, defBody s_Lletters, defScope s_Lletters, [], []⟩
def dd5 : He.DefD := ⟨("word_count", none), "word_count", "word_count", defArgs s_word_count, defBody s_word_count, defScope s_word_count, [], []⟩
def dd6 : He.DefD := ⟨("need_letters", none), "need_letters", "need_letters", defArgs s_need_letters, defBody s_need_letters, defScope s_need_letters, [], []⟩
def dd7 : He.DefD := ⟨("need_table", none), "need_table", "need_table", defArgs s_need_table, defBody s_need_table, defScope s_need_table, [], []⟩
def dd8 : He.DefD := ⟨("need_eats", none), "need_eats", "need_eats", defArgs s_need_eats, defBody s_need_eats, defScope s_need_eats, [], []⟩
def dd9 : He.DefD := ⟨("House", some "__init__"), "__init__", "House.__init__", defArgs s_House_init, defBody s_House_init, defScope s_House_init, [], [("chew", .int 0)]⟩
def dd10 : He.DefD := ⟨("House", some "letters"), "letters", "House.letters", defArgs s_House_letters, defBody s_House_letters, defScope s_House_letters, [], []⟩
def dd11 : He.DefD := ⟨("House", some "most"), "most", "House.most", defArgs s_House_most, defBody s_House_most, defScope s_House_most, [], []⟩
def dd12 : He.DefD := ⟨("House", some "tasted"), "tasted", "House.tasted", defArgs s_House_tasted, defBody s_House_tasted, defScope s_House_tasted, [], []⟩
def dd13 : He.DefD := ⟨("House", some "chew"), "chew", "House.chew", defArgs s_House_chew, defBody s_House_chew, defScope s_House_chew, [], []⟩
def dd14 : He.DefD := ⟨("House", some "put"), "put", "House.put", defArgs s_House_put, defBody s_House_put, defScope s_House_put, [], []⟩
def dd15 : He.DefD := ⟨("House", some "cut"), "cut", "House.cut", defArgs s_House_cut, defBody s_House_cut, defScope s_House_cut, [], []⟩
def dd16 : He.DefD := ⟨("is_word", none), "is_word", "is_word", defArgs s_is_word, defBody s_is_word, defScope s_is_word, [], []⟩
def dd17 : He.DefD := ⟨("BadWord", some "__init__"), "__init__", "BadWord.__init__", defArgs s_BadWord_init, defBody s_BadWord_init, defScope s_BadWord_init, [], []⟩
def dd18 : He.DefD := ⟨("need_row", none), "need_row", "need_row", defArgs s_need_row, defBody s_need_row, defScope s_need_row, [], []⟩
def dd19 : He.DefD := ⟨("cut_long", none), "cut_long", "cut_long", defArgs s_cut_long, defBody s_cut_long, defScope s_cut_long, [], []⟩
def dd20 : He.DefD := ⟨("grown", none), "grown", "grown", defArgs s_grown, defBody s_grown, defScope s_grown, [], []⟩
def dd21 : He.DefD := ⟨("behind", none), "behind", "behind", defArgs s_behind, defBody s_behind, defScope s_behind, [], []⟩
def dd22 : He.DefD := ⟨("bites_of", none), "bites_of", "bites_of", defArgs s_bites_of, defBody s_bites_of, defScope s_bites_of, [], []⟩
def dd23 : He.DefD := ⟨("is_number", none), "is_number", "is_number", defArgs s_is_number, defBody s_is_number, defScope s_is_number, [], []⟩
def dd24 : He.DefD := ⟨("is_row", none), "is_row", "is_row", defArgs s_is_row, defBody s_is_row, defScope s_is_row, [], []⟩
def dd25 : He.DefD := ⟨("is_wish", none), "is_wish", "is_wish", defArgs s_is_wish, defBody s_is_wish, defScope s_is_wish, [], []⟩
def dd26 : He.DefD := ⟨("BadWish", some "__init__"), "__init__", "BadWish.__init__", defArgs s_BadWish_init, defBody s_BadWish_init, defScope s_BadWish_init, [], []⟩
def dd27 : He.DefD := ⟨("need_wish", none), "need_wish", "need_wish", defArgs s_need_wish, defBody s_need_wish, defScope s_need_wish, [], []⟩
def dd28 : He.DefD := ⟨("letters_in", none), "letters_in", "letters_in", defArgs s_letters_in, defBody s_letters_in, defScope s_letters_in, [], []⟩
def dd29 : He.DefD := ⟨("fulfilled", none), "fulfilled", "fulfilled", defArgs s_fulfilled, defBody s_fulfilled, defScope s_fulfilled, [], []⟩
def dd30 : He.DefD := ⟨("fits", none), "fits", "fits", defArgs s_fits, defBody s_fits, defScope s_fits, [], []⟩
def dd31 : He.DefD := ⟨("lot_holds", none), "lot_holds", "lot_holds", defArgs s_lot_holds, defBody s_lot_holds, defScope s_lot_holds, [], []⟩
def dd32 : He.DefD := ⟨("_law_measures", none), "_law_measures", "_law_measures", defArgs s_Lmeasures, defBody s_Lmeasures, defScope s_Lmeasures, [], []⟩
def dd33 : He.DefD := ⟨("_law_house", none), "_law_house", "_law_house", defArgs s_Lhouse, defBody s_Lhouse, defScope s_Lhouse, [], []⟩
def dd34 : He.DefD := ⟨("_law_made", none), "_law_made", "_law_made", defArgs s_Lmade, defBody s_Lmade, defScope s_Lmade, [], []⟩
def dd35 : He.DefD := ⟨("_law_words", none), "_law_words", "_law_words", defArgs s_Lwords, defBody s_Lwords, defScope s_Lwords, [], []⟩
def dd36 : He.DefD := ⟨("_law_taste", none), "_law_taste", "_law_taste", defArgs s_Ltaste, defBody s_Ltaste, defScope s_Ltaste, [], []⟩
def dd37 : He.DefD := ⟨("_law_cut", none), "_law_cut", "_law_cut", defArgs s_Lcut, defBody s_Lcut, defScope s_Lcut, [], []⟩
def dd38 : He.DefD := ⟨("_law_grown", none), "_law_grown", "_law_grown", defArgs s_Lgrown, defBody s_Lgrown, defScope s_Lgrown, [], []⟩
def dd39 : He.DefD := ⟨("_law_behind", none), "_law_behind", "_law_behind", defArgs s_Lbehind, defBody s_Lbehind, defScope s_Lbehind, [], []⟩
def dd40 : He.DefD := ⟨("_law_bites", none), "_law_bites", "_law_bites", defArgs s_Lbites, defBody s_Lbites, defScope s_Lbites, [], []⟩
def dd41 : He.DefD := ⟨("_law_row", none), "_law_row", "_law_row", defArgs s_Lrow, defBody s_Lrow, defScope s_Lrow, [], []⟩
def dd42 : He.DefD := ⟨("_law_out", none), "_law_out", "_law_out", defArgs s_Lout, defBody s_Lout, defScope s_Lout, [], []⟩
def dd43 : He.DefD := ⟨("_law_small_row", none), "_law_small_row", "_law_small_row", defArgs s_Lsmall_row, defBody s_Lsmall_row, defScope s_Lsmall_row, [], []⟩
def dd44 : He.DefD := ⟨("_law_gone", none), "_law_gone", "_law_gone", defArgs s_Lgone, defBody s_Lgone, defScope s_Lgone, [], []⟩
def dd45 : He.DefD := ⟨("_law_wish", none), "_law_wish", "_law_wish", defArgs s_Lwish, defBody s_Lwish, defScope s_Lwish, [], []⟩
def dd46 : He.DefD := ⟨("_law_fulfils", none), "_law_fulfils", "_law_fulfils", defArgs s_Lfulfils, defBody s_Lfulfils, defScope s_Lfulfils, [], []⟩
def dd47 : He.DefD := ⟨("_law_is_lot", none), "_law_is_lot", "_law_is_lot", defArgs s_Lis_lot, defBody s_Lis_lot, defScope s_Lis_lot, [], []⟩
def dd48 : He.DefD := ⟨("_law_why", none), "_law_why", "_law_why", defArgs s_Lwhy, defBody s_Lwhy, defScope s_Lwhy, [], []⟩
def dd49 : He.DefD := ⟨("_law_mixed", none), "_law_mixed", "_law_mixed", defArgs s_Lmixed, defBody s_Lmixed, defScope s_Lmixed, [], []⟩
def dd50 : He.DefD := ⟨("law", none), "law", "law", defArgs s_law, defBody s_law, defScope s_law, [], []⟩
def fn : List He.DefD := [dd0, dd1, dd2, dd3, dd4, dd5, dd6, dd7, dd8, dd9, dd10, dd11, dd12, dd13, dd14, dd15, dd16, dd17, dd18, dd19, dd20, dd21, dd22, dd23, dd24, dd25, dd26, dd27, dd28, dd29, dd30, dd31, dd32, dd33, dd34, dd35, dd36, dd37, dd38, dd39, dd40, dd41, dd42, dd43, dd44, dd45, dd46, dd47, dd48, dd49, dd50]
def fa : List He.Fa := [.glo "BadWish", .glo "BadWord", .glo "FORMS", .glo "GulpError", .glo "House", .glo "MissError", .glo "NothingLeft", .glo "SIDES", .glo "_law_bag", .glo "_law_behind", .glo "_law_bites", .glo "_law_cut", .glo "_law_fulfils", .glo "_law_gone", .glo "_law_grown", .glo "_law_house", .glo "_law_is_lot", .glo "_law_letters", .glo "_law_made", .glo "_law_measures", .glo "_law_mixed", .glo "_law_one", .glo "_law_out", .glo "_law_pull", .glo "_law_row", .glo "_law_same", .glo "_law_small_row", .glo "_law_taste", .glo "_law_why", .glo "_law_wish", .glo "_law_words", .glo "behind", .glo "bites_of", .glo "cut_long", .glo "fits", .glo "fulfilled", .glo "grown", .glo "is_number", .glo "is_row", .glo "is_wish", .glo "is_word", .glo "law", .glo "letters_in", .glo "lot_holds", .glo "need_eats", .glo "need_letters", .glo "need_row", .glo "need_table", .glo "need_wish", .glo "word_count", .free "all", .free "any", .free "bool", .free "enumerate", .free "int", .free "isinstance", .free "len", .free "list", .free "max", .free "min", .free "range", .free "repr", .free "set", .free "sorted", .free "str", .free "sum", .free "tuple", .free "zip", .int "MOST_ROW" 12, .int "MOST_TASTES" 4, .int "MOST_WORDS" 14, .str "SMALL" "abcdefghijklmnopqrstuvwxyz", .cls "House", .mkr "House", .noat "House" "signs", .noat "House" "rooms", .noat "House" "triples", .noat "House" "chewed", .noat "House" "putting", .noat "House" "span", .noat "House" "cutting", .meth "House" "letters", .meth "House" "most", .meth "House" "tasted", .meth "House" "chew", .meth "House" "put", .meth "House" "cut"]
def fx : List Fx := [.tup "SIDES" [.str "left", .str "right"], .oex "BadWord", .field "BadWord" "word", .field "BadWord" "at", .exm "BadWord" "BadWord" true, .oex "BadWish", .field "BadWish" "word", .exm "BadWord" "GulpError" true, .exm "BadWish" "GulpError" true]
abbrev R : PySem.W.OpenRow := PySem.W.OpenLaw.row PySem.Challenge.rw_gulprow_k20_lots_judged
def dts : List DTab := [("FORMS", [("row", 1), ("word", 1), ("words", 1), ("letters", 1), ("end", 0)])]
abbrev hk : PySem.W.Hook := hookF 6 fa fx fn [(("law" : Str), (none : Option Str))] dts
def ob (s : PySem.W.SharedT) : AlF := obsFG 6 fa fx fn [(("law" : Str), (none : Option Str))] dts (HandSHeadRun.getT s)
theorem ob_eq (s : PySem.W.SharedT) : ob s = hk.obs s.abs := obsFG_eq (HandSHeadRun.getT_eq s)
abbrev loose : List PySem.Str := ("GulpError" : PySem.Str) :: ("MissError" : PySem.Str) :: ("NothingLeft" : PySem.Str) :: ("BadLetters" : PySem.Str) :: ("BadTable" : PySem.Str) :: ("BadEat" : PySem.Str) :: ("BadChew" : PySem.Str) :: ("BadPut" : PySem.Str) :: ("BadMost" : PySem.Str) :: ("BadCut" : PySem.Str) :: ("BadWord" : PySem.Str) :: ("BadWish" : PySem.Str) :: ("MOST" : PySem.Str) :: ("CUT" : PySem.Str) :: ("MOST_WORDS" : PySem.Str) :: ("MOST_TASTES" : PySem.Str) :: ("SMALL" : PySem.Str) :: ("SIDES" : PySem.Str) :: ("MARKS" : PySem.Str) :: ("word_count" : PySem.Str) :: ("need_letters" : PySem.Str) :: ("need_table" : PySem.Str) :: ("need_eats" : PySem.Str) :: ("House" : PySem.Str) :: ("table_text" : PySem.Str) :: ("eats_text" : PySem.Str) :: ("MOST_ROW" : PySem.Str) :: ("is_word" : PySem.Str) :: ("need_row" : PySem.Str) :: ("letters_in" : PySem.Str) :: ("cut_long" : PySem.Str) :: ("grown" : PySem.Str) :: ("behind" : PySem.Str) :: ("bites_of" : PySem.Str) :: ("FORMS" : PySem.Str) :: ("is_number" : PySem.Str) :: ("is_row" : PySem.Str) :: ("is_wish" : PySem.Str) :: ("need_wish" : PySem.Str) :: ("fulfilled" : PySem.Str) :: ("fits" : PySem.Str) :: ("lot_holds" : PySem.Str) :: ("_law_bag" : PySem.Str) :: ("_law_pull" : PySem.Str) :: ("_law_one" : PySem.Str) :: ("_law_same" : PySem.Str) :: ("_law_mixed" : PySem.Str) :: ("_law_why" : PySem.Str) :: ("_law_letters" : PySem.Str) :: ("_law_measures" : PySem.Str) :: ("_law_house" : PySem.Str) :: ("_law_made" : PySem.Str) :: ("_law_words" : PySem.Str) :: ("_law_taste" : PySem.Str) :: ("_law_cut" : PySem.Str) :: ("_law_grown" : PySem.Str) :: ("_law_behind" : PySem.Str) :: ("_law_bites" : PySem.Str) :: ("_law_row" : PySem.Str) :: ("_law_gone" : PySem.Str) :: ("_law_out" : PySem.Str) :: ("_law_small_row" : PySem.Str) :: ("_law_wish" : PySem.Str) :: ("_law_fulfils" : PySem.Str) :: ("_law_is_lot" : PySem.Str) :: []
abbrev hk0 : PySem.W.Hook := hookF 6 [] [] [] [] []
def ob0 (s : PySem.W.SharedT) : AlF := obsFG 6 [] [] [] [] [] (HandSHeadRun.getT s)
def obA (s : PySem.W.SharedT) : AlF := obsFG 6 fa fx [] [(("law" : Str), (none : Option Str))] dts (HandSHeadRun.getT s)
def obB (s : PySem.W.SharedT) : AlF := obsFG 6 [] [] fn [] [] (HandSHeadRun.getT s)
abbrev EqO (o : PySem.W.SharedT → AlF) (v : AlF) (w : World) : Prop := ∀ os : OsState, (HandSHeadRun.endF (HandSHeadRun.stepQ (HandSHeadRun.denQ HandSHeadRun.tabQ) R.prog w) 30000 R.prog w os).map o = some v
theorem joinO {σ β γ : Type} {o : Option σ} {l : σ → β} {k : σ → γ} {v1 : β} {v2 : γ} {α : Type} {p0 pA pB pF : σ → α} {x0 a b c : α} (h0 : o.map (fun s => (l s, k s, p0 s)) = some (v1, v2, x0)) (hA : o.map pA = some a) (hB : o.map pB = some b) (hj : ∀ s, pA s = a → pB s = b → pF s = c) : o.map (fun s => (l s, k s, pF s)) = some (v1, v2, c) := by
  cases o with
  | none => cases h0
  | some s =>
    have e0 := Option.some.inj h0
    have eA := Option.some.inj hA
    have eB := Option.some.inj hB
    have a1 : l s = v1 := congrArg (fun z : β × γ × α => z.1) e0
    have a2 : k s = v2 := congrArg (fun z : β × γ × α => z.2.1) e0
    show some (l s, k s, pF s) = some (v1, v2, c)
    rw [a1, a2, hj s eA eB]
theorem obs_join {n : Nat} {fa : List He.Fa} {fx : List Fx} {fn : List He.DefD} {tf : List He.Defn} {g : Addr → Option Obj} (e1 : obsLG n fa fx [] tf g = ((true, []), true)) (e2 : obsLG n [] [] fn [] g = ((true, fn.map He.DefD.val), true)) : obsLG n fa fx fn tf g = (valX fn, true) := by
  have b1 : ((fa.all fun f => f.ok (He.frT g (He.asD g n))) && ((fx.all fun f => f.ok (He.frT g (He.asD g n))) && true)) = true := congrArg (fun z : AlL => z.1.1) e1
  have b2 : He.tabsB g tf (He.frT g (He.asD g n)) = true := congrArg (fun z : AlL => z.2) e1
  have c1 : (true && (true && fn.all fun d => d.ok (He.frT g (He.asD g n)))) = true := congrArg (fun z : AlL => z.1.1) e2
  have c2 : (fn.map fun d => He.fnW (He.frT g (He.asD g n)) d.at_) = fn.map He.DefD.val := congrArg (fun z : AlL => z.1.2) e2
  rw [Bool.and_true] at b1
  rw [Bool.true_and, Bool.true_and] at c1
  obtain ⟨d1, d2⟩ := Bool.and_eq_true_iff.mp b1
  unfold obsLG obsX valX
  rw [d1, d2, c1, b2, c2]
  rfl
theorem obs_joinF {n : Nat} {fa : List He.Fa} {fx : List Fx} {fn : List He.DefD} {tf : List He.Defn} {ts : List DTab} {g : Addr → Option Obj} {X : List (Option (List (Option (Str × Int)))) × Bool} (e1 : obsFG n fa fx [] tf ts g = (((true, []), true), X)) (e2 : obsFG n [] [] fn [] [] g = (((true, fn.map He.DefD.val), true), ([], true))) : obsFG n fa fx fn tf ts g = ((valX fn, true), X) := by
  have z1 : obsLG n fa fx [] tf g = ((true, []), true) := congrArg (fun z : AlF => z.1) e1
  have z2 : obsLG n [] [] fn [] g = ((true, fn.map He.DefD.val), true) := congrArg (fun z : AlF => z.1) e2
  have z3 : (obsFG n fa fx [] tf ts g).2 = X := congrArg (fun z : AlF => z.2) e1
  rw [← z3]
  show (obsLG n fa fx fn tf g, _) = _
  rw [obs_join z1 z2]
  rfl
abbrev vA (w : World) : AlF := (((true, []), true), (dts.map fun t => some (He.keysIn w.params (t.2.map (·.1))), true))
abbrev vB : AlF := (((true, fn.map He.DefD.val), true), ([], true))
theorem run_join {w : World} (h0 : HandSHeadRun.RunEq R (PySem.W.view R.prog [71]) hk0 ob0 30000 Lw.loose w) (h1 : EqO obA (vA w) w) (h2 : EqO obB vB w) : HandSHeadRun.RunEq R (PySem.W.view R.prog [71]) hk ob 30000 Lw.loose w := fun os => joinO (h0 os) (h1 os) (h2 os) fun s ea eb => obs_joinF ea eb
theorem run0a (w : World) : HandSHeadRun.RunEq R (PySem.W.view R.prog [71]) hk0 ob0 30000 Lw.loose (w.withFollow "special-get-raises" false) := by
  intro os
  kernel_rfl
theorem run0b (w : World) : EqO obA (vA (w.withFollow "special-get-raises" false)) (w.withFollow "special-get-raises" false) := by
  intro os
  kernel_rfl
theorem run0c (w : World) : EqO obB vB (w.withFollow "special-get-raises" false) := by
  intro os
  kernel_rfl
theorem run0 (w : World) : HandSHeadRun.RunEq R (PySem.W.view R.prog [71]) hk ob 30000 Lw.loose (w.withFollow "special-get-raises" false) := run_join (run0a w) (run0b w) (run0c w)
theorem run1a (w : World) : HandSHeadRun.RunEq R (PySem.W.view R.prog [71]) hk0 ob0 30000 Lw.loose (w.withFollow "special-get-raises" true) := by
  intro os
  kernel_rfl
theorem run1b (w : World) : EqO obA (vA (w.withFollow "special-get-raises" true)) (w.withFollow "special-get-raises" true) := by
  intro os
  kernel_rfl
theorem run1c (w : World) : EqO obB vB (w.withFollow "special-get-raises" true) := by
  intro os
  kernel_rfl
theorem run1 (w : World) : HandSHeadRun.RunEq R (PySem.W.view R.prog [71]) hk ob 30000 Lw.loose (w.withFollow "special-get-raises" true) := run_join (run1a w) (run1b w) (run1c w)
theorem run (w : World) : HandSHeadRun.RunEq R (PySem.W.view R.prog [71]) hk ob 30000 Lw.loose w := PySem.W.byRow2 "special-get-raises" (P := fun w => HandSHeadRun.RunEq R (PySem.W.view R.prog [71]) hk ob 30000 Lw.loose w) run0 run1 w
end Lw
section
open PySem PySem.W PySem.Calls PyProof.Rows HandSHeadRun
theorem Lw.pre (call : PySem.W.WalkO (view (OpenLaw.row PySem.Challenge.rw_gulprow_k20_lots_judged).prog [71]) Lw.loose (XL (view (OpenLaw.row PySem.Challenge.rw_gulprow_k20_lots_judged).prog [71]) []) Lw.hk.says (OpenLaw.row PySem.Challenge.rw_gulprow_k20_lots_judged).toRowW (HandSHeadRun.topDef (OpenLaw.row PySem.Challenge.rw_gulprow_k20_lots_judged).prog 71) [] fun f vs => PySem.call f vs) : PySem.Challenge.rw_gulprow_k20_lots_judged.Holds := by
  w_on; o_law
  refine HandSHeadRun.head_any (r := OpenLaw.row PySem.Challenge.rw_gulprow_k20_lots_judged) (q := view (OpenLaw.row PySem.Challenge.rw_gulprow_k20_lots_judged).prog [71]) (H := Lw.hk) (ob := Lw.ob) (M := 30000) (loose := Lw.loose) (d := HandSHeadRun.topDef (OpenLaw.row PySem.Challenge.rw_gulprow_k20_lots_judged).prog 71) (kwd := []) Lw.ob_eq
    (by kernel_rfl) (fun s => by kernel_rfl) Lw.run (by kernel_rfl) (by kernel_rfl) (by kernel_rfl) (by rfl) (by first | assumption | decide +kernel) (by decide +kernel) ⟨rfl, rfl, rfl, rfl, rfl, by decide +kernel⟩ ?hw ?hc
  case hw => w_witness2
  case hc => exact call
end
set_option autoImplicit true
set_option Elab.async false
set_option linter.all false
set_option maxRecDepth 100000
set_option maxHeartbeats 4000000
/-! # Exception classes over any of the built-in bases, made by their own __init__ -/
namespace Gk
open PySem PySem.Spec PyProof.Rows L2
open Builtin Builtin.ObjectAttr
/-- what the base's line gives -/
structure Bsf (B newId initId : String) (tl : List Value) : Prop where
  F : ExcBaseFacts B newId initId tl
  st : ∀ self, refuseLoop self "__setattr__" tl = pure ()
  ob : tl.contains (.type "object") = true
  ne : tl.isEmpty = false
section
variable {tl : List Value} {B newId initId : String}
theorem line_pass (b : Bsf B newId initId tl) (self : Value) : ∀ cs : List Addr, refuseLoop self "__setattr__" (cs.map Value.ref ++ tl) = pure ()
  | [] => b.st self
  | c :: cs => by
    rw [List.map_cons, List.cons_append, refuseLoop_ref]
    exact line_pass b self cs
theorem line_has (Y : String) : ∀ cs : List Addr, (cs.map Value.ref ++ tl).contains (.type Y) = tl.contains (.type Y)
  | [] => rfl
  | c :: cs => by
    rw [List.map_cons, List.cons_append, List.contains_cons, line_has Y cs]
    rfl
end
/-- what the written part says of the class -/
structure OexG (K : PySem.W.Frag) (C : Addr) (newId : String) (tl : List Value) : Prop where
  cls : ∃ nm q N bs, ∃ cs : List Addr, ∃ sn sub ab col dd k0 k1 k2 k3 k5, K.lookup C = some (excClassObj nm q C N bs (cs.map Value.ref ++ tl) true sn sub ab col dd k0 k1 k2 k3 k5 newId)
  sa : PySem.W.findIn K (.ref C) "__setattr__" = some (some (.builtin "object.__setattr__"))
  exC : PySem.W.subIn K (.ref C) (.type "BaseException") = some true
  tyC : PySem.W.typeIn K (.ref C) = some (.type "type")
  kC : PySem.W.keepIn K (.ref C) = true
section
open PySem.W PySem.Calls PySem.HandSPX
variable {tl : List Value} {B newId initId : String} {prog : Program} {w : World} {A : Around} {R : Result → Shared → Prop} {hp : Heap} {g : Array GenState} {d : Drawn} {t : Nat} {os : OsState} {K : W.Frag} {fn : Str} {tk : Tok} {v : Value} {x C : Addr} {fv : Array Value} {nm q : Str} {bs sub : List Value} {N : Addr} {sn : List Str} {ab : Bool} {col : Option Bool} {cs : List Addr}
end
section
variable {X : Cx} {pins : List (Addr × Obj)} {σ : L2.St} {H : Hp} {s : Shared} {a C dx : Addr} {f : Str} {y : V} {u : Value} {fs : List (Str × V)} {A : Around} {tl : List Value} {B newId initId : String}
end
/-! ### rules -/
section
variable {X : Cx} {o e : Expr} {es : List Expr} {to te : TE} {ta : TA} {f : Str} {p p' pos : Pos} {tl : List Value} {B newId initId : String}
end
/-! ### what the head tells of such a class -/
end Gk
set_option autoImplicit true
set_option Elab.async false
set_option linter.all false
set_option maxRecDepth 100000
set_option maxHeartbeats 4000000
/-! # The common part: facts of the top, callees, steps of readings -/
namespace Gk
open PySem PySem.Spec PyProof.Rows L2

/-! ## 1. Facts of the top beyond those of the modules -/
theorem oexB_ok {K : PySem.W.Frag} {C : Addr} (q : oexB K C = true) :
    ∃ nm q N bs bm sn sub ab col dd k0 k1 k2 k3 k5, K.lookup C = some (excClassObj nm q C N bs bm true sn sub ab col dd k0 k1 k2 k3 k5 "ValueError.__new__") ∧ PySem.HandSPX.refsVE bm = true := by
  unfold oexB at q
  split at q
  · rename_i t dd cd sl ho
    split at q
    · rename_i C' bm k0 k1 k2 k3 n k5 hm hs
      simp only [Bool.and_eq_true, decide_eq_true_eq, Bool.not_eq_true'] at q
      obtain ⟨rfl, rfl, rfl, hdel, hdct, ht⟩ := q
      obtain ⟨nm, bs, mro, ns, qn, hd, sn, sub, ab, col, del⟩ := cd
      dsimp only at hm hdel hdct
      subst hm hdel hdct
      have hsl : sl = #[k0, k1, k2, k3, some (.builtin "ValueError.__new__"), k5] := by
        obtain ⟨l⟩ := sl
        simp only at hs
        rw [hs]
      subst hsl
      exact ⟨nm, qn, ns, bs, bm, sn, sub, ab, col, dd, k0, k1, k2, k3, k5, ho, ht⟩
    · cases q
  · cases q
/-- an exception class of the text, made by its own __init__ -/
structure Oex (K : PySem.W.Frag) (C fI : Addr) : Prop where
  T : OexC K C
  iC : PySem.W.findIn K (.ref C) "__init__" = some (some (.ref fI))
  tI : PySem.W.typeIn K (.ref fI) = some (.type "function")
  F : XfC K C
theorem ba {a b : Bool} (h : (a && b) = true) : a = true ∧ b = true := Bool.and_eq_true_iff.mp h
theorem oex_ok {K : PySem.W.Frag} {x : Str} (h : (Fx.oex x).ok K = true) : Oex K (He.ga K x) (He.ma K (He.ga K x) "__init__") := by
  obtain ⟨h1, h⟩ := ba h
  obtain ⟨h2, h⟩ := ba h
  obtain ⟨h3, h⟩ := ba h
  obtain ⟨h4, h⟩ := ba h
  obtain ⟨h5, h⟩ := ba h
  obtain ⟨h6, h⟩ := ba h
  obtain ⟨h7, h8⟩ := ba h
  exact ⟨⟨oexB_ok h1, of_decide_eq_true h2, of_decide_eq_true h3, of_decide_eq_true h4, h5⟩, of_decide_eq_true h6, of_decide_eq_true h7, xfB_ok h8⟩
/-! ## 2. The head's Hook -/
section
variable {fa : List He.Fa} {fx : List Fx} {fn : List He.DefD} {K : PySem.W.Frag}
theorem SaysX.fact (c : SaysX fa fx fn K) (i : Nat) {f : He.Fa} (h : fa[i]? = some f := by rfl) : f.ok K = true := by
  have c1 := (ba (show ((fa.all fun f => f.ok K) && ((fx.all fun f => f.ok K) && fn.all fun d => d.ok K)) = true from congrArg (fun z : AlX => z.1) c)).1
  exact List.all_eq_true.mp c1 f (List.mem_of_getElem? h)
theorem SaysX.more (c : SaysX fa fx fn K) (i : Nat) {f : Fx} (h : fx[i]? = some f := by rfl) : f.ok K = true := by
  have c1 := (ba (ba (show ((fa.all fun f => f.ok K) && ((fx.all fun f => f.ok K) && fn.all fun d => d.ok K)) = true from congrArg (fun z : AlX => z.1) c)).2).1
  exact List.all_eq_true.mp c1 f (List.mem_of_getElem? h)
theorem SaysX.def_ (c : SaysX fa fx fn K) (i : Nat) {d : He.DefD} (h : fn[i]? = some d := by rfl) : ∃ fd, FunD K d.name d.qual d.params d.body d.scope (d.dvs K) (d.kws K) (He.fAd K d.at_) fd := by
  have c2 := (ba (ba (show ((fa.all fun f => f.ok K) && ((fx.all fun f => f.ok K) && fn.all fun d => d.ok K)) = true from congrArg (fun z : AlX => z.1) c)).2).2
  have e : fn.map (fun d => He.fnW K d.at_) = fn.map He.DefD.val := congrArg (fun z : AlX => z.2) c
  have e2 : (fn.map fun d => He.fnW K d.at_)[i]? = (fn.map He.DefD.val)[i]? := by rw [e]
  rw [List.getElem?_map, List.getElem?_map, h] at e2
  exact He.DefD.funD (Option.some.inj e2) (List.all_eq_true.mp c2 d (List.mem_of_getElem? h))
end

/-! ## 3. Callees -/
/-- the module's name x stands for a def that keeps sp, called with its last arguments dvs left out -/
structure Callee (P : Program) (w : World) (K : PySem.W.Frag) (mg : Str → Option Value) (base : Heap) (CX : CXT) (x : Str) (k : Nat) (dvs : List V) (sp : Sp) : Prop where
  ex : ∃ f fd ps ds, FnOk P w K mg base CX k f fd ps sp ∧ mg x = some (.ref f) ∧ PySem.W.keepIn K (.ref f) = true ∧ Binds K fd ps ds ∧ Vals dvs ds
section
variable {X : Cx} {CX : CXT} {k j : Nat} {sp : Sp} {dvs : List V} {E : XK} {x : Str} {p pos : Pos} {e : Expr} {es : List Expr} {t : TA}
theorem pe_cl (C : Callee X.prog X.w X.K X.mg X.base CX x k dvs sp) (hr : Room j X.A) (ha : PA X (e :: es) t) (hx : Passes CX X E) (hj : k ≤ j := by first | decide | omega) (hg : Gl X x := by rfl) (hdb : (x == ("__debug__" : Str)) = false := by decide)
    (he : starEach (e :: es) X.env = (false, eval e X.env) :: starEach es X.env := by rfl) (hpl : (backTo pos (starEach es X.env)).any (·.1) = false := by rfl) : PE X (.Call (.Name x p) (e :: es) [] pos) (tCall sp dvs E t) := by
  obtain ⟨f, fd, ps, ds, F, hm, hk, hb, hd⟩ := C.ex
  exact pe_call F (hr.mono hj) hg hm hk hb hd hx ha hdb he hpl
/-- one whose raising is wished for at the caller's slots -/
theorem pe_clS {ES : L2.St → XK} (C : Callee X.prog X.w X.K X.mg X.base CX x k [] sp) (hr : Room j X.A) (ha : PA X (e :: es) t) (hx : ∀ σ, PassesAt CX X σ (ES σ)) (hj : k ≤ j := by first | decide | omega) (hg : Gl X x := by rfl) (hdb : (x == ("__debug__" : Str)) = false := by decide)
    (he : starEach (e :: es) X.env = (false, eval e X.env) :: starEach es X.env := by rfl) (hpl : (backTo pos (starEach es X.env)).any (·.1) = false := by rfl) : PE X (.Call (.Name x p) (e :: es) [] pos) (tCallS sp ES t) := by
  obtain ⟨f, fd, ps, ds, F, hm, hk, hb, hd⟩ := C.ex
  cases hd
  exact pe_callS F (hr.mono hj) hg hm hk hb hx ha hdb he hpl
end

/-! ## 4. Heaps -/
theorem sm_new {H : Hp} {p : Addr} {o : HO} (h : H p = none) : Same H (upd H p o) := fun a u e => by
  rw [upd_ne (ne_of_none e h)]
  exact e
theorem sm_mut {H H' : Hp} {p : Addr} {o : HO} (e : Same H H') (h : H p = none) : Same H (upd H' p o) := fun a u ha => by
  rw [upd_ne (ne_of_none ha h)]
  exact e a u ha
theorem sm_get {H H' : Hp} {p : Addr} {o : HO} (e : Same H H') (h : H p = some o) : H' p = some o := e p o h
theorem sm_rd {H H' : Hp} {a : Addr} {u : HO} (e : Same H H') (h : Rd H a u) : Rd H' a u := by
  rcases h with h | ⟨o, h⟩
  · exact Or.inl (e a _ h)
  · exact Or.inr ⟨o, e a _ h⟩
theorem sm_l {K : PySem.W.Frag} {H H' : Hp} {a : Addr} {xs : List V} (e : Same H H') (h : SqL K H a xs) : SqL K H' a xs := by
  rcases h with h | h
  · exact Or.inl (sm_rd e h)
  · exact Or.inr h
theorem sm_t {K : PySem.W.Frag} {H H' : Hp} {a : Addr} {xs : List V} (e : Same H H') (h : SqT K H a xs) : SqT K H' a xs := by
  rcases h with h | h
  · exact Or.inl (sm_rd e h)
  · exact Or.inr h
theorem sq_l {K : PySem.W.Frag} {H : Hp} {a : Addr} {xs : List V} (h : H a = some (.lst xs)) : SqL K H a xs := Or.inl (Or.inl h)
theorem sq_t {K : PySem.W.Frag} {H : Hp} {a : Addr} {xs : List V} (h : H a = some (.tup xs)) : SqT K H a xs := Or.inl (Or.inl h)
mutual
theorem dp_sm {K : PySem.W.Frag} {H H' : Hp} (e : Same H H') : ∀ {v : V} {d : PyData}, Dp K H v d → Dp K H' v d
  | _, _, .non => .non
  | _, _, .bl b => .bl b
  | _, _, .int i => .int i
  | _, _, .str x => .str x
  | _, _, .lst h r => .lst (sm_l e h) (dpall_sm e r)
  | _, _, .tup h r => .tup (sm_t e h) (dpall_sm e r)
theorem dpall_sm {K : PySem.W.Frag} {H H' : Hp} (e : Same H H') : ∀ {vs : List V} {ds : List PyData}, DpAll K H vs ds → DpAll K H' vs ds
  | _, _, .nil => .nil
  | _, _, .cons h r => .cons (dp_sm e h) (dpall_sm e r)
end
theorem sz_of {n : Nat} (h : n ≤ 100000) : n ≤ sizeLine := Nat.le_trans h (by decide)
theorem sz_lt {n : Nat} (h : n < 100000) : n < sizeLine := Nat.lt_of_lt_of_le h (by decide)
theorem upd_id {H : Hp} {a : Addr} {o : HO} (h : H a = some o) : upd H a o = H := by
  funext b
  by_cases e : b = a
  · rw [e, upd_same, h]
  · rw [upd_ne e]

/-! ## 5. Operators for values of several kinds -/
def rAddS : R2 := fun x y H Q => ∃ i j, x = .str i ∧ y = .str j ∧ i.length + j.length ≤ sizeLine ∧ Q (.str (i ++ j)) H
def rAddU (K : PySem.W.Frag) : R2 := fun x y H Q => (rI0 (fun i j => .int (i + j)) x y H Q ∨ rAddS x y H Q) ∨ (rCat x y H Q ∨ rCatT K x y H Q)
def rEqU (K : PySem.W.Frag) : R2 := fun x y H Q => rEq x y H Q ∨ rEqD K x y H Q
def rNeU (K : PySem.W.Frag) : R2 := fun x y H Q => rNe x y H Q ∨ rNeD K x y H Q
def rSlU (K : PySem.W.Frag) : V → Option Int → Option Int → Hp → VK → Prop := fun x lo hi H Q => rSlL K x lo hi H Q ∨ (rSlS x lo hi H Q ∨ rSlA K x lo hi H Q)
def rLeU : R2 := fun x y H Q => rI0 (fun i j => .bl (decide (i ≤ j))) x y H Q ∨ ∃ i j, x = .str i ∧ y = .str j ∧ Q (.bl (!decide (j.cps.toList < i.cps.toList))) H
def rLenU (K : PySem.W.Frag) : List V → Hp → VK → Prop := fun xs H Q => ∃ x n, xs = [x] ∧ LenV K x H n ∧ Q (.int n) H
def rListU (K : PySem.W.Frag) : List V → Hp → VK → Prop := fun xs H Q => ∃ p ys, xs = [.ref p] ∧ (SqL K H p ys ∨ SqT K H p ys) ∧ ∀ l, H l = none → Q (.ref l) (upd H l (.lst ys))
def rTupU (K : PySem.W.Frag) : List V → Hp → VK → Prop := fun xs H Q => ∃ p ys, xs = [.ref p] ∧ ((SqL K H p ys ∧ ∀ l, H l = none → Q (.ref l) (upd H l (.tup ys))) ∨ (SqT K H p ys ∧ Q (.ref p) H))
/-- the text that repr tells -/
inductive ReprV : V → Str → Prop where
  | non : ReprV .non "None"
  | bl (b : Bool) : ReprV (.bl b) (if b then "True" else "False")
  | int (i : Int) (h : i.natAbs.log2 < 1920) : ReprV (.int i) (toString i)
  | str (x : Str) (h : (reprText x).length ≤ sizeLine) : ReprV (.str x) (reprText x)
def rReprU : List V → Hp → VK → Prop := fun xs H Q => ∃ x z, xs = [x] ∧ ReprV x z ∧ Q (.str z) H
section
variable {X : Cx}
theorem op_addU : OpR X (binaryOp .Add) (rAddU X.K) := OpR.or (OpR.or op_add op_add_str) (OpR.or op_cat op_catT)
theorem op_eqU (hu : X.A.units + 64 < cLine) : OpR X (compareOp .Eq) (rEqU X.K) := OpR.or op_eq (op_eqD hu)
theorem op_neU (hu : X.A.units + 64 < cLine) : OpR X (compareOp .NotEq) (rNeU X.K) := OpR.or op_ne (op_neD hu)
theorem op_leU : OpR X (compareOp .LtE) rLeU := OpR.or op_le op_le_str
theorem sl_u : SlR X (rSlU X.K) := SlR.or sl_list (SlR.or sl_str sl_tupA)
theorem call_lenU : CallR X (.builtin "len") (rLenU X.K) := call_len
theorem call_listU : CallR X (.type "list") (rListU X.K) := call_list_of
theorem call_tupU : CallR X (.type "tuple") (rTupU X.K) := call_tuple_of
theorem call_reprU : CallR X (.builtin "repr") rReprU := by
  intro pins s σ H xs us Q I r h
  obtain ⟨x, z, rfl, hz, q⟩ := h
  obtain ⟨u, rfl, ru⟩ := vals1 r
  cases hz with
  | non =>
    cases ru
    exact PySem.P.repr_of_none ⟨.str _, H, I.tok _, ⟨_, rfl⟩, q⟩
  | bl b =>
    cases ru
    exact PySem.P.repr_of_bool ⟨.str _, H, I.tok _, ⟨_, rfl⟩, q⟩
  | int i hi =>
    obtain ⟨t, rfl⟩ := ru
    exact PySem.P.repr_of_int hi ⟨.str _, H, I.tok _, ⟨_, rfl⟩, q⟩
  | str y hy =>
    obtain ⟨t, rfl⟩ := ru
    exact PySem.P.repr_of_str ⟨.str _, H, I.tok _, ⟨_, rfl⟩, q⟩ hy
end

/-! ## 6. Steps of readings. Leaves bear names, so that a step is found by the goal's head -/
def nBl (x : V) (R : Bool → Hp → Prop) (H : Hp) : Prop := ∃ k, x = .bl k ∧ R k H
def nInt (x : V) (R : Option Int → Hp → Prop) (H : Hp) : Prop := ∃ i, x = .int i ∧ R (some i) H
def nLst (xs : List V) (H : Hp) (Q : VK) : Prop := xs.length ≤ sizeLine ∧ ∀ p, H p = none → Q (.ref p) (upd H p (.lst xs))
def nTup (xs : List V) (H : Hp) (Q : VK) : Prop := xs.length ≤ sizeLine ∧ ∀ p, H p = none → Q (.ref p) (upd H p (.tup xs))
def nTy (K : PySem.W.Frag) (T : String) (x : V) (H : Hp) (A : Prop) : Prop := tyV K T x H ∧ A
def nStr (x : V) (A : Prop) : Prop := (∃ a, x = .str a) ∧ A
def nIte (b : Bool) (A B : Prop) : Prop := if b = true then A else B
section
variable {K : PySem.W.Frag} {σ : L2.St} {H : Hp} {Q : VK} {D : Ends} {te ta tb tc tx : TE} {t u : TS} {c c2 : TT} {tA tB2 : TA} {x y v : V} {i j n m : Int} {a b l p q : Addr} {xs ys zs : List V} {z z2 : Str} {k : Nat} {A B : Prop} {r r2 : R2}
-- statements
theorem k_seq (h : t { D with nx := u D } σ H) : tSeq t u D σ H := h
theorem k_next (h : D.nx σ H) : tNext D σ H := h
theorem k_asg {g : TG} (h : te σ H fun x H1 => g x σ H1 D.nx) : tAsg te g D σ H := h
theorem k_name {R : L2.St → Hp → Prop} (h : R (σ.set k (some v)) H) : gName k v σ H R := h
theorem k_ret (h : te σ H D.rt) : tRet te D σ H := h
theorem k_drop (h : te σ H fun _ H1 => D.nx σ H1) : tDrop te D σ H := h
theorem k_ifs (h : c σ H fun b H1 => nIte b (t D σ H1) (u D σ H1)) : tIfS c t u D σ H := h
theorem k_gtup {R : L2.St → Hp → Prop} {w : TGs} (hx : SqT K H a xs) (hl : xs.length = k) (h : w xs σ H R) : gTup K k w (.ref a) σ H R := ⟨a, xs, rfl, hx, hl, h⟩
theorem k_gcons {R : L2.St → Hp → Prop} {g : TG} {w : TGs} (h : g x σ H fun σ' H' => w xs σ' H' R) : gCons g w (x :: xs) σ H R := ⟨x, xs, rfl, h⟩
theorem k_gnil {R : L2.St → Hp → Prop} (h : R σ H) : gNil [] σ H R := ⟨rfl, h⟩
theorem k_gsub {R : L2.St → Hp → Prop} {w : TSet} (h : ta σ H fun o H1 => tb σ H1 fun i H2 => w o i v H2 fun H3 => R σ H3) : gSub ta tb w v σ H R := h
-- tests
theorem k_test {R : Bool → Hp → Prop} (h : te σ H fun x H' => nBl x R H') : tTest te σ H R := h
theorem k_tB {R : Bool → Hp → Prop} (h : te σ H fun x H' => nBl x R H') : tB te σ H R := h
theorem k_bl {R : Bool → Hp → Prop} {b : Bool} (h : R b H) : nBl (.bl b) R H := ⟨b, rfl, h⟩
theorem k_not {R : Bool → Hp → Prop} (h : c σ H fun b H1 => R (!b) H1) : tNot c σ H R := h
theorem k_or {R : Bool → Hp → Prop} (h : c σ H fun b H1 => nIte b (R true H1) (c2 σ H1 R)) : tOr c c2 σ H R := h
theorem k_yes {R : Bool → Hp → Prop} (h : R true H) : tYes σ H R := h
theorem k_dec {P : Prop} [Decidable P] (h1 : P → A) (h2 : ¬ P → B) : nIte (decide P) A B := ite2 (c := decide P = true) (fun e => h1 (of_decide_eq_true e)) fun e => h2 fun z => e (decide_eq_true z)
theorem k_true (h : A) : nIte true A B := iteT h
theorem k_false (h : B) : nIte false A B := iteF h
theorem k_bool {b : Bool} (h1 : b = true → A) (h2 : b = false → B) : nIte b A B := by
  cases b with
  | true => exact iteT (h1 rfl)
  | false => exact iteF (h2 rfl)
theorem k_nt {b : Bool} (h : nIte b B A) : nIte (!b) A B := by
  cases b with
  | true => exact h
  | false => exact h
-- expressions
theorem k_var (hs : σ[k]? = some (some v)) (h : Q v H) : tVar k σ H Q := ⟨v, hs, h⟩
theorem k_c (h : Q v H) : tC v σ H Q := h
theorem k_op (h : ta σ H fun x H1 => tb σ H1 fun y H2 => r x y H2 Q) : tOp r ta tb σ H Q := h
theorem k_if (h : c σ H fun b H1 => nIte b (ta σ H1 Q) (tb σ H1 Q)) : tIf c ta tb σ H Q := h
theorem k_chain (h : ta σ H fun x H1 => tb σ H1 fun y H2 => r x y H2 fun z H3 => nBl z (fun k H3 => nIte k (tc σ H3 fun w H4 => r2 y w H4 Q) (Q (.bl false) H3)) H3) : tChain r r2 ta tb tc σ H Q := h
theorem k_nil {R : List V → Hp → Prop} (h : R [] H) : tNil σ H R := h
theorem k_cons {R : List V → Hp → Prop} (h : ta σ H fun x H1 => tA σ H1 fun xs H2 => R (x :: xs) H2) : tCons ta tA σ H R := h
theorem k_cb {r : List V → Hp → VK → Prop} (h : tA σ H fun vs H1 => r vs H1 Q) : tCB r tA σ H Q := h
theorem k_call {sp : Sp} {dvs : List V} {E : XK} (h : tA σ H fun vs H1 => sp (vs ++ dvs) H1 Q E) : tCall sp dvs E tA σ H Q := h
theorem k_callS {sp : Sp} {E : L2.St → XK} (h : tA σ H fun vs H1 => sp vs H1 Q (E σ)) : tCallS sp E tA σ H Q := h
theorem k_andV (h : ta σ H fun x H1 => nBl x (fun c H1 => nIte c (tb σ H1 Q) (Q (.bl false) H1)) H1) : tAndV ta tb σ H Q := h
theorem k_orV (h : ta σ H fun x H1 => nBl x (fun c H1 => nIte c (Q (.bl true) H1) (tb σ H1 Q)) H1) : tOrV ta tb σ H Q := h
theorem k_notV (h : ta σ H fun x H1 => nBl x (fun c H1 => Q (.bl (!c)) H1) H1) : tNotV ta σ H Q := h
theorem k_lst (h : tA σ H fun xs H1 => nLst xs H1 Q) : tLst tA σ H Q := h
theorem k_tup (h : tA σ H fun xs H1 => nTup xs H1 Q) : tTup tA σ H Q := h
theorem k_nLst (hz : xs.length ≤ 100000) (h : ∀ p H2, H p = none → Same H H2 → H2 p = some (.lst xs) → Q (.ref p) H2) : nLst xs H Q := ⟨sz_of hz, fun p hp => h p _ hp (sm_new hp) upd_same⟩
theorem k_nTup (hz : xs.length ≤ 100000) (h : ∀ p H2, H p = none → Same H H2 → H2 p = some (.tup xs) → Q (.ref p) H2) : nTup xs H Q := ⟨sz_of hz, fun p hp => h p _ hp (sm_new hp) upd_same⟩
theorem k_nopart {R : Option Int → Hp → Prop} (h : R none H) : tNoPart σ H R := h
theorem k_part {R : Option Int → Hp → Prop} (h : te σ H fun x H1 => nInt x R H1) : tPart te σ H R := h
theorem k_nInt {R : Option Int → Hp → Prop} (h : R (some i) H) : nInt (.int i) R H := ⟨i, rfl, h⟩
theorem k_sl {r : V → Option Int → Option Int → Hp → VK → Prop} {tl th : TO} (h : te σ H fun x H1 => tl σ H1 fun l H2 => th σ H2 fun u H3 => r x l u H3 Q) : tSl r te tl th σ H Q := h
theorem k_bm {T : String} {r : V → List V → Hp → VK → Prop} (h : te σ H fun x H1 => nTy K T x H1 (tA σ H1 fun xs H2 => r x xs H2 Q)) : tBM K T r te tA σ H Q := h
theorem k_nTyL (hx : SqL K H a xs) (h : A) : nTy K "list" (.ref a) H A := ⟨Or.inl ⟨rfl, xs, hx⟩, h⟩
theorem k_nTyS (h : A) : nTy K "str" (.str z) H A := ⟨rfl, h⟩
theorem k_m1 {r : V → List V → Hp → VK → Prop} (h : te σ H fun x H1 => nStr x (tx σ H1 fun y H2 => r x [y] H2 Q)) : tM1 r te tx σ H Q := h
theorem k_nStr (h : A) : nStr (.str z) A := ⟨⟨z, rfl⟩, h⟩
-- operators
theorem k_I0 {g : Int → Int → V} (h : Q (g i j) H) : rI0 g (.int i) (.int j) H Q := ⟨i, j, rfl, rfl, h⟩
theorem k_I {C : Int → Int → Prop} {g : Int → Int → V} (hc : C i j) (h : Q (g i j) H) : rI C g (.int i) (.int j) H Q := ⟨i, j, rfl, rfl, hc, h⟩
theorem k_add_i (h : Q (.int (i + j)) H) : rAddU K (.int i) (.int j) H Q := .inl (.inl ⟨i, j, rfl, rfl, h⟩)
theorem k_add_s (hz : z.length + z2.length ≤ 100000) (h : Q (.str (z ++ z2)) H) : rAddU K (.str z) (.str z2) H Q := .inl (.inr ⟨z, z2, rfl, rfl, sz_of hz, h⟩)
theorem k_add_l (h1 : H a = some (.lst xs)) (h2 : H b = some (.lst ys)) (hz : xs.length + ys.length ≤ 100000) (h : ∀ p H2, H p = none → Same H H2 → H2 p = some (.lst (xs ++ ys)) → Q (.ref p) H2) : rAddU K (.ref a) (.ref b) H Q :=
  .inr (.inl ⟨a, b, xs, ys, rfl, rfl, h1, h2, sz_of hz, fun p hp => h p _ hp (sm_new hp) upd_same⟩)
theorem k_mul (hc : (-(2 ^ 64) < i ∧ i < 2 ^ 64) ∨ (-(2 ^ 64) < j ∧ j < 2 ^ 64)) (h : Q (.int (i * j)) H) : rI CMul (fun i j => .int (i * j)) (.int i) (.int j) H Q := ⟨i, j, rfl, rfl, hc, h⟩
theorem k_eq_i (h : Q (.bl (decide (i = j))) H) : rEqU K (.int i) (.int j) H Q := .inl ⟨rfl, by
  rw [show decide (V.int i = V.int j) = decide (i = j) by
    by_cases e : i = j
    · rw [e, decide_eq_true rfl, decide_eq_true rfl]
    · rw [decide_eq_false e, decide_eq_false fun z => e (V.int.inj z)]]
  exact h⟩
theorem k_eq_s (h : Q (.bl (decide (z = z2))) H) : rEqU K (.str z) (.str z2) H Q := .inl ⟨rfl, by
  rw [show decide (V.str z = V.str z2) = decide (z = z2) by
    by_cases e : z = z2
    · rw [e, decide_eq_true rfl, decide_eq_true rfl]
    · rw [decide_eq_false e, decide_eq_false fun w => e (V.str.inj w)]]
  exact h⟩
theorem k_ne_i (h : Q (.bl (!decide (i = j))) H) : rNeU K (.int i) (.int j) H Q := .inl ⟨rfl, by
  rw [show decide (V.int i = V.int j) = decide (i = j) by
    by_cases e : i = j
    · rw [e, decide_eq_true rfl, decide_eq_true rfl]
    · rw [decide_eq_false e, decide_eq_false fun z => e (V.int.inj z)]]
  exact h⟩
theorem k_ne_s (h : Q (.bl (!decide (z = z2))) H) : rNeU K (.str z) (.str z2) H Q := .inl ⟨rfl, by
  rw [show decide (V.str z = V.str z2) = decide (z = z2) by
    by_cases e : z = z2
    · rw [e, decide_eq_true rfl, decide_eq_true rfl]
    · rw [decide_eq_false e, decide_eq_false fun w => e (V.str.inj w)]]
  exact h⟩
theorem k_ne_b {b c : Bool} (h : Q (.bl (!decide (b = c))) H) : rNeU K (.bl b) (.bl c) H Q := .inl ⟨rfl, by
  rw [show decide (V.bl b = V.bl c) = decide (b = c) by
    by_cases e : b = c
    · rw [e, decide_eq_true rfl, decide_eq_true rfl]
    · rw [decide_eq_false e, decide_eq_false fun w => e (V.bl.inj w)]]
  exact h⟩
theorem k_eq_d {d e : PyData} (h1 : Dp K H x d) (h2 : Dp K H y e) (s1 : SeqAt.shaped d = true) (s2 : SeqAt.shaped e = true) (h : Q (.bl (PyData.eqv d e)) H) : rEqU K x y H Q := .inr ⟨d, e, h1, h2, s1, s2, h⟩
theorem k_ne_d {d e : PyData} (h1 : Dp K H x d) (h2 : Dp K H y e) (s1 : SeqAt.shaped d = true) (s2 : SeqAt.shaped e = true) (h : Q (.bl (!PyData.eqv d e)) H) : rNeU K x y H Q := .inr ⟨d, e, h1, h2, s1, s2, h⟩
theorem k_le_i (h : Q (.bl (decide (i ≤ j))) H) : rLeU (.int i) (.int j) H Q := .inl ⟨i, j, rfl, rfl, h⟩
theorem k_ix_l (hx : SqL K H a xs) (hi : atI xs i = some v) (h : Q v H) : rIx K (.ref a) (.int i) H Q := .inl ⟨a, xs, i, v, rfl, rfl, hx, hi, h⟩
theorem k_ix_t (hx : SqT K H a xs) (hi : atI xs i = some v) (h : Q v H) : rIx K (.ref a) (.int i) H Q := .inr (.inl ⟨a, xs, i, v, rfl, rfl, hx, hi, h⟩)
theorem k_ix_s {c : Nat} (hz : z.length ≤ 100000) (hi : atI z.cps.toList i = some c) (h : Q (.str ⟨#[c]⟩) H) : rIx K (.str z) (.int i) H Q := .inr (.inr ⟨z, i, c, rfl, rfl, sz_of hz, hi, h⟩)
theorem k_sl_l {lo hi : Option Int} (hx : SqL K H a xs) (h : ∀ p H2, H p = none → Same H H2 → H2 p = some (.lst (cutV xs lo hi)) → Q (.ref p) H2) : rSlU K (.ref a) lo hi H Q := .inl ⟨a, xs, rfl, hx, fun p hp => h p _ hp (sm_new hp) upd_same⟩
theorem k_sl_s {lo hi : Option Int} (hz : z.length ≤ 100000) (h : Q (.str (cutS z lo hi)) H) : rSlU K (.str z) lo hi H Q := .inr (.inl ⟨z, rfl, sz_of hz, h⟩)
theorem k_len_s (hz : z.length ≤ 100000) (h : Q (.int z.length) H) : rLenU K [.str z] H Q := ⟨.str z, z.length, rfl, ⟨sz_of hz, rfl⟩, h⟩
theorem k_len_l (hx : SqL K H a xs) (h : Q (.int xs.length) H) : rLenU K [.ref a] H Q := ⟨.ref a, xs.length, rfl, .inl ⟨xs, hx, rfl⟩, h⟩
theorem k_len_t (hx : SqT K H a xs) (h : Q (.int xs.length) H) : rLenU K [.ref a] H Q := ⟨.ref a, xs.length, rfl, .inr ⟨xs, hx, rfl⟩, h⟩
theorem k_list_l (hx : SqL K H a xs) (h : ∀ p H2, H p = none → Same H H2 → H2 p = some (.lst xs) → Q (.ref p) H2) : rListU K [.ref a] H Q := ⟨a, xs, rfl, .inl hx, fun p hp => h p _ hp (sm_new hp) upd_same⟩
theorem k_list_t (hx : SqT K H a xs) (h : ∀ p H2, H p = none → Same H H2 → H2 p = some (.lst xs) → Q (.ref p) H2) : rListU K [.ref a] H Q := ⟨a, xs, rfl, .inr hx, fun p hp => h p _ hp (sm_new hp) upd_same⟩
theorem k_tup_l (hx : SqL K H a xs) (h : ∀ p H2, H p = none → Same H H2 → H2 p = some (.tup xs) → Q (.ref p) H2) : rTupU K [.ref a] H Q := ⟨a, xs, rfl, .inl ⟨hx, fun p hp => h p _ hp (sm_new hp) upd_same⟩⟩
theorem k_tup_t (hx : SqT K H a xs) (h : Q (.ref a) H) : rTupU K [.ref a] H Q := ⟨a, xs, rfl, .inr ⟨hx, h⟩⟩
theorem k_repr (hr : ReprV x z) (h : Q (.str z) H) : rReprU [x] H Q := ⟨x, z, rfl, hr, h⟩
theorem k_setL {R : Hp → Prop} (h0 : H a = some (.lst xs)) (hi : ixN xs.length i = some k) (h : R (upd H a (.lst (xs.set k v)))) : rSetL (.ref a) (.int i) v H R := ⟨a, xs, i, k, rfl, rfl, h0, hi, h⟩
theorem k_sum {ns : List Int} (hx : SqL K H a (ns.map V.int)) (h : Q (.int ns.sum) H) : rSum K [.ref a] H Q := ⟨a, ns, rfl, hx, h⟩
theorem k_all {bs : List Bool} (hx : SqL K H a (bs.map V.bl)) (h : Q (.bl (bs.all id)) H) : rAll K [.ref a] H Q := ⟨a, bs, rfl, hx, h⟩
theorem k_any {bs : List Bool} (hx : SqL K H a (bs.map V.bl)) (h : Q (.bl (bs.any id)) H) : rAny K [.ref a] H Q := ⟨a, bs, rfl, hx, h⟩
end

theorem k_start {t : TS} {D : Ends} {σ σ' : L2.St} {H : Hp} (e : σ = σ') (h : t D σ' H) : t D σ H := by
  rw [e]
  exact h
/-! ## 7. Loops and comprehensions -/
def nRng1 (vs : List V) (R : It → Hp → Prop) (H : Hp) : Prop := ∃ j : Int, vs = [.int j] ∧ -(2 ^ 62) ≤ j ∧ j < 2 ^ 62 ∧ R (Itr 0 j.toNat) H
def nItl (K : PySem.W.Frag) (x : V) (R : It → Hp → Prop) (H : Hp) : Prop := ∃ a, x = .ref a ∧ (∃ xs, SqL K H a xs) ∧ R (Itl K a) H
def nItt (K : PySem.W.Frag) (x : V) (R : It → Hp → Prop) (H : Hp) : Prop := ∃ a, x = .ref a ∧ (∃ xs, SqT K H a xs) ∧ R (Itt K a) H
def nIts (x : V) (R : It → Hp → Prop) (H : Hp) : Prop := ∃ z, x = .str z ∧ R (Its z) H
def nIte2 (K : PySem.W.Frag) (vs : List V) (R : It → Hp → Prop) (H : Hp) : Prop := ∃ a xs, vs = [.ref a] ∧ SqL K H a xs ∧ R (Ite K a) H
def nItz (K : PySem.W.Frag) (vs : List V) (R : It → Hp → Prop) (H : Hp) : Prop := ∃ a b xs ys, vs = [.ref a, .ref b] ∧ ((SqL K H a xs ∧ SqL K H b ys ∧ R (Itz K a b) H) ∨ (SqT K H a xs ∧ SqT K H b ys ∧ R (RZ.ItzT K a b) H))
def nFor (J : It) (g : TG) (tb : TS) (D : Ends) (σ : L2.St) (H : Hp) : Prop := ∃ W : Nat → Nat → L2.St → Hp → Prop, (∃ m, W 0 m σ H) ∧ ∀ i m σ H, W i m σ H →
  (J.stop i H ∧ D.nx σ H) ∨ (J.go i H ∧ ∃ N : L2.St → Hp → Prop, (∀ σ' H', N σ' H' → ∃ m', m' < m ∧ W (i + 1) m' σ' H') ∧ ∀ x H', J.yld i H x H' → g x σ H' fun σ2 H2 => tb { D with nx := N, ct := N, bk := D.nx } σ2 H2)
def nLc (J : It) (g : TG) (tt : TT) (te : TE) (vs : List Nat) (σ : L2.St) (H1 : Hp) (Q : VK) : Prop := ∀ D, H1 D = none → ∃ W : Nat → Nat → Hp → Prop, (∃ m, W 0 m (upd H1 D (.lst []))) ∧ ∀ i m H, W i m H →
  (J.stop i H ∧ Q (.ref D) H) ∨ (J.go i H ∧ ∃ Nx : Hp → Prop, (∀ H', Nx H' → ∃ m', m' < m ∧ W (i + 1) m' H') ∧ ∀ x H', J.yld i H x H' → g x (wipe σ vs) H' fun σ2 H2 => wipe σ2 vs = wipe σ vs ∧ tt σ2 H2 fun b H3 =>
    if b = true then te σ2 H3 fun y H4 => ∃ acc, H4 D = some (.lst acc) ∧ acc.length < sizeLine ∧ Nx (upd H4 D (.lst (acc ++ [y]))) else Nx H3)
section
variable {K : PySem.W.Frag} {σ : L2.St} {H : Hp} {Q : VK} {D : Ends} {te : TE} {tt : TT} {tb : TS} {tA : TA} {wi : TI} {g : TG} {R : It → Hp → Prop} {i j : Int} {n : Nat} {a b : Addr} {xs ys : List V} {z : Str} {vs : List Nat} {J : It} {G : Hp → Prop} {Y : Nat → Hp → V → Hp → Prop}
theorem k_for (h : wi σ H fun J H1 => nFor J g tb D σ H1) : tFor wi g tb D σ H := h
theorem k_lc (h : wi σ H fun J H1 => nLc J g tt te vs σ H1 Q) : tLc wi g tt te vs σ H Q := h
theorem k_rng1 (h : tA σ H fun vs H1 => nRng1 vs R H1) : iRng1 tA σ H R := h
theorem k_itl (h : te σ H fun x H1 => nItl K x R H1) : iList K te σ H R := h
theorem k_itt (h : te σ H fun x H1 => nItt K x R H1) : iTup K te σ H R := h
theorem k_its (h : te σ H fun x H1 => nIts x R H1) : iStr te σ H R := h
theorem k_ite (h : tA σ H fun vs H1 => nIte2 K vs R H1) : iEnum K tA σ H R := h
theorem k_itz (h : tA σ H fun vs H1 => nItz K vs R H1) : RZ.iZipA K tA σ H R := h
theorem k_nRng1 (h1 : -(2 ^ 62) ≤ j) (h2 : j < 2 ^ 62) (h : R (Itr 0 j.toNat) H) : nRng1 [.int j] R H := ⟨j, rfl, h1, h2, h⟩
theorem k_nItl (hx : SqL K H a xs) (h : R (Itl K a) H) : nItl K (.ref a) R H := ⟨a, rfl, ⟨xs, hx⟩, h⟩
theorem k_nItt (hx : SqT K H a xs) (h : R (Itt K a) H) : nItt K (.ref a) R H := ⟨a, rfl, ⟨xs, hx⟩, h⟩
theorem k_nIts (h : R (Its z) H) : nIts (.str z) R H := ⟨z, rfl, h⟩
theorem k_nIte (hx : SqL K H a xs) (h : R (Ite K a) H) : nIte2 K [.ref a] R H := ⟨a, xs, rfl, hx, h⟩
theorem k_nItzL (hx : SqL K H a xs) (hy : SqL K H b ys) (h : R (Itz K a b) H) : nItz K [.ref a, .ref b] R H := ⟨a, b, xs, ys, rfl, .inl ⟨hx, hy, h⟩⟩
theorem k_nItzT (hx : SqT K H a xs) (hy : SqT K H b ys) (h : R (RZ.ItzT K a b) H) : nItz K [.ref a, .ref b] R H := ⟨a, b, xs, ys, rfl, .inr ⟨hx, hy, h⟩⟩
theorem k_nFor (w : Walk J n G Y) (Pv : Nat → L2.St → Hp → Prop) (h0 : Pv 0 σ H) (hG : ∀ i σ H, i ≤ n → Pv i σ H → G H)
    (hs : ∀ i x σ H H', i < n → Pv i σ H → Y i H x H' → g x σ H' fun σ2 H2 => tb { D with nx := Pv (i + 1), ct := Pv (i + 1), bk := D.nx } σ2 H2) (hd : ∀ σ H, Pv n σ H → D.nx σ H) : nFor J g tb D σ H := for_it w Pv h0 hG hs hd
/-- over zip of two tuples -/
theorem walk_zipT {n : Nat} (hn : n = min xs.length ys.length) : Walk (RZ.ItzT K a b) n (fun H => SqT K H a xs ∧ SqT K H b ys) (YPair (fun i => xs[i]?) (fun i => ys[i]?)) := by
  subst hn
  refine ⟨fun i _ hi q => ?_, fun _ q => ⟨xs, ys, q.1, q.2, by omega⟩, fun i H v H' _ q y => ?_⟩
  · have h1 : i < xs.length := by omega
    have h2 : i < ys.length := by omega
    exact ⟨xs, ys, xs[i], ys[i], q.1, q.2, by simp [h1], by simp [h2]⟩
  · obtain ⟨T, x, z, h1, h2, h3, h4, h5⟩ := y
    exact ⟨T, x, z, h1, h2, h3, h4 xs q.1, h5 ys q.2⟩
/-- a comprehension; Pv: what holds of the turn and of the values so far, told without the heap -/
theorem k_nLc {tg : TG} (w : Walk J n G Y) (hG : ∀ H', Same H H' → G H') (Pv : Nat → List V → Prop) (h0 : Pv 0 []) (hz : ∀ i ws, i ≤ n → Pv i ws → ws.length ≤ 50000)
    (hs : ∀ (i : Nat) (x : V) (H1 H2 : Hp) (ws : List V) (Kp : VK) (Ks : Hp → Prop), i < n → Same H H1 → Pv i ws → Y i H1 x H2 → (∀ y H5, Same H1 H5 → Pv (i + 1) (ws ++ [y]) → Kp y H5) → (∀ H5, Same H1 H5 → Pv (i + 1) ws → Ks H5) →
      tg x (wipe σ vs) H2 fun σ2 H3 => wipe σ2 vs = wipe σ vs ∧ tt σ2 H3 fun b H4 => nIte b (te σ2 H4 Kp) (Ks H4))
    (hd : ∀ (p : Addr) (H' : Hp) (ws : List V), H p = none → Same H H' → H' p = some (.lst ws) → Pv n ws → Q (.ref p) H') : nLc J tg tt te vs σ H Q := by
  intro p hp
  refine lc_it w (fun i H' => ∃ ws : List V, Same H H' ∧ H' p = some (.lst ws) ∧ Pv i ws) ⟨[], sm_new hp, upd_same, h0⟩ (fun i H' _ h => ?_) (fun i x H1 H2 hi h hy => ?_) (fun H' h => ?_)
  · obtain ⟨ws, s1, _⟩ := h
    exact hG H' s1
  · obtain ⟨ws, s1, e1, q1⟩ := h
    exact hs i x H1 H2 ws _ _ hi s1 q1 hy (fun y H5 s5 q5 => ⟨ws, s5 p _ e1, sz_lt (by have := hz i ws (by omega) q1; omega), ws ++ [y], sm_mut (s1.trans s5) hp, upd_same, q5⟩) (fun H5 s5 q5 => ⟨ws, s1.trans s5, s5 p _ e1, q5⟩)
  · obtain ⟨ws, s1, e1, q1⟩ := h
    exact hd p H' ws hp s1 e1 q1
end

/-! ## 8. The bag of draws: its list is told by a word that never changes, so that a draw leaves the heap as it is -/
/-- at b: the list of the cells (at c), a place from 0 on, a held number, a knot -/
def bagO (b c : Addr) : HO := .ext fun h => ∃ (i1 i2 i3 : Int) (t1 t2 t3 : Tok) (n : Nat), 0 ≤ i1 ∧ h.get? b = some { cls := .type "list", data := .seq #[.ref c, .int i1 t1, .int i2 t2, .int i3 t3] n }
def BagOk (H : Hp) (b : Addr) : Prop := ∃ (c : Addr) (ns : List Int), H b = some (bagO b c) ∧ H c = some (.lst (ns.map V.int))
theorem BagOk.sm {H H' : Hp} {b : Addr} (e : Same H H') (h : BagOk H b) : BagOk H' b := by
  obtain ⟨c, ns, h1, h2⟩ := h
  exact ⟨c, ns, e _ _ h1, e _ _ h2⟩
def bagL (c : Addr) (i1 i2 i3 : Int) : List V := [.ref c, .int i1, .int i2, .int i3]
section
variable {X : Cx} {pins : List (Addr × Obj)} {σ : L2.St} {H : Hp} {s : Shared} {b c : Addr}
/-- the bag is opened -/
theorem bag_open (I : Inv X pins σ H s) (h : H b = some (bagO b c)) : ∃ i1 i2 i3 : Int, 0 ≤ i1 ∧ Inv X pins σ (upd H b (.lst (bagL c i1 i2 i3))) s := by
  obtain ⟨⟨i1, i2, i3, t1, t2, t3, n, hi, hg⟩, _, _⟩ := (show ObjOk X.prog X.w H s.heap b (bagO b c) from I.hok b _ h)
  refine ⟨i1, i2, i3, hi, ?_⟩
  have J := I.write (t' := s.toks) (h' := s.heap) (x := b) (e := b) (o := .lst (bagL c i1 i2 i3)) (by rw [h]; exact True.intro) (.inl rfl) (fun _ _ _ q => q) ⟨_, hg⟩
    ⟨sz_of (by show 4 ≤ 100000; decide), [.ref c, .int i1 t1, .int i2 t2, .int i3 t3], n, .cons rfl (.cons ⟨_, rfl⟩ (.cons ⟨_, rfl⟩ (.cons ⟨_, rfl⟩ .nil))), hg⟩
  exact J
/-- .. and closed -/
theorem bag_shut {i1 i2 i3 : Int} (I : Inv X pins σ H s) (h : H b = some (.lst (bagL c i1 i2 i3))) (hi : 0 ≤ i1) : Inv X pins σ (upd H b (bagO b c)) s := by
  obtain ⟨_, its, n, r, hg⟩ := (show ObjOk X.prog X.w H s.heap b (.lst (bagL c i1 i2 i3)) from I.hok b _ h)
  cases r with
  | cons r0 r =>
    cases r with
    | cons r1 r =>
      cases r with
      | cons r2 r =>
        cases r with
        | cons r3 r =>
          cases r
          cases r0
          obtain ⟨t1, rfl⟩ := r1
          obtain ⟨t2, rfl⟩ := r2
          obtain ⟨t3, rfl⟩ := r3
          have J := I.write (t' := s.toks) (h' := s.heap) (x := b) (e := b) (o := bagO b c) (by rw [h]; exact True.intro) (.inl rfl) (fun _ _ _ q => q) ⟨_, hg⟩
            ⟨⟨i1, i2, i3, t1, t2, t3, n, hi, hg⟩, ⟨_, hg⟩, fun h1 h2 z k => by
              obtain ⟨j1, j2, j3, u1, u2, u3, m, hj, e⟩ := z
              exact ⟨j1, j2, j3, u1, u2, u3, m, hj, k _ e⟩⟩
          exact J
/-- a block between the opening and the closing -/
def tBag (t : TS) : TS := fun D σ H => ∃ b c, H b = some (bagO b c) ∧ ∀ i1 i2 i3 : Int, 0 ≤ i1 →
  t { nx := fun σ' H' => ∃ j1 j2 j3, 0 ≤ j1 ∧ H' b = some (.lst (bagL c j1 j2 j3)) ∧ D.nx σ' (upd H' b (bagO b c)), rt := fun v H' => ∃ j1 j2 j3, 0 ≤ j1 ∧ H' b = some (.lst (bagL c j1 j2 j3)) ∧ D.rt v (upd H' b (bagO b c)),
      bk := fun σ' H' => ∃ j1 j2 j3, 0 ≤ j1 ∧ H' b = some (.lst (bagL c j1 j2 j3)) ∧ D.bk σ' (upd H' b (bagO b c)), ct := fun σ' H' => ∃ j1 j2 j3, 0 ≤ j1 ∧ H' b = some (.lst (bagL c j1 j2 j3)) ∧ D.ct σ' (upd H' b (bagO b c)) } σ (upd H b (.lst (bagL c i1 i2 i3)))
theorem pss_bag {st : List Stmt} {t : TS} (h : PSs X st t) : PSs X st (tBag t) := by
  refine ⟨fun pins s σ H D I hw => ?_⟩
  obtain ⟨b, c, hb, hw⟩ := hw
  obtain ⟨i1, i2, i3, hi, I1⟩ := bag_open I hb
  refine thn (h.run pins s σ _ _ I1 (hw i1 i2 i3 hi)) fun f s1 q => ?_
  cases f with
  | next => obtain ⟨σ', H', I2, j1, j2, j3, hj, e, q⟩ := q; exact ⟨σ', _, bag_shut I2 e hj, q⟩
  | brk => obtain ⟨σ', H', I2, j1, j2, j3, hj, e, q⟩ := q; exact ⟨σ', _, bag_shut I2 e hj, q⟩
  | cont => obtain ⟨σ', H', I2, j1, j2, j3, hj, e, q⟩ := q; exact ⟨σ', _, bag_shut I2 e hj, q⟩
  | ret v => obtain ⟨x, σ', H', I2, r, j1, j2, j3, hj, e, q⟩ := q; exact ⟨x, σ', _, bag_shut I2 e hj, r, q⟩
/-- a block that makes a bag and hands it back -/
def tSeal (t : TS) : TS := fun D σ H => t { nx := D.nx, rt := fun v H' => ∃ b c i1 i2 i3, v = .ref b ∧ 0 ≤ i1 ∧ H' b = some (.lst (bagL c i1 i2 i3)) ∧ D.rt (.ref b) (upd H' b (bagO b c)), bk := D.bk, ct := D.ct } σ H
theorem pss_seal {st : List Stmt} {t : TS} (h : PSs X st t) : PSs X st (tSeal t) := by
  refine ⟨fun pins s σ H D I hw => ?_⟩
  refine thn (h.run pins s σ _ _ I hw) fun f s1 q => ?_
  cases f with
  | next => exact q
  | brk => exact q
  | cont => exact q
  | ret v =>
    obtain ⟨x, σ', H', I2, r, b, c, i1, i2, i3, rfl, hi, e, q⟩ := q
    exact ⟨_, σ', _, bag_shut I2 e hi, r, q⟩
end

/-! ## 9. isinstance against built-in classes; data that repr tells -/
def tyD : PyData → String
  | .none => "NoneType"
  | .bool _ => "bool"
  | .int _ => "int"
  | .str _ => "str"
  | .list _ => "list"
  | .tuple _ => "tuple"
  | .dict _ => "dict"
def isSeqD : PyData → Bool
  | .list _ => true
  | .tuple _ => true
  | _ => false
def isLstD : PyData → Bool
  | .list _ => true
  | _ => false
def isTupD : PyData → Bool
  | .tuple _ => true
  | _ => false
theorem dp_ty {K : PySem.W.Frag} {H : Hp} {x : V} {d : PyData} (h : Dp K H x d) : TyX K H x (.type (tyD d)) := by
  cases h with
  | non => exact .base .non
  | bl b => exact .base (.bl b)
  | int i => exact .base (.int i)
  | str z => exact .base (.str z)
  | lst h _ =>
    rcases h with (h | ⟨o, h⟩) | ⟨o, its, n, hk, hc, _⟩
    · exact .base (.lst h)
    · exact .base (.frz h)
    · exact .kList hk hc
  | tup h _ =>
    rcases h with (h | ⟨o, h⟩) | ⟨o, its, n, hk, hc, _⟩
    · exact .base (.tup h)
    · exact .fTuple h
    · exact .kTuple hk hc
def rIsiU (K : PySem.W.Frag) : List V → Hp → VK → Prop := fun xs H Q => rIsiT K xs H Q ∨ rIsi K xs H Q
theorem call_isiU {X : Cx} : CallR X (.builtin "isinstance") (rIsiU X.K) := by
  intro pins s σ H xs us Q I r h
  rcases h with h | h
  · exact call_isiT pins s σ H xs us Q I r h
  · exact call_isi pins s σ H xs us Q I r h
section
variable {K : PySem.W.Frag} {H : Hp} {Q : VK} {x : V} {d : PyData} {tp : Addr}
theorem isi_seq (nd : ∀ kvs, d ≠ .dict kvs) : PySem.W.kitAny K (.type (tyD d)) [.type "list", .type "tuple"] = some (isSeqD d) := by
  have no : ∀ T : String, kitB T "list" = some false → kitB T "tuple" = some false → PySem.W.kitAny K (.type T) [.type "list", .type "tuple"] = some false := fun T h1 h2 =>
    kitAny_cons (b := false) (kit_ty h1) (fun _ => kitAny_cons (b := false) (kit_ty h2) (fun _ => kitAny_nil) (fun z => by cases z)) (fun z => by cases z)
  cases d with
  | none => exact no "NoneType" (by decide +kernel) (by decide +kernel)
  | bool b => exact no "bool" (by decide +kernel) (by decide +kernel)
  | int b => exact no "int" (by decide +kernel) (by decide +kernel)
  | str b => exact no "str" (by decide +kernel) (by decide +kernel)
  | list b => exact kitAny_cons (b := true) (kit_ty (show kitB "list" "list" = some true by decide +kernel)) (fun z => by cases z) (fun _ => rfl)
  | tuple b => exact kitAny_cons (b := false) (kit_ty (show kitB "tuple" "list" = some false by decide +kernel)) (fun _ => kitAny_cons (b := true) (kit_ty (show kitB "tuple" "tuple" = some true by decide +kernel)) (fun z => by cases z) (fun _ => rfl)) (fun z => by cases z)
  | dict kvs => exact absurd rfl (nd kvs)
theorem isi_lst (nd : ∀ kvs, d ≠ .dict kvs) : PySem.W.kitOne K (.type (tyD d)) (.type "list") = some (isLstD d) := by
  cases d with
  | none => exact kit_ty (show kitB "NoneType" "list" = some false by decide +kernel)
  | bool b => exact kit_ty (show kitB "bool" "list" = some false by decide +kernel)
  | int b => exact kit_ty (show kitB "int" "list" = some false by decide +kernel)
  | str b => exact kit_ty (show kitB "str" "list" = some false by decide +kernel)
  | list b => exact kit_ty (show kitB "list" "list" = some true by decide +kernel)
  | tuple b => exact kit_ty (show kitB "tuple" "list" = some false by decide +kernel)
  | dict kvs => exact absurd rfl (nd kvs)
theorem isi_tup (nd : ∀ kvs, d ≠ .dict kvs) : PySem.W.kitOne K (.type (tyD d)) (.type "tuple") = some (isTupD d) := by
  cases d with
  | none => exact kit_ty (show kitB "NoneType" "tuple" = some false by decide +kernel)
  | bool b => exact kit_ty (show kitB "bool" "tuple" = some false by decide +kernel)
  | int b => exact kit_ty (show kitB "int" "tuple" = some false by decide +kernel)
  | str b => exact kit_ty (show kitB "str" "tuple" = some false by decide +kernel)
  | list b => exact kit_ty (show kitB "list" "tuple" = some false by decide +kernel)
  | tuple b => exact kit_ty (show kitB "tuple" "tuple" = some true by decide +kernel)
  | dict kvs => exact absurd rfl (nd kvs)
theorem dp_nd (h : Dp K H x d) : ∀ kvs, d ≠ .dict kvs := by
  intro kvs e
  subst e
  cases h
theorem k_isiLT (h : Dp K H x d) (ht : H tp = some (.tup [.ty "list", .ty "tuple"])) (q : Q (.bl (isSeqD d)) H) : rIsiU K [x, .ref tp] H Q :=
  .inl ⟨x, tp, _, _, _, _, rfl, ht, .cons (.ty _) (.cons (.ty _) .nil), dp_ty h, isi_seq (dp_nd h), q⟩
theorem k_isiL (h : Dp K H x d) (q : Q (.bl (isLstD d)) H) : rIsiU K [x, .ty "list"] H Q := .inr ⟨x, _, _, _, _, rfl, .ty _, dp_ty h, isi_lst (dp_nd h), q⟩
theorem k_isiTu (h : Dp K H x d) (q : Q (.bl (isTupD d)) H) : rIsiU K [x, .ty "tuple"] H Q := .inr ⟨x, _, _, _, _, rfl, .ty _, dp_ty h, isi_tup (dp_nd h), q⟩
end
/-- data nested less than so deep, all of whose parts repr tells -/
def Fit : Nat → PyData → Prop
  | 0, _ => False
  | j + 1, d => match d with
    | .none => True
    | .bool _ => True
    | .int i => i.natAbs.log2 < 1920
    | .str x => (reprText x).length ≤ sizeLine
    | .list ds => ds.length ≤ 50000 ∧ ∀ e ∈ ds, Fit j e
    | .tuple ds => ds.length ≤ 50000 ∧ ∀ e ∈ ds, Fit j e
    | .dict _ => False
theorem dpall_len {K : PySem.W.Frag} {H : Hp} : ∀ {xs : List V} {ds : List PyData}, DpAll K H xs ds → xs.length = ds.length
  | _, _, .nil => rfl
  | _, _, .cons _ r => by rw [List.length_cons, List.length_cons, dpall_len r]
theorem dpall_get {K : PySem.W.Frag} {H : Hp} : ∀ {xs : List V} {ds : List PyData} {i : Nat} {x : V}, DpAll K H xs ds → xs[i]? = some x → ∃ d, ds[i]? = some d ∧ Dp K H x d
  | _, _, _, _, .nil, h => by simp at h
  | _, _, 0, x, .cons h r, e => by
    simp at e
    subst e
    exact ⟨_, rfl, h⟩
  | _, _, i + 1, x, .cons h r, e => by
    obtain ⟨d, h1, h2⟩ := dpall_get (i := i) (x := x) r (by simpa using e)
    exact ⟨d, by simpa using h1, h2⟩
/-- a scalar's text -/
theorem repr_of_dp {K : PySem.W.Frag} {H : Hp} {x : V} {d : PyData} {j : Nat} (h : Dp K H x d) (f : Fit (j + 1) d) (hs : isSeqD d = false) : ∃ z, ReprV x z := by
  cases h with
  | non => exact ⟨_, .non⟩
  | bl b => exact ⟨_, .bl b⟩
  | int i => exact ⟨_, .int i f⟩
  | str z => exact ⟨_, .str z f⟩
  | lst _ _ => cases hs
  | tup _ _ => cases hs
theorem dp_scal {K : PySem.W.Frag} {H : Hp} {x y : V} {d : PyData} (h1 : Dp K H x d) (h2 : Dp K H y d) (hs : isSeqD d = false) : x = y := by
  cases h1 <;> cases h2 <;> first | rfl | cases hs

/-! ## 10. The rules with the written part as a letter of its own (a comprehension's block has its own context) -/
section
variable {X : Cx} (K : PySem.W.Frag)
theorem op_addK (hK : X.K = K := by rfl) : OpR X (binaryOp .Add) (rAddU K) := by subst hK; exact op_addU
theorem op_eqK (hu : X.A.units + 64 < cLine) (hK : X.K = K := by rfl) : OpR X (compareOp .Eq) (rEqU K) := by subst hK; exact op_eqU hu
theorem op_neK (hu : X.A.units + 64 < cLine) (hK : X.K = K := by rfl) : OpR X (compareOp .NotEq) (rNeU K) := by subst hK; exact op_neU hu
theorem op_inK (hK : X.K = K := by rfl) : OpR X (compareOp .In) (rIn K false) := by subst hK; exact op_in_seq
theorem op_niK (hK : X.K = K := by rfl) : OpR X (compareOp .NotIn) (rIn K true) := by subst hK; exact op_notIn_seq
theorem sl_k (hK : X.K = K := by rfl) : SlR X (rSlU K) := by subst hK; exact sl_u
theorem ix_k (hK : X.K = K := by rfl) : IxR X (rIx K) := by subst hK; exact ix_seq
theorem call_lenK (hK : X.K = K := by rfl) : CallR X (.builtin "len") (rLenU K) := by subst hK; exact call_lenU
theorem call_listK (hK : X.K = K := by rfl) : CallR X (.type "list") (rListU K) := by subst hK; exact call_listU
theorem call_tupK (hK : X.K = K := by rfl) : CallR X (.type "tuple") (rTupU K) := by subst hK; exact call_tupU
theorem call_isiK (hK : X.K = K := by rfl) : CallR X (.builtin "isinstance") (rIsiU K) := by subst hK; exact call_isiU
theorem cr_allK (hc : X.calm = true := by rfl) (hK : X.K = K := by rfl) : CallR X (.builtin "all") (rAll K) := by subst hK; exact cr_all hc
theorem cr_anyK (hc : X.calm = true := by rfl) (hK : X.K = K := by rfl) : CallR X (.builtin "any") (rAny K) := by subst hK; exact cr_any hc
theorem cr_sumK (hc : X.calm = true := by rfl) (hK : X.K = K := by rfl) : CallR X (.builtin "sum") (rSum K) := by subst hK; exact cr_sum hc
theorem cr_sortedSK (hK : X.K = K := by rfl) : CallR X (.builtin "sorted") (rSortedS K) := by subst hK; exact cr_sortedS
theorem pi_listK {tg l : Expr} {tl : TE} (hl : PE X l tl) (hK : X.K = K := by rfl) : PI X tg l (iList K tl) := by subst hK; exact pi_list hl
theorem pi_tupK {tg l : Expr} {tl : TE} (hl : PE X l tl) (hK : X.K = K := by rfl) : PI X tg l (iTup K tl) := by subst hK; exact pi_tup hl
theorem pg_tupK (n : Nat) {es : List Expr} {k : Nat} {t : TGs} {pos : Pos} (hc : X.calm = true) (h : PGs X es t) (hK : X.K = K := by rfl) (hn : (assignEach es X.env).length = n := by rfl) (hst : (assignEach es X.env).findIdx? (·.1) = none := by rfl) : PG X (.Tuple es k pos) (gTup K n t) := by subst hK; exact pg_tup hc h hn hst
theorem pi_enumK {e : Expr} {ta : TA} {p pos tpos : Pos} {elts : List Expr} {kk : Nat} (hg : Gl X "enumerate") (hm : X.mg "enumerate" = none) (ha : PA X [e] ta) (hK : X.K = K := by rfl) (hs : starEach [e] X.env = [(false, eval e X.env)] := by rfl) : PI X (.Tuple elts kk tpos) (.Call (.Name "enumerate" p) [e] [] pos) (iEnum K ta) := by subst hK; exact pi_enum hg hm ha hs
theorem pi_zipK {e e2 : Expr} {ta : TA} {p pos tpos : Pos} {elts : List Expr} {kk : Nat} (hg : Gl X "zip") (hm : X.mg "zip" = none) (ha : PA X [e, e2] ta) (hK : X.K = K := by rfl)
    (hs : starEach [e, e2] X.env = (false, eval e X.env) :: starEach [e2] X.env := by rfl) (hpl : (backTo pos (starEach [e2] X.env)).any (·.1) = false := by rfl) : PI X (.Tuple elts kk tpos) (.Call (.Name "zip" p) [e, e2] [] pos) (RZ.iZipA K ta) := by subst hK; exact RZ.pi_zipA hg hm ha hs hpl
def rJoin (K : PySem.W.Frag) : V → List V → Hp → VK → Prop := fun x xs H Q => ∃ a p, ∃ ys : List Str, x = .str a ∧ xs = [.ref p] ∧ (SqL K H p (ys.map V.str) ∨ SqT K H p (ys.map V.str)) ∧ (ys.map (·.length)).sum + ys.length * a.length ≤ 16777216 ∧ Q (.str (Txt.join a ys)) H
theorem pe_joinK {o e : Expr} {to te : TE} {apos pos : Pos} (ho : PE X o to) (he : PE X e te) (hK : X.K = K := by rfl) (hs : starEach [e] X.env = [(false, eval e X.env)] := by rfl) (hbase : attributeBase o "join" X.env (eval o X.env) = eval o X.env := by rfl) (hline : (apos.endLine == pos.line) = true := by rfl) :
    PE X (.Call (.Attribute o "join" apos) [e] [] pos) (tM1 (rJoin K) to te) := by subst hK; exact pe_join ho he hs hbase hline
theorem pe_bmK {T id : String} {name : Str} {r : V → List V → Hp → VK → Prop} {o e : Expr} {es : List Expr} {to : TE} {t : TA} {apos cpos : Pos} (pa : PlainAttrs T) (slot : Slot T name id) (hty : typeOf (.builtin id) = pure (.type "method_descriptor")) (hm : MtR X id r) (ho : PE X o to) (ha : PA X (e :: es) t) (hK : X.K = K := by rfl)
    (hbase : attributeBase o name X.env (eval o X.env) = eval o X.env := by rfl)
    (hfew : ((backTo cpos (starEach (e :: es) X.env)).all (fun x => !x.1) && (backToKw cpos (keywordEach [] X.env)).all (fun x => x.1.isSome)
      && decide ((e :: es).length + ([] : List Keyword).length + (if ([] : List Keyword).isEmpty then 0 else 1) < 30)) = true := by rfl)
    (hline : (apos.endLine == cpos.line) = true := by rfl) (hs : starEach (e :: es) X.env = (false, eval e X.env) :: starEach es X.env := by rfl) (hplain : (backTo cpos (starEach es X.env)).any (·.1) = false := by rfl) :
    PE X (.Call (.Attribute o name apos) (e :: es) [] cpos) (tBM K T r to t) := by subst hK; exact pe_bm pa slot hty hm ho ha hbase hfew hline hs hplain
end
section
variable {X : Cx}
theorem pe_gs {x z : Str} {pos : Pos} (h : ∃ t, X.mg x = some (.str z t)) (hg : Gl X x := by rfl) (hd : (x == ("__debug__" : Str)) = false := by decide) : PE X (.Name x pos) (tC (.str z)) := by
  obtain ⟨t, h⟩ := h
  exact pe_glob hg h ⟨t, rfl⟩ hd
theorem pe_gi {x : Str} {i : Int} {pos : Pos} (h : ∃ t, X.mg x = some (.int i t)) (hg : Gl X x := by rfl) (hd : (x == ("__debug__" : Str)) = false := by decide) : PE X (.Name x pos) (tC (.int i)) := by
  obtain ⟨t, h⟩ := h
  exact pe_glob hg h ⟨t, rfl⟩ hd
theorem pe_gr {x : Str} {a : Addr} {pos : Pos} (h : X.mg x = some (.ref a)) (hg : Gl X x := by rfl) (hd : (x == ("__debug__" : Str)) = false := by decide) : PE X (.Name x pos) (tC (.ref a)) := pe_glob hg h rfl hd
end
section
variable {K : PySem.W.Frag} {H : Hp} {Q : VK} {a : Addr} {z z2 : Str}
theorem k_join {ys : List Str} (h : SqL K H a (ys.map V.str)) (hz : (ys.map (·.length)).sum + ys.length * z.length ≤ 100000) (q : Q (.str (Txt.join z ys)) H) : rJoin K (.str z) [.ref a] H Q := ⟨z, a, ys, rfl, rfl, .inl h, Nat.le_trans hz (by decide), q⟩
theorem k_joinT {ys : List Str} (h : SqT K H a (ys.map V.str)) (hz : (ys.map (·.length)).sum + ys.length * z.length ≤ 100000) (q : Q (.str (Txt.join z ys)) H) : rJoin K (.str z) [.ref a] H Q := ⟨z, a, ys, rfl, rfl, .inr h, Nat.le_trans hz (by decide), q⟩
theorem k_sortedS {xs : List Str} (h : SqL K H a (xs.map V.str)) (hz : xs.length < 64) (q : ∀ ys p H2, ys.Perm xs → sortedS ys = true → H p = none → Same H H2 → H2 p = some (.lst (ys.map V.str)) → Q (.ref p) H2) : rSortedS K [.ref a] H Q := ⟨a, xs, rfl, h, hz, fun ys p h1 h2 h3 => q ys p _ h1 h2 h3 (sm_new h3) upd_same⟩
theorem k_inS {c : Nat} (q : Q (.bl (decide (c ∈ z.cps.toList))) H) : rInS (.str ⟨#[c]⟩) (.str z) H Q := ⟨c, z, rfl, rfl, q⟩
end

theorem at_n {α : Type} {xs : List α} {z : Int} {j : Nat} {v : α} (e : z = (j : Int)) (h : xs[j]? = some v) : atI xs z = some v := by
  have hj : j < xs.length := (List.getElem?_eq_some_iff.mp h).1
  subst e
  unfold atI ixN
  rw [if_pos (by omega), if_pos (by omega), Option.bind_some, Int.toNat_natCast]
  exact h
theorem map_get {α β : Type} {g : α → β} {xs : List α} {i : Nat} {y : β} (h : (xs.map g)[i]? = some y) : ∃ x, xs[i]? = some x ∧ y = g x := by
  rw [List.getElem?_map] at h
  cases e : xs[i]? with
  | none => rw [e] at h; cases h
  | some x => rw [e] at h; exact ⟨x, rfl, (Option.some.inj h).symm⟩
theorem take_more {α : Type} {l : List α} {i : Nat} {x : α} (h : l[i]? = some x) : l.take (i + 1) = l.take i ++ [x] := by
  rw [List.take_add_one, h]
  rfl
theorem fidx_some {α : Type} {p : α → Bool} : ∀ {ws : List α} {i : Nat} {u : α}, ws[i]? = some u → p u = true → (∀ k, k < i → ∀ v, ws[k]? = some v → p v = false) → ws.findIdx? p = some i
  | [], _, _, h, _, _ => by simp at h
  | w :: r, 0, u, h, hp, _ => by
    have e : w = u := Option.some.inj h
    subst e
    rw [List.findIdx?_cons, hp]
    rfl
  | w :: r, i + 1, u, h, hp, hk => by
    have h0 := hk 0 (by omega) w rfl
    have ih := fidx_some (ws := r) (i := i) h hp fun k hk' v hv => hk (k + 1) (by omega) v hv
    rw [List.findIdx?_cons, h0, ih]
    rfl
theorem fidx_none {α : Type} {p : α → Bool} {ws : List α} (h : ∀ (k : Nat) v, ws[k]? = some v → p v = false) : ws.findIdx? p = none := by
  rw [List.findIdx?_eq_none_iff]
  intro x hx
  obtain ⟨k, hk⟩ := List.mem_iff_getElem?.mp hx
  exact h k x hk
/-! ## 11. Texts by their codes -/
/-- the text of one sign -/
def sg (c : Nat) : Str := ⟨#[c]⟩
/-- the text of such codes -/
def tx (cs : List Nat) : Str := ⟨cs.toArray⟩
theorem tl_tx (cs : List Nat) : TL.tl (tx cs) = cs := rfl
theorem tx_tl (z : Str) : tx (TL.tl z) = z := TL.mk_tl z
theorem len_tx (cs : List Nat) : (tx cs).length = cs.length := TL.len_tl (tx cs)
theorem tx_inj {a b : List Nat} (h : tx a = tx b) : a = b := by
  rw [← tl_tx a, ← tl_tx b, h]
theorem joinL_nil : ∀ ps : List (List Nat), TL.joinL [] ps = ps.flatten
  | [] => rfl
  | [p] => by simp [TL.joinL]
  | p :: q :: r => by
    show p ++ ([] ++ TL.joinL [] (q :: r)) = _
    rw [joinL_nil (q :: r)]
    rfl
/-- single signs put together -/
theorem join_sgs (cs : List Nat) : Txt.join (Str.ofString "") (cs.map sg) = tx cs := by
  refine TL.ext_tl ?_
  rw [TL.join_eq, TL.tl_join, tl_tx, show TL.tl (Str.ofString "") = [] from rfl, joinL_nil, List.map_map]
  have e : (TL.tl ∘ sg) = fun c => [c] := by
    funext c
    rfl
  rw [e]
  induction cs with
  | nil => rfl
  | cons c r ih =>
    show [c] ++ (r.map fun c => [c]).flatten = c :: r
    rw [ih]
    rfl
theorem ltCps_1 (a b : Nat) : PySem.Spec.ltCps [a] [b] = decide (a < b) := by
  show (decide (a < b) || (a == b && false)) = _
  rw [Bool.and_false, Bool.or_false]
theorem risingS_sgs : ∀ (c : Nat) (cs : List Nat), risingS (sg c) (cs.map sg) = true → (c :: cs).Pairwise (· ≤ ·)
  | c, [], _ => by simp
  | c, d :: r, h => by
    have h1 : (!PySem.Spec.ltCps [d] [c] && risingS (sg d) (r.map sg)) = true := h
    obtain ⟨h2, h3⟩ := ba h1
    rw [ltCps_1] at h2
    have h4 : c ≤ d := by simpa using h2
    have ih := risingS_sgs d r h3
    have ih' := List.pairwise_cons.mp ih
    refine List.pairwise_cons.mpr ⟨fun x hx => ?_, ih⟩
    rcases List.mem_cons.mp hx with e | hx
    · rw [e]
      exact h4
    · exact Nat.le_trans h4 (ih'.1 x hx)
theorem sortedS_sgs {cs : List Nat} (h : sortedS (cs.map sg) = true) : cs.Pairwise (· ≤ ·) := by
  cases cs with
  | nil => simp
  | cons c r => exact risingS_sgs c r h
theorem lt_of_le_nodup : ∀ {cs : List Nat}, cs.Pairwise (· ≤ ·) → cs.Nodup → cs.Pairwise (· < ·)
  | [], _, _ => .nil
  | c :: r, h, n => by
    have h' := List.pairwise_cons.mp h
    have n' := List.nodup_cons.mp n
    refine List.pairwise_cons.mpr ⟨fun x hx => ?_, lt_of_le_nodup h'.2 n'.2⟩
    have := h'.1 x hx
    have ne : c ≠ x := fun e => n'.1 (by rw [e]; exact hx)
    omega
/-- a permutation of single signs is one of the codes -/
theorem perm_sgs {ys : List Str} {cs : List Nat} (h : ys.Perm (cs.map sg)) : ∃ ds : List Nat, ys = ds.map sg ∧ ds.Perm cs := by
  refine ⟨ys.map fun y => (TL.tl y).headD 0, ?_, ?_⟩
  · rw [List.map_map]
    have e : ∀ y ∈ ys, (sg ∘ fun y => (TL.tl y).headD 0) y = y := by
      intro y hy
      obtain ⟨c, _, e⟩ := List.mem_map.mp (h.mem_iff.mp hy)
      rw [← e]
      rfl
    rw [List.map_congr_left e, List.map_id']
  · have h2 := h.map fun y => (TL.tl y).headD 0
    rw [List.map_map] at h2
    have e : ((fun y => (TL.tl y).headD 0) ∘ sg) = id := by
      funext c
      rfl
    rw [e, List.map_id] at h2
    exact h2

/-! ## 12. Exceptions of the text with one field besides their word -/
/-- __init__(self, v): self.word = nm; self.fl = v -/
def spX1 (C : Addr) (nm fl : Str) : Sp := fun vs H Q _ => ∃ (a : Addr) (v : V), vs = [.ref a, v] ∧ H a = some (exo a C none) ∧
  ∀ d H', H d = none → d ≠ a → H' = upd (upd (upd H d (exd d [("word", .str nm)])) a (exo a C (some d))) d (exd d [(fl, v), ("word", .str nm)]) → Q .non H'
/-- the class under the module's name x, made with one value -/
structure XCls (P : Program) (w : World) (K : PySem.W.Frag) (mg : Str → Option Value) (base : Heap) (x : Str) (k : Nat) (nm fl : Str) : Prop where
  gC : mg x = some (.ref (He.ga K x))
  O : Oex K (He.ga K x) (He.ma K (He.ga K x) "__init__")
  nw : PySem.W.findIn K (.ref (He.ga K x)) "word" = some none
  nf : PySem.W.findIn K (.ref (He.ga K x)) fl = some none
  F : ∃ fd ps, FnOk P w K mg base CX0 k (He.ma K (He.ga K x) "__init__") fd ps (spX1 (He.ga K x) nm fl) ∧ Binds K fd ps []
def xfs (nm fl : Str) (v : V) : List (Str × V) := [(fl, v), ("word", .str nm)]
def nMk (C : Addr) (sp : Sp) (dvs : List V) (vs : List V) (H1 : Hp) (Q : XK) : Prop := vs.length ≤ 1000 ∧ ∀ a, H1 a = none → sp (.ref a :: (vs ++ dvs)) (upd H1 a (exo a C none))
  (fun v H2 => v = .non ∧ ∃ (d : Addr) (fs : List (Str × V)), H2 a = some (exo a C (some d)) ∧ H2 d = some (exd d fs) ∧ H1 d = none ∧ Q (.ref C) (some d) (upd (del H2 a) d (.xd fs))) (fun _ _ _ => False)
theorem k_mk {C : Addr} {sp : Sp} {dvs : List V} {ta : TA} {σ : L2.St} {H : Hp} {Q : XK} (h : ta σ H fun vs H1 => nMk C sp dvs vs H1 Q) : tMkO C sp dvs ta σ H Q := h
theorem made_x1 {C a : Addr} {nm fl : Str} {v : V} {H1 : Hp} (hk : H1 a = none) {Q : XK} (h : ∀ d H', H1 d = none → Same H1 H' → H' d = some (.xd (xfs nm fl v)) → Q (.ref C) (some d) H') :
    spX1 C nm fl (.ref a :: ([v] ++ [])) (upd H1 a (exo a C none)) (fun u H2 => u = .non ∧ ∃ (d : Addr) (fs : List (Str × V)), H2 a = some (exo a C (some d)) ∧ H2 d = some (exd d fs) ∧ H1 d = none ∧ Q (.ref C) (some d) (upd (del H2 a) d (.xd fs))) (fun _ _ _ => False) := by
  refine ⟨a, v, rfl, upd_same, fun d H' hd ne e => ⟨rfl, d, [(fl, v), ("word", .str nm)], ?_, ?_, ?_, h d _ ?_ (fun b o hb => ?_) upd_same⟩⟩
  · rw [e, upd_ne (Ne.symm ne), upd_same]
  · rw [e, upd_same]
  · rw [upd_ne ne] at hd
    exact hd
  · rw [upd_ne ne] at hd
    exact hd
  · have hba : b ≠ a := ne_of_none hb hk
    have hd1 : H1 d = none := by
      rw [upd_ne ne] at hd
      exact hd
    have hbd : b ≠ d := ne_of_none hb hd1
    rw [upd_ne hbd, del_ne hba, e, upd_ne hbd, upd_ne hba, upd_ne hbd, upd_ne hba]
    exact hb
theorem k_x1 {C : Addr} {nm fl : Str} {v : V} {H1 : Hp} {Q : XK} (h : ∀ d H', H1 d = none → Same H1 H' → H' d = some (.xd (xfs nm fl v)) → Q (.ref C) (some d) H') : nMk C (spX1 C nm fl) [] [v] H1 Q := ⟨by show 1 ≤ 1000; decide, fun a ha => made_x1 ha h⟩
theorem pmk_x1 {X : Cx} {x nm fl : Str} {k j : Nat} {p pos : Pos} {e : Expr} {ta : TA} {K : PySem.W.Frag} (c : XCls X.prog X.w K X.mg X.base x k nm fl) (hr : Room j X.A) (ha : PA X [e] ta) (hx : ∀ E, Passes CX0 X E := by exact fun _ => fun _ _ _ _ _ _ _ h => h.elim) (hK : X.K = K := by rfl) (hj : k + 1 ≤ j := by first | decide | omega) (hg : Gl X x := by rfl) (hdb : (x == ("__debug__" : Str)) = false := by decide)
    (he : starEach [e] X.env = (false, eval e X.env) :: starEach [] X.env := by rfl) (hpl : (backTo pos (starEach [] X.env)).any (·.1) = false := by rfl) :
    PMk X (.Call (.Name x p) [e] [] pos) (tMkO (He.ga K x) (spX1 (He.ga K x) nm fl) [] ta) := by
  subst hK
  obtain ⟨fd, ps, F1, hb⟩ := c.F
  exact pmk_oex c.O.T c.O.iC c.O.tI F1 (hr.mono hj) hb .nil (hx _) hg c.gC ha hdb he hpl
/-- a class's __init__ keeps that -/
theorem x1_read {K : PySem.W.Frag} {C : Addr} {nm fl : Str} (T : OexC K C) (nw : PySem.W.findIn K (.ref C) "word" = some none) (nf : PySem.W.findIn K (.ref C) fl = some none) {vs : List V} {H : Hp} {Q : VK} {E : XK} (h : spX1 C nm fl vs H Q E) {N : List Str} (hN : N.length = 2) :
    tSeq (tOst K "word" (tVar 0) (tC (.str nm))) (tOst K fl (tVar 0) (tVar 1)) { nx := fun _ H' => Q .non H', rt := Q } (L2.start N vs) H := by
  obtain ⟨a, v, rfl, ha, q⟩ := h
  have es : L2.start N [.ref a, v] = [some (.ref a), some v] := by
    unfold L2.start
    rw [hN]
    rfl
  rw [es]
  refine ⟨_, rfl, a, C, rfl, T, nw, .inl ⟨ha, fun d hd ne => ?_⟩⟩
  refine ⟨_, rfl, _, rfl, a, C, rfl, T, nf, .inr ⟨d, [("word", .str nm)], upd_same, ?_, by show 1 ≤ 900; decide, ?_⟩⟩
  · rw [upd_ne ne, upd_same]
  · exact q d _ hd ne rfl

/-! ## 13. Plain texts, good data -/
/-- all signs below 128 -/
def Pl (z : Str) : Prop := ∀ c ∈ TL.tl z, c < 128
theorem pl_ok {z : Str} (h : Pl z) : PyData.strOk z = true := by
  show z.cps.all (· < 0x110000) = true
  rw [Array.all_eq_true']
  intro c hc
  have := h c (by simpa using hc)
  exact decide_eq_true (Nat.lt_of_lt_of_le this (by decide))
theorem pl_repr {z : Str} (h : Pl z) (hz : z.length ≤ 100000) : (reprText z).length ≤ sizeLine := by
  have h1 := PySem.StrLaws.reprText_len z fun c hc => Nat.lt_of_lt_of_le (h c hc) (by decide)
  exact Nat.le_trans h1 (Nat.le_trans (show 10 * z.length + 2 ≤ 1000002 by omega) (by decide))
/-- nested less than j deep; texts plain and short, no dicts -/
def Good : Nat → PyData → Prop
  | 0, _ => False
  | j + 1, d => match d with
    | .none => True
    | .bool _ => True
    | .int i => i.natAbs.log2 < 1920
    | .str x => Pl x ∧ x.length ≤ 100000
    | .list ds => ds.length ≤ 50000 ∧ ∀ e ∈ ds, Good j e
    | .tuple ds => ds.length ≤ 50000 ∧ ∀ e ∈ ds, Good j e
    | .dict _ => False
theorem Good.fit : ∀ {j : Nat} {d : PyData}, Good j d → Fit j d
  | 0, _, h => h.elim
  | j + 1, .none, _ => trivial
  | j + 1, .bool _, _ => trivial
  | j + 1, .int _, h => h
  | j + 1, .str _, h => pl_repr h.1 h.2
  | j + 1, .list _, h => ⟨h.1, fun e he => Good.fit (h.2 e he)⟩
  | j + 1, .tuple _, h => ⟨h.1, fun e he => Good.fit (h.2 e he)⟩
  | j + 1, .dict _, h => h.elim
theorem lay_all : ∀ {ds : List PyData}, (∀ e ∈ ds, PyData.canLay0 e = true) → PyData.canLayAll0 ds = true
  | [], _ => by simp [PyData.canLayAll0]
  | d :: r, h => by
    simp only [PyData.canLayAll0, Bool.and_eq_true]
    exact ⟨h d (List.mem_cons_self ..), lay_all fun e he => h e (List.mem_cons_of_mem _ he)⟩
theorem depth_all {j : Nat} : ∀ {ds : List PyData}, (∀ e ∈ ds, PyData.depth e ≤ j) → PyData.depthAll ds ≤ j
  | [], _ => by simp [PyData.depthAll]
  | d :: r, h => by
    simp only [PyData.depthAll]
    exact Nat.max_le.mpr ⟨h d (List.mem_cons_self ..), depth_all fun e he => h e (List.mem_cons_of_mem _ he)⟩
theorem Good.lay : ∀ {j : Nat} {d : PyData}, Good j d → PyData.canLay0 d = true
  | 0, _, h => h.elim
  | j + 1, .none, _ => by simp [PyData.canLay0]
  | j + 1, .bool _, _ => by simp [PyData.canLay0]
  | j + 1, .int _, _ => by simp [PyData.canLay0]
  | j + 1, .str _, h => by simp only [PyData.canLay0]; exact pl_ok h.1
  | j + 1, .list _, h => by simp only [PyData.canLay0]; exact lay_all fun e he => Good.lay (h.2 e he)
  | j + 1, .tuple _, h => by simp only [PyData.canLay0]; exact lay_all fun e he => Good.lay (h.2 e he)
  | j + 1, .dict _, h => h.elim
theorem Good.dep : ∀ {j : Nat} {d : PyData}, Good j d → PyData.depth d ≤ j
  | 0, _, h => h.elim
  | j + 1, .none, _ => by simp [PyData.depth]
  | j + 1, .bool _, _ => by simp [PyData.depth]
  | j + 1, .int _, _ => by simp [PyData.depth]
  | j + 1, .str _, h => by simp [PyData.depth]
  | j + 1, .list _, h => by simp only [PyData.depth]; exact Nat.succ_le_succ (depth_all fun e he => Good.dep (h.2 e he))
  | j + 1, .tuple _, h => by simp only [PyData.depth]; exact Nat.succ_le_succ (depth_all fun e he => Good.dep (h.2 e he))
  | j + 1, .dict _, h => h.elim
theorem Good.shaped {j : Nat} {d : PyData} (h : Good j d) (hj : j ≤ 64) : SeqAt.shaped d = true := Bool.and_eq_true_iff.mpr ⟨h.lay, decide_eq_true (Nat.le_trans h.dep hj)⟩
theorem eqv_self {j : Nat} {d : PyData} (h : Good j d) : PyData.eqv d d = true := PySem.SeqAt.eqv_refl d h.lay
/-! lists of texts -/
def dStrs (ws : List Str) : PyData := .list (ws.map .str)
theorem eqvAll_strs : ∀ ws vs : List Str, PyData.eqvAll (ws.map .str) (vs.map .str) = decide (ws = vs)
  | [], [] => by simp [PyData.eqvAll]
  | [], v :: vs => by simp [PyData.eqvAll]
  | w :: ws, [] => by simp [PyData.eqvAll]
  | w :: ws, v :: vs => by
    rw [List.map_cons, List.map_cons]
    simp only [PyData.eqvAll, PyData.eqv, eqvAll_strs ws vs]
    by_cases h1 : w = v
    · subst h1
      simp
    · simp [h1]
theorem eqv_strs (ws vs : List Str) : PyData.eqv (dStrs ws) (dStrs vs) = decide (ws = vs) := by
  unfold dStrs
  simp only [PyData.eqv]
  exact eqvAll_strs ws vs
/-! split: the words' signs stand in the text -/
/-! ## 14. A field of the exception that a suite holds, whatever its class -/
def tXfU (K : PySem.W.Frag) (a : Addr) (cls : Value) (d : Option Addr) (n : Str) (i : Nat) : TE := fun σ H Q => ∃ (C dd : Addr) (fs : List (Str × V)) (v : V), σ[i]? = some (some (.ref a)) ∧ cls = .ref C ∧ XfC K C ∧ PySem.W.findIn K (.ref C) n = some none ∧ d = some dd ∧ H dd = some (.xd fs) ∧ fs.lookup n = some v ∧ Q v H
theorem pe_xfU (K : PySem.W.Frag) {X : Cx} {a : Addr} {oe : Obj} {cls : Value} {d : Option Addr} {pn : List (Addr × Obj)} {x n : Str} {p pos : Pos} {i : Nat} (hz : Zc cls d oe) (hf : ∃ vs, oe.data = .fields vs) (he : PE (X.suite a ((a, oe) :: pn)) (.Name x p) (tVar i)) (hK : X.K = K := by rfl)
    (hb : attributeBase (.Name x p) n X.env (eval (.Name x p) X.env) = eval (.Name x p) X.env := by rfl) : PE (X.suite a ((a, oe) :: pn)) (.Attribute (.Name x p) n pos) (tXfU K a cls d n i) := by
  subst hK
  constructor
  intro pins s σ H Q I h
  obtain ⟨C, dd, fs, v, hs, ec, T, hno, ed, ea, l, q⟩ := h
  exact (pe_xf (C := C) T hno hz hf he hb).run pins s σ H Q I ⟨.ref a, hs, rfl, ec, dd, fs, v, ed, ea, l, q⟩

/-! ## 15. A value, a word between two statements -/
section
variable {σ : L2.St} {H : Hp} {Q : VK} {te : TE} {D : Ends} {t u : TS}
/-- whatever way it goes, the value is v -/
theorem k_val (v : V) (h1 : ∀ Q' : VK, (∀ H', Same H H' → Q' v H') → te σ H Q') (h2 : ∀ H', Same H H' → Q v H') : te σ H Q := h1 Q h2
theorem k_cut (Mid : L2.St → Hp → Prop) (h1 : t { D with nx := Mid } σ H) (h2 : ∀ σ' H', Mid σ' H' → u D σ' H') : Evl.tCut t u D σ H := ⟨Mid, h1, h2⟩
end
theorem tl_cutS (z : Str) (lo hi : Option Int) : TL.tl (cutS z lo hi) = ((TL.tl z).drop (HT.sIx z.length 0 lo)).take (HT.sIx z.length z.length hi - HT.sIx z.length 0 lo) := rfl
theorem pl_B {z : Str} (h : (TL.tl z).all (fun c => decide (c < 128)) = true) : Pl z := fun c hc => of_decide_eq_true (List.all_eq_true.mp h c hc)
theorem log_nat {k : Nat} (h : k ≤ 2 ^ 63) : ((k : Nat) : Int).natAbs.log2 < 1920 := by
  rw [Int.natAbs_natCast]
  by_cases h0 : k = 0
  · rw [h0]
    decide
  · exact (Nat.log2_lt h0).mpr (Nat.lt_of_le_of_lt h (Nat.pow_lt_pow_right (by decide) (by decide)))
end Gk
set_option Elab.async false
set_option autoImplicit false
set_option linter.all false
set_option maxRecDepth 100000
set_option maxHeartbeats 4000000
/-! # Sets of tuples whose items are ints and texts: adding, gathering, sorting; the set comprehension over any kind of set -/
namespace Gk
open PySem PySem.Spec PyProof.Rows L2
abbrev mh (P : Program) (w : World) (k : List Key) : Int := tupleKeyHash (mixKind P w) k
abbrev IsM (P : Program) (w : World) (h : Heap) (k : List Key) (b : Addr) : Prop := IsTupleKey (mixKind P w) h k b
/-- a probe's c-th step on the way of the hash g -/
abbrev stp (m : Nat) (g : Int) (c : Nat) : SetTable.Probe := nth m (runAt m (SetTable.bits g % (m + 1)) (SetTable.bits g)) c
section
variable {P : Program} {w : World} {A : Around} {E : Value → Shared → Prop} {s : Shared}
/-- of no class statement; by its value it is known how it is hashed -/
def Tame (v : Value) : Prop := ∀ n, ofAClassStatement n v = pure false ∧ ∃ b, hashByValue n v = pure b
theorem tames {k : List Key} {vs : List Value} (h : ItemsAre (mixKind P w) k vs) : ∀ v ∈ vs, Tame v := by
  induction h with
  | nil => exact fun v hv => nomatch hv
  | cons q _ ih =>
    intro v hv
    rcases List.mem_cons.mp hv with rfl | hv
    · rcases keyIs_shape q with ⟨i, u, rfl, rfl⟩ | ⟨z, u, rfl, rfl⟩ <;> exact fun n => by cases n <;> exact ⟨rfl, _, rfl⟩
    · exact ih v hv
theorem m_cls {k : List Key} {b : Addr} {Q : Bool → Shared → Prop} (kb : IsM P w s.heap k b) (q : Q false s) : wpAny (model P w) A (ofAClassStatement 8 (.ref b)) Q E s := by
  have ty := kb.typeIs
  obtain ⟨o, its, n, ho, _, hd, hi⟩ := kb
  unfold ofAClassStatement
  refine wpAny_bind (wpAny_typeOf ty ?_)
  dsimp only
  simp only [show (("tuple" : String) == "tuple") = true by decide, if_true, Bool.not_true, Bool.false_eq_true, if_false]
  show wpAny _ _ (seqItems? (.ref b) >>= _) _ _ s
  refine wpAny_bind (wpAny_seqItems ho hd (wpAny_bind ?_))
  show wpAny _ _ (forIn its _ _) _ _ s
  rw [← Array.forIn_toList]
  refine wpAny_forIn_list _ (fun l r z => (r.1 = none ∧ z = s) ∧ ∀ v ∈ l, Tame v) _ (fun v l r z hz => ?_) (fun r z hz => ?_) _ _ ⟨⟨rfl, rfl⟩, tames hi⟩
  · obtain ⟨⟨h1, rfl⟩, h2⟩ := hz
    rw [(h2 v List.mem_cons_self _).1]
    refine wpAny_bind (wpAny_pure ?_)
    simp only [Bool.false_eq_true, if_false]
    exact wpAny_pure ⟨⟨rfl, rfl⟩, fun u hu => h2 u (List.mem_cons_of_mem _ hu)⟩
  · obtain ⟨r1, r2⟩ := r
    obtain ⟨⟨h1, rfl⟩, _⟩ := hz
    cases h1
    exact wpAny_pure q
theorem m_hsh {k : List Key} {b : Addr} {Q : Bool → Shared → Prop} (kb : IsM P w s.heap k b) (q : ∀ h, Q h s) : wpAny (model P w) A (hashByValue 8 (.ref b)) Q E s := by
  have ty := kb.typeIs
  obtain ⟨o, its, n, ho, _, hd, hi⟩ := kb
  unfold hashByValue
  refine wpAny_bind (wpAny_specialOf ty F.slot_tuple_hash.lookup ?_)
  show wpAny _ _ (seqItems? (.ref b) >>= _) _ _ s
  refine wpAny_bind (wpAny_seqItems ho hd (wpAny_bind ?_))
  show wpAny _ _ (forIn its _ _) _ _ s
  rw [← Array.forIn_toList]
  refine wpAny_forIn_list _ (fun l r z => (r.1 = none ∧ z = s) ∧ ∀ v ∈ l, Tame v) _ (fun v l r z hz => ?_) (fun r z hz => ?_) _ _ ⟨⟨rfl, rfl⟩, tames hi⟩
  · obtain ⟨⟨h1, rfl⟩, h2⟩ := hz
    obtain ⟨h, eh⟩ := (h2 v List.mem_cons_self 7).2
    rw [eh]
    refine wpAny_bind (wpAny_pure ?_)
    cases h with
    | true =>
      simp only [Bool.not_true, Bool.false_eq_true, if_false]
      exact wpAny_pure ⟨⟨rfl, rfl⟩, fun u hu => h2 u (List.mem_cons_of_mem _ hu)⟩
    | false =>
      simp only [Bool.not_false, if_true]
      exact wpAny_pure (wpAny_pure (q false))
  · obtain ⟨r1, r2⟩ := r
    obtain ⟨⟨h1, rfl⟩, _⟩ := hz
    cases h1
    exact wpAny_pure (q true)
/-- a value that is such a tuple -/
def MemM (P : Program) (w : World) (h : Heap) (y : Value) : Prop := ∃ k c, y = Value.ref c ∧ IsM P w h k c
theorem m_seen {b : Addr} {Q : Bool → Shared → Prop} (kb : MemM P w s.heap (.ref b)) {ys : List Value} (hy : ∀ y ∈ ys, MemM P w s.heap y) (q : Q false s) :
    wpAny (model P w) A (searchCouldBeSeen (.ref b) ys) Q E s := by
  obtain ⟨k, b', eb, kb⟩ := kb
  cases eb
  unfold searchCouldBeSeen
  refine wpAny_bind (wpAny_forIn_list _ (fun l r z => (r.1 = none ∧ z = s) ∧ ∀ y ∈ l, MemM P w z.heap y) _ (fun v l r z hz => ?_) (fun r z hz => ?_) _ _ ⟨⟨rfl, rfl⟩, hy⟩)
  · obtain ⟨⟨h1, rfl⟩, h2⟩ := hz
    obtain ⟨k', c, rfl, kc⟩ := h2 v List.mem_cons_self
    have nxt : ∀ y ∈ l, MemM P w z.heap y := fun u hu => h2 u (List.mem_cons_of_mem _ hu)
    dsimp only
    by_cases hv : (b == c || (carriedByValue (.ref b) && carriedByValue (.ref c))) = true
    · exact wp_if_pos hv (wpAny_pure ⟨⟨rfl, rfl⟩, nxt⟩)
    · refine wp_if_neg hv (wpAny_bind (wpAny_eqIsQuiet_tuple kb ?_))
      simp only [Bool.not_true, Bool.false_eq_true, if_false]
      refine wpAny_bind (wpAny_eqIsQuiet_tuple kc ?_)
      simp only [Bool.not_true, Bool.false_eq_true, if_false]
      refine wpAny_bind (m_cls kb ?_)
      simp only [Bool.false_eq_true, if_false]
      refine wpAny_bind (m_cls kc ?_)
      simp only [Bool.false_eq_true, if_false]
      exact wpAny_pure ⟨⟨rfl, rfl⟩, nxt⟩
  · obtain ⟨r1, r2⟩ := r
    obtain ⟨⟨h1, rfl⟩, _⟩ := hz
    cases h1
    exact wpAny_pure q
/-! ### the set -/
abbrev RwM : Type := Addr × List Key
def rwM (P : Program) (w : World) (p : RwM) : Int × Value := (mh P w p.2, Value.ref p.1)
/-- all of the set but its members' own objects -/
structure SetM0 (P : Program) (w : World) (h : Heap) (a : Addr) (L : List RwM) (es : Array (Int × Value)) (ep : Nat) (t : SetTable) : Prop where
  ob : ∃ o, h.get? a = some o ∧ o.ExactSet ∧ o.data = .set es ep t
  rw_ : es.toList = L.map (rwM P w)
  tab : TabOk t (L.map fun p => mh P w p.2)
  one : (L.map (·.2)).Nodup
  ld : w.params.followText "set-order" = true ∨ t.led = true
  big : L.length * 5 < t.mask * 3
  few : L.length < 64
def AllM (P : Program) (w : World) (h : Heap) (L : List RwM) : Prop := ∀ p ∈ L, IsM P w h p.2 p.1
variable {a : Addr} {L : List RwM} {es : Array (Int × Value)} {ep : Nat} {t : SetTable}
theorem size_rw (h : es.toList = L.map (rwM P w)) : es.size = L.length := by
  rw [← Array.length_toList, h, List.length_map]
theorem fit_of {n : Nat} (h1 : t.place.size = n) (h2 : t.dummies = #[]) (h3 : n ≤ t.mask) : t.fits n = true := by
  unfold SetTable.fits SetTable.fill
  rw [h2, Bool.and_eq_true, beq_iff_eq, decide_eq_true_eq]
  exact ⟨h1, by show t.place.size + 0 ≤ t.mask; omega⟩
theorem SetM0.sz (R : SetM0 P w s.heap a L es ep t) : t.place.size = es.size := by
  rw [R.tab.sz, List.length_map, size_rw R.rw_]
theorem SetM0.fits (R : SetM0 P w s.heap a L es ep t) : t.fits es.size = true := by
  have h3 := size_rw R.rw_
  have h4 := R.big
  exact fit_of R.sz R.tab.dm (by omega)
theorem get_rw (h : es.toList = L.map (rwM P w)) (i : Nat) : es[i]? = (L[i]?).map (rwM P w) := by
  rw [← Array.getElem?_toList, h, List.getElem?_map]
theorem nth_dm (m : Nat) : ∀ (n : Nat) (p : SetTable.Probe), p.dummy = none → (nth m p n).dummy = none
  | 0, _, h => h
  | n + 1, p, h => nth_dm m n (adv m p) (by unfold adv; split <;> exact h)
theorem m_from (R : SetM0 P w s.heap a L es ep t) (M : AllM P w s.heap L) {x : Addr} {k : List Key} (kx : IsM P w s.heap k x) (hu : A.units < cLine) {g : Int} (eg : g = mh P w k) {N : Nat} (b1 : N < 10 * SetTable.turns t.mask)
    (b2 : way t.mask g N ∉ t.place.toList) (b3 : ∀ c, c < N → way t.mask g c ∈ t.place.toList) {Q : SetFound → Shared → Prop} (qi : k ∈ L.map (·.2) → Q (.there none) s) (qo : k ∉ L.map (·.2) → Q (.free (way t.mask g N) false) s) :
    ∀ (f c : Nat) (st : Option SetTable.Probe), st.getD (t.probeStart g) = stp t.mask g c → c ≤ N → N - c < f → (∀ (i : Nat) p, L[i]? = some p → p.2 = k → ∃ d, c ≤ d ∧ d < N ∧ t.place.toList[i]? = some (way t.mask g d)) →
      wpAny (model P w) A (setSearchFrom a (.ref x) g true f st) Q E s
  | 0, _, _, _, _, hf, _ => absurd hf (Nat.not_lt_zero _)
  | f + 1, c, st, e0, hc, hf, hre => by
    obtain ⟨o, ho, _, hd⟩ := R.ob
    rw [setSearchFrom_succ]
    refine wpAny_bind (wpAny_setState_of ho hd R.fits ?_)
    dsimp only
    refine wp_if_neg (by unfold SetTable.gaveWay; rw [mask_odd R.tab.mok]; decide) ?_
    have sh : ∀ q, nth t.mask (stp t.mask g c) q = stp t.mask g (c + q) := fun q => (nth_add t.mask c _ q).symm
    have sj : ∀ q, (nth t.mask (stp t.mask g c) q).j = way t.mask g (c + q) := fun q => congrArg SetTable.Probe.j (sh q)
    have hA : ∀ (i : Nat) p, L[i]? = some p → (es[i]?.map (·.1)).getD 0 = mh P w p.2 := fun i p hp => by
      rw [get_rw R.rw_, hp]
      rfl
    rcases go_spec t R.tab.ris R.tab.dm (fun i => (es[i]?.map (·.1)).getD 0) g (10 * SetTable.turns t.mask) (N - c) (stp t.mask g c) (nth_dm _ _ _ rfl) (by omega) (fun q hq => by rw [sj]; exact b3 (c + q) (by omega)) (by rw [sj, show c + (N - c) = N by omega]; exact b2) with ⟨q, i, hq, hi, hh, hno, hpr⟩ | ⟨hno, hpr⟩
    · have hp1 : t.probe (fun i => (es[i]?.map (·.1)).getD 0) g (st.getD (t.probeStart g)) = some (.candidate (way t.mask g (c + q)) i (stp t.mask g (c + (q + 1)))) := by
        rw [e0, ← sj, ← sh]
        exact hpr
      rw [hp1]
      dsimp only
      rw [sj] at hi
      have il : i < L.length := by
        have h1 := (List.getElem?_eq_some_iff.mp hi).1
        have h2 := R.tab.sz
        rw [List.length_map] at h2
        rw [Array.length_toList] at h1
        omega
      obtain ⟨p, hp⟩ : ∃ p, L[i]? = some p := ⟨_, List.getElem?_eq_getElem il⟩
      have pm : p ∈ L := List.mem_of_getElem? hp
      have ee : es[i]? = some (mh P w p.2, Value.ref p.1) := by
        rw [get_rw R.rw_, hp]
        rfl
      have more : wpAny (model P w) A (searchRest a (.ref x) g true f es t (way t.mask g (c + q)) i (stp t.mask g (c + (q + 1)))) Q E s := by
        unfold searchRest
        rw [ee]
        dsimp only
        refine wpAny_bind (wpAny_holding (wpAny_eqBool_tuple hu (M p pm) kx (wpAny_bind (wpAny_setState_of ho hd R.fits ?_))))
        dsimp only
        by_cases hk : p.2 = k
        · refine wp_if_pos (by simp [hk]) (wpAny_pure (qi (List.mem_map.mpr ⟨p, pm, hk⟩)))
        · refine wp_if_neg (by simp [hk]) ?_
          have hl : t.slot (way t.mask g (c + q)) = .live i := slot_live R.tab.ris hi
          rw [sameMem]
          dsimp only
          simp only [if_true, hl, ee]
          refine wpAny_bind (wpAny_isSame_ref_self (wpAny_bind (wpAny_pure ?_)))
          simp only [if_true]
          refine wp_if_neg (by simp [hk]) ?_
          refine m_from R M kx hu eg b1 b2 b3 qi qo f (c + (q + 1)) _ rfl (by omega) (by omega) fun j p' h0 hk' => ?_
          obtain ⟨d, a1, a2, a3⟩ := hre j p' h0 hk'
          refine ⟨d, ?_, a2, a3⟩
          have hg : (es[j]?.map (·.1)).getD 0 = g := by rw [hA j p' h0, hk', eg]
          by_cases y : d < c + q
          · exact absurd hg (hno (d - c) j (by omega) (by rw [sj, show c + (d - c) = d by omega]; exact a3))
          · by_cases y2 : d = c + q
            · rw [y2] at a3
              have h5 := slot_live R.tab.ris a3
              rw [hl] at h5
              injection h5 with h5
              rw [← h5, hp] at h0
              cases h0
              exact absurd hk' hk
            · omega
      by_cases ht : t.led = true
      · exact wp_if_neg (by simp [ht]) more
      · refine wp_if_pos (by simp [ht]) (wpAny_bind (m_seen ⟨k, x, rfl, kx⟩ (fun y hy => ?_) (wp_if_neg (by decide) more)))
        obtain ⟨u, hu1, rfl⟩ := List.mem_map.mp hy
        have hu2 : u ∈ es.toList := by
          have : u ∈ es ∧ u.1 = g := by simpa using hu1
          simpa using this.1
        rw [R.rw_] at hu2
        obtain ⟨p2, hp2, rfl⟩ := List.mem_map.mp hu2
        exact ⟨p2.2, p2.1, rfl, M p2 hp2⟩
    · have hp1 : t.probe (fun i => (es[i]?.map (·.1)).getD 0) g (st.getD (t.probeStart g)) = some (.empty (way t.mask g N) none) := by
        have e2 : way t.mask g N = (nth t.mask (stp t.mask g c) (N - c)).j := by rw [sj, show c + (N - c) = N by omega]
        rw [e0, e2]
        exact hpr
      rw [hp1]
      refine wpAny_pure (qo fun hm => ?_)
      obtain ⟨p', h0, hk'⟩ := List.mem_map.mp hm
      obtain ⟨j, hj⟩ := List.mem_iff_getElem?.mp h0
      obtain ⟨d, a1, a2, a3⟩ := hre j p' hj hk'
      exact hno (d - c) j (by omega) (by rw [sj, show c + (d - c) = d by omega]; exact a3) (by show (es[j]?.map (·.1)).getD 0 = g; rw [hA j p' hj, hk', eg])
theorem m_search (R : SetM0 P w s.heap a L es ep t) (M : AllM P w s.heap L) {x : Addr} {k : List Key} (kx : IsM P w s.heap k x) (hu : A.units < cLine) {Q : SetFound → Shared → Prop} (qi : k ∈ L.map (·.2) → Q (.there none) s)
    (qo : ∀ N, k ∉ L.map (·.2) → way t.mask (mh P w k) N ∉ t.place.toList → (∀ c, c < N → way t.mask (mh P w k) c ∈ t.place.toList) → Q (.free (way t.mask (mh P w k) N) false) s) : wpAny (model P w) A (setSearch a (.ref x) (mh P w k) true) Q E s := by
  have hb := R.big
  obtain ⟨N, b1, b2, b3⟩ := R.tab.first (by rw [List.length_map]; omega) (mh P w k)
  have lim : 10 * SetTable.turns t.mask ≤ 1420 := by
    unfold SetTable.turns
    rcases R.tab.mok with e | e | e <;> omega
  refine m_from R M kx hu rfl b1 b2 b3 qi (fun hn => qo N hn b2 b3) 100000 0 none rfl (Nat.zero_le _) (by omega) fun i p hp hk => ?_
  have il : i < t.place.toList.length := by
    have h1 := (List.getElem?_eq_some_iff.mp hp).1
    have h2 := R.tab.sz
    rw [List.length_map] at h2
    rw [Array.length_toList]
    omega
  have hj := List.getElem?_eq_getElem il
  obtain ⟨c, hc, e⟩ := R.tab.before b2 (by rw [List.getElem?_map, hp, ← hk]; rfl) hj
  exact ⟨c, Nat.zero_le _, hc, by rw [hj, e]⟩
theorem range_get (L : List RwM) : (List.range L.length).filterMap (fun i => L[i]?) = L := by
  have h : ∀ n, n ≤ L.length → (List.range n).filterMap (fun i => L[i]?) = L.take n := by
    intro n
    induction n with
    | zero => exact fun _ => rfl
    | succ n ih =>
      intro hn
      have e : L[n]? = some (L[n]'hn) := List.getElem?_eq_getElem hn
      rw [List.range_succ, List.filterMap_append, ih (by omega), List.filterMap_cons_some e, List.take_succ, e]
      rfl
  rw [h _ (Nat.le_refl _), List.take_length]
theorem order_map {order : Array Nat} (hr : es.toList = L.map (rwM P w)) (hp : order.toList.Perm (List.range L.length)) :
    ∃ L2 : List RwM, (order.filterMap (es[·]?)).toList = L2.map (rwM P w) ∧ L2.Perm L ∧ (L2.map fun p => mh P w p.2) = order.toList.map fun i => (es.map (·.1)).getD i 0 := by
  refine ⟨order.toList.filterMap fun i => L[i]?, ?_, ?_, ?_⟩
  · rw [Array.toList_filterMap, List.map_filterMap]
    congr 1
    funext i
    exact get_rw hr i
  · have h := hp.filterMap fun i => L[i]?
    rw [range_get] at h
    exact h
  · have hl : ∀ i ∈ order.toList, i < L.length := fun i hi => List.mem_range.mp (hp.mem_iff.mp hi)
    generalize order.toList = l at hl
    induction l with
    | nil => rfl
    | cons i l ih =>
      have hi := hl i (List.mem_cons_self ..)
      have e : L[i]? = some L[i] := List.getElem?_eq_getElem hi
      have e2 : es[i]? = some (rwM P w L[i]) := by rw [get_rw hr, e]; rfl
      rw [List.filterMap_cons_some e, List.map_cons, List.map_cons, ih fun j hj => hl j (List.mem_cons_of_mem _ hj)]
      congr 1
      simp [Array.getD_eq_getD_getElem?, e2, rwM]
theorem tab_pl {t : SetTable} {hs : List Int} (T : TabOk t hs) (b : Bool) : TabOk { t with plain := b } hs := ⟨T.ris, T.dm, T.sz, T.mok, T.bd, T.reach⟩
theorem m_relay {o : Obj} (ho : s.heap.get? a = some o) (hex : o.ExactSet) (hd : o.data = .set es ep t) (hr : es.toList = L.map (rwM P w)) (hz : t.place.size = es.size) (hdm : t.dummies = #[]) (hm : es.size ≤ t.mask)
    (nd : (L.map (·.2)).Nodup) (ld : w.params.followText "set-order" = true ∨ t.led = true) (few : L.length < 64) {n M : Nat} (h1 : SetTable.sizeAbove n - 1 = M) (hM : MaskOk M) (h2 : SetTable.sizeAbove n ≤ 128) (h3 : L.length * 5 < M * 3) {Q : Unit → Shared → Prop}
    (q : ∀ h' L' es' ep' t', Heap.SameBut a s.heap h' → SetM0 P w h' a L' es' ep' t' → L'.Perm L → Q () { s with heap := h' }) : wpAny (model P w) A (setRelay a n) Q E s := by
  have sl := size_rw hr
  obtain ⟨t', order, e, hp, T, em, el, _, _⟩ := relaid_ok t (hs := es.map (·.1)) (wanted := n) h1 hM (by rw [Array.size_map, sl]; omega)
  rw [Array.size_map, sl] at hp
  obtain ⟨L2, r1, r2, r3⟩ := order_map hr hp
  rw [← r3] at T
  have s2 : (order.filterMap (es[·]?)).size = es.size := by rw [size_rw r1, r2.length_eq, sl]
  rw [setRelay_eq]
  refine wpAny_bind (wpAny_setState_of ho hd (fit_of hz hdm hm) ?_)
  dsimp only
  refine wp_if_neg (by rw [sizeLine_eq]; omega) ?_
  rw [e]
  dsimp only
  refine wpAny_bind (wp_if_neg (by rw [s2]; simp) (wpAny_pure ?_))
  dsimp only
  refine wpAny_storeSet_of ho hd ?_ (by rw [s2, sl, sizeLine_eq]; omega)
  refine q _ L2 _ (ep + 1) t' (Heap.SameBut.update ..) ⟨⟨_, _root_.L2.store_at ho hd, ⟨hex.1, hex.2.1, hex.2.2⟩, rfl⟩, r1, T, (r2.map (·.2)).nodup_iff.mpr nd, by rw [el]; exact ld, by rw [r2.length_eq, em]; exact h3, by rw [r2.length_eq]; exact few⟩ r2
theorem ins_perm {α : Type} (l : List α) (p : Nat) (x : α) : (l.take p ++ x :: l.drop p).Perm (x :: l) := by
  refine List.perm_middle.trans ?_
  rw [List.take_append_drop]
theorem m_add (R : SetM0 P w s.heap a L es ep t) (M : AllM P w s.heap L) {x : Addr} {k : List Key} (kx : IsM P w s.heap k x) (hu : A.units < cLine) (hl : L.length + 1 < 64) {Q : Bool → Shared → Prop}
    (q : ∀ b h' L' es' ep' t', Heap.SameBut a s.heap h' → SetM0 P w h' a L' es' ep' t' → ((k ∈ L.map (·.2) ∧ L' = L) ∨ (k ∉ L.map (·.2) ∧ L'.Perm ((x, k) :: L))) → Q b { s with heap := h' }) : wpAny (model P w) A (setAddHashed a (.ref x) (mh P w k)) Q E s := by
  obtain ⟨o, ho, hex, hd⟩ := R.ob
  have sl := size_rw R.rw_
  have big := R.big
  unfold setAddHashed
  refine wpAny_holding ?_
  rw [show (100000 : Nat) = 99999 + 1 from rfl, setAddHashedIn_succ]
  refine wpAny_bind (wpAny_setState_of ho hd R.fits ?_)
  dsimp only
  refine wp_if_neg (by simp [byScan, Value.scannable]) ?_
  refine wpAny_bind (m_search R M kx hu (fun hm => ?_) fun N hm b2 b3 => ?_)
  · dsimp only
    exact wpAny_pure (q false s.heap L es ep t (Heap.SameBut.refl a s.heap) R (.inl ⟨hm, rfl⟩))
  dsimp only
  refine wpAny_bind (wpAny_setState_of ho hd R.fits ?_)
  dsimp only
  obtain ⟨c1, c2, c3, c4, c5, c6, c7, c8, c9⟩ := R.tab.put b2 b3
  rw [List.length_map] at c2 c9
  generalize way t.mask (mh P w k) N = j at *
  generalize hpt : t.put j = pt at *
  obtain ⟨t1, p⟩ := pt
  dsimp only at c1 c3 c4 c5 c9 ⊢
  subst c1
  generalize hp : SetTable.below t.place j = p at *
  have in1 : (SetTable.insertAt es p (mh P w k, Value.ref x)).toList = (L.take p ++ (x, k) :: L.drop p).map (rwM P w) := by
    rw [SetTable.toList_insertAt, R.rw_, List.map_append, List.map_cons, List.map_take, List.map_drop]
    rfl
  have in2 : (L.map fun p => mh P w p.2).take p ++ mh P w k :: (L.map fun p => mh P w p.2).drop p = (L.take p ++ (x, k) :: L.drop p).map fun p => mh P w p.2 := by
    rw [List.map_append, List.map_cons, List.map_take, List.map_drop]
  rw [in2] at c3
  have pm := ins_perm L p (x, k)
  have nd1 : ((L.take p ++ (x, k) :: L.drop p).map (·.2)).Nodup := (pm.map (·.2)).nodup_iff.mpr (List.nodup_cons.mpr ⟨hm, R.one⟩)
  have ln := pm.length_eq
  generalize L.take p ++ (x, k) :: L.drop p = L1 at *
  have e1 := size_rw in1
  generalize SetTable.insertAt es p (mh P w k, Value.ref x) = es1 at *
  rw [List.length_cons] at ln
  have tail : ∀ t2 : SetTable, TabOk t2 (L1.map fun p => mh P w p.2) → t2.mask = t.mask → t2.led = t.led → t2.fill = L.length + 1 →
      wpAny (model P w) A (do
        storeSet a es1 t2
        if (!false && t2.tooFull) = true then do
            setRelay a (SetTable.grown (es.size + 1))
            pure true
          else pure true) Q E s := by
    intro t2 T em el ef
    refine wpAny_bind (wpAny_storeSet_of ho hd ?_ (by rw [e1, ln, sizeLine_eq]; omega))
    have sb : Heap.SameBut a s.heap (s.heap.update a (Obj.putSet es1 t2)) := Heap.SameBut.update ..
    have o1 := _root_.L2.store_at (es' := es1) (t' := t2) ho hd
    generalize s.heap.update a (Obj.putSet es1 t2) = h1 at sb o1 ⊢
    have x1 : Obj.ExactSet { o with data := .set es1 (ep + 1) t2 } := ⟨hex.1, hex.2.1, hex.2.2⟩
    have l1 : w.params.followText "set-order" = true ∨ t2.led = true := by rw [el]; exact R.ld
    have z1 : t2.place.size = es1.size := by rw [T.sz, List.length_map, e1]
    by_cases hf : t2.tooFull = true
    · refine wp_if_pos (by simp [hf]) (wpAny_bind ?_)
      have full : (L.length + 1) * 5 ≥ t.mask * 3 := by
        unfold SetTable.tooFull at hf
        rw [decide_eq_true_eq, ef, em] at hf
        exact hf
      rw [sl]
      have hm8 : es1.size ≤ t2.mask := by
        rw [e1, ln, em]
        rcases R.tab.mok with e | e | e <;> rw [e] at big full ⊢ <;> omega
      have go : ∀ M, SetTable.sizeAbove (SetTable.grown (L.length + 1)) - 1 = M → MaskOk M → SetTable.sizeAbove (SetTable.grown (L.length + 1)) ≤ 128 → L1.length * 5 < M * 3 →
          wpAny (model P w) A (setRelay a (SetTable.grown (L.length + 1))) (fun _ z => wpAny (model P w) A (pure true) Q E z) E { s with heap := h1 } := fun M a1 a2 a3 a4 =>
        m_relay (s := { s with heap := h1 }) o1 x1 rfl in1 z1 T.dm hm8 nd1 l1 (by omega) a1 a2 a3 a4 fun h2 L2 es2 ep2 t2 sb2 R2 pm2 => wpAny_pure (q true h2 L2 es2 ep2 t2 (sb.trans sb2) R2 (.inr ⟨hm, pm2.trans pm⟩))
      rcases R.tab.mok with e | e | e
      · have e4 : L.length = 4 := by rw [e] at big full; omega
        exact go 31 (by rw [e4, size_20]) (.inr (.inl rfl)) (by rw [e4, size_20]; decide) (by omega)
      · have e4 : L.length = 18 := by rw [e] at big full; omega
        exact go 127 (by rw [e4, size_76]) (.inr (.inr rfl)) (by rw [e4, size_76]; decide) (by omega)
      · rw [e] at full
        omega
    · refine wp_if_neg (by simp [hf]) (wpAny_pure (q true h1 L1 es1 (ep + 1) t2 sb ⟨⟨_, o1, x1, rfl⟩, in1, T, nd1, l1, ?_, by omega⟩ (.inr ⟨hm, pm⟩)))
      unfold SetTable.tooFull at hf
      rw [decide_eq_true_eq, ef] at hf
      rw [ln]
      omega
  by_cases hp : t1.plain = true
  · refine wp_if_pos hp (wpAny_bind (m_hsh kx fun b => ?_))
    cases b
    · exact tail _ (tab_pl c3 false) c4 c5 c9
    · exact tail _ c3 c4 c5 c9
  · exact wp_if_neg hp (wpAny_bind (wpAny_pure (tail _ c3 c4 c5 c9)))
end
/-! ### the set comprehension, whatever set.add does to the new set -/
abbrev setO0 (w : World) : Obj := { cls := .type "set", dict := none, data := .set #[] 0 (.fresh 0 0 (!w.params.followText "set-order")) }
section
variable {X : Cx}
/-- {elt for target in iter if ..}: O D a new set at D, r what set.add does -/
def tSg (O : Addr → HO) (r : V → List V → Hp → VK → Prop) (wi : TI) (g : TG) (tt : TT) (te : TE) (vs : List Nat) : TE := fun σ H Q => wi σ H fun J H1 => ∀ D, H1 D = none → ∃ W : Nat → Nat → Hp → Prop, (∃ m, W 0 m (upd H1 D (O D))) ∧ ∀ i m H, W i m H →
  (J.stop i H ∧ Q (.ref D) H) ∨ (J.go i H ∧ ∃ Nx : Hp → Prop, (∀ H', Nx H' → ∃ m', m' < m ∧ W (i + 1) m' H') ∧ ∀ x H', J.yld i H x H' → g x (wipe σ vs) H' fun σ2 H2 => wipe σ2 vs = wipe σ vs ∧ tt σ2 H2 fun b H3 => if b = true then te σ2 H3 fun y H4 => r (.ref D) [y] H4 fun _ H5 => Nx H5 else Nx H3)
/-- the context of the block whose scope's locals are at C -/
abbrev bx (X : Cx) (sc : Scope) (s : Shared) (H : Hp) (C : Addr) (cl : List (PySem.Str × Addr)) (fp : List Addr) : Cx := X.blk s H sc (compEnvC sc cl C X.env) fp
theorem pe_sg {elt tg it0 : Expr} {ifs : List Expr} {sc : Scope} {own : List (PySem.Str × Nat)} {pos : Pos} {wi : TI} {g : TG} {tt : TT} {te : TE} {O : Addr → HO} {r : V → List V → Hp → VK → Prop}
    (hO : ∀ (h : Heap) (H : Hp), ObjOk X.prog X.w H (h.push (setO0 X.w)) h.objs.size (O h.objs.size)) (hr : ∀ s H C cl fp, MtR (bx X sc s H C cl fp) "set.add" r) (hc : X.calm = true) (hN : X.N.Nodup) (hi : PI X tg it0 wi) (ok : BlkOk X.N X.env.scope sc own)
    (hg : ∀ s H C cl fp, PG (bx X sc s H C cl fp) tg g) (ht : ∀ s H C cl fp, PTs (bx X sc s H C cl fp) ifs tt) (he : ∀ s H C cl fp, PE (bx X sc s H C cl fp) elt te) (hs : ∀ x, foldedSetIterable it0 X.env x = pure x := by intro _; rfl) :
    PE X (.SetComp elt [⟨tg, it0, ifs, 0⟩] sc pos) (tSg O r wi g tt te (own.map (·.2))) := by
  refine ⟨fun pins s σ H Q I h => ?_⟩
  rw [PpSet.eval_SetComp]
  have frees : ∀ y ∈ sc.names, y.2 = .free → ∃ c, X.env.cells.lookup y.1 = some c := fun y hy e => (ok.free y hy e).elim (fun k => I.ok.has _ (.inl k)) fun k => I.ok.has _ (.inr k)
  refine wpAny_comprehension_free (use := none) rfl hs (closure_ok frees) ok.kind (fun y hy e => by rw [ok.uniq y hy, e]) (thn (hi.run pins s σ H _ I h) fun xv s1 h1 => thn h1 fun iv s2 h2 => ?_)
  obtain ⟨it, fp, tn, J, H2, rfl, I2, T, u2, f2, q⟩ := h2
  refine PpSet.newSet_ok (newEnv_comp ?_)
  generalize eD : s2.heap.objs.size = D
  obtain ⟨W, ⟨m0, w0⟩, turn⟩ := q D (I2.hok.fresh (Nat.le_of_eq eD))
  obtain ⟨s3, es3⟩ : ∃ s3 : Shared, s3 = { s2 with heap := s2.heap.push (setO0 X.w) } := ⟨_, rfl⟩
  obtain ⟨H3, eH3⟩ : ∃ H3, H3 = upd H2 D (O D) := ⟨_, rfl⟩
  have hp3 : s3.heap = s2.heap.push (setO0 X.w) := by rw [es3]
  have I3 : Inv X pins σ H3 s3 := by
    rw [es3, eH3]
    refine I2.laid (t' := s2.toks) (fun b o e => Heap.get?_push_of_some _ e) (Nat.le_of_eq eD) ?_
    rw [← eD]
    exact hO _ _
  have old3 : ∀ b o, s2.heap.get? b = some o → s3.heap.get? b = some o := fun b o e => by rw [hp3]; exact Heap.get?_push_of_some _ e
  have f3 : ∀ b ∈ fp, FpOk X pins H3 b ∧ b < s3.heap.objs.size := fun b hb => by
    obtain ⟨o, e, _⟩ := T.obj _ _ u2 b hb
    have lt : b < s2.heap.objs.size := Heap.lt_size e
    refine ⟨⟨?_, (f2 b hb).2⟩, by rw [hp3, Heap.size_push]; exact Nat.lt_succ_of_lt lt⟩
    rw [eH3, upd_ne (by rw [← eD]; exact Nat.ne_of_lt lt)]
    exact (f2 b hb).1
  have I4 := block_start I3 ok hN f3
  rw [← eH3] at w0
  rw [← es3]
  show codeAny _ _ (.compStart (.SetComp elt [⟨tg, it0, ifs, 0⟩] sc pos) 0 (.ref it) (.ref D) (compEnvC sc (cellsFrom (s3.heap.objs.size + 1) sc.names (cloFrom X.env.cells sc.names [])) s3.heap.objs.size X.env))
    (compPost (model X.prog X.w) X.A X.xe none (EP X pins σ Q) (.ref D) s3.heap.objs.size) { s3 with heap := pushCells (s3.heap.push { cls := .type "dict", data := .dict #[] }) sc.names }
  have pg := hg s3 H3 s3.heap.objs.size (cellsFrom (s3.heap.objs.size + 1) sc.names (cloFrom X.env.cells sc.names [])) fp
  have pt := ht s3 H3 s3.heap.objs.size (cellsFrom (s3.heap.objs.size + 1) sc.names (cloFrom X.env.cells sc.names [])) fp
  have pe := he s3 H3 s3.heap.objs.size (cellsFrom (s3.heap.objs.size + 1) sc.names (cloFrom X.env.cells sc.names [])) fp
  have pr := hr s3 H3 s3.heap.objs.size (cellsFrom (s3.heap.objs.size + 1) sc.names (cloFrom X.env.cells sc.names [])) fp
  generalize ece : compEnvC sc (cellsFrom (s3.heap.objs.size + 1) sc.names (cloFrom X.env.cells sc.names [])) s3.heap.objs.size X.env = ce at I4 ⊢
  have lce : ce.locals = s3.heap.objs.size := by rw [← ece]; rfl
  obtain ⟨s4, es4⟩ : ∃ s4 : Shared, s4 = { s3 with heap := pushCells (s3.heap.push { cls := .type "dict", data := .dict #[] }) sc.names } := ⟨_, rfl⟩
  rw [← es4] at I4 ⊢
  have u3 : tn 0 s3.heap := T.keep _ _ _ u2 fun b _ o e => old3 b o e
  have u4 : tn 0 s4.heap := T.keep _ _ _ u3 fun b _ o e => by rw [es4]; exact pushCells_keeps _ _ _ _ (Heap.get?_push_of_some _ e)
  unfold bx at pg pt pe pr
  rw [ece] at pg pt pe pr
  have out : ∀ {σ' : L2.St} {H' : Hp} {z : Shared}, Inv (X.blk s3 H3 sc ce fp) [] σ' H' z → (∀ b ∈ fp, H' b = none) → ∀ b ∈ fp, FpOk (X.blk s3 H3 sc ce fp) [] H' b := fun Iz hn b hb =>
    ⟨hn b hb, (Iz.ok.exf b hb).1, Iz.ok.exfs b hb, .inl hb, fun x c e => (Iz.ok.exf b hb).2 x c e, fun p hp => by simp [show p ∈ ([] : List (Addr × Obj)) ++ [] ↔ False by simp] at hp⟩
  have lp : codeAny (model X.prog X.w) X.A (.compLoop (.SetComp elt [⟨tg, it0, ifs, 0⟩] sc pos) 0 (.ref it) (.ref D) ce) (compPost (model X.prog X.w) X.A X.xe none (EP X pins σ Q) (.ref D) s3.heap.objs.size) s4 := by
    refine PpSet.compLoopS_any (fun n z => ∃ i H', Inv (X.blk s3 H3 sc ce fp) [] (wipe σ (own.map (·.2))) H' z ∧ tn i z.heap ∧ (∀ b ∈ fp, H' b = none) ∧ W i n H') (fun n z hz => ?_) m0 ⟨0, H3, I4, u4, fun b hb => (f3 b hb).1.1, w0⟩
    obtain ⟨i, Hz, Iz, uz, nz, wz⟩ := hz
    rcases turn i n Hz wz with ⟨st, qe⟩ | ⟨go, Nx, hNx, step⟩
    · refine thnF (T.done (X.blk s3 H3 sc ce fp) rfl rfl rfl hc i [] z _ Hz (fun _ _ => False) Iz (out Iz nz) uz st) fun rr z2 ⟨er, I6⟩ => ?_
      subst er
      have I7 : Inv X pins σ Hz z2 := I3.call' (ch := fp) I6.os I6.base I6.hok I6.bare fun b hb => ⟨(f3 b hb).1.2.2.2.1, (f3 b hb).1.2.1, (f3 b hb).1.2.2.2.2.1, (f3 b hb).1.2.2.2.2.2⟩
      have nC : Hz s3.heap.objs.size = none := by
        have h0 : Hz ce.locals = none := I6.free
        rw [lce] at h0
        exact h0
      obtain ⟨mm, hm, _⟩ := I6.loc
      have hm : z2.heap.Ns ce.locals mm := hm
      rw [lce] at hm
      obtain ⟨g0, g1, g2, g3, g4, g5⟩ := I3.fpOk (Nat.le_refl _) nC
      exact ⟨mm, hm, fun h'' sb => ⟨.ref D, Hz, I7.turned (t' := z2.toks) (fun b o hb e => (sb.2 b hb).trans e) g0 g1 g3 g4 g5, rfl, qe⟩⟩
    · refine thnF (T.item (X.blk s3 H3 sc ce fp) rfl rfl rfl hc i [] z _ Hz (fun _ _ => False) Iz (out Iz nz) uz go) fun rr z6 ⟨u, er, h6⟩ => ?_
      subst er
      refine thnF h6 fun _ z7 ⟨x, H7, I7, r7, y7, u7, n7⟩ => ?_
      refine thnF (pg.run _ z7 _ H7 x u _ (I7.pinned (out I7 n7) (T.obj _ _ u7)) r7 (step x H7 y7)) fun _ z8 ⟨σ8, H8, I8, ew, q8⟩ => ?_
      refine thnF (pt.run _ z8 σ8 H8 _ I8 q8) fun b z9 ⟨H9, I9, q9⟩ => ?_
      have fin : ∀ {z' : Shared} {H' : Hp}, Inv (X.blk s3 H3 sc ce fp) ([] ++ pinsAt fp z7.heap) σ8 H' z' → Nx H' → ∃ m, m < n ∧ ∃ i H', Inv (X.blk s3 H3 sc ce fp) [] (wipe σ (own.map (·.2))) H' z' ∧ tn i z'.heap ∧ (∀ b ∈ fp, H' b = none) ∧ W i m H' := fun {z' H'} I' nx => by
        obtain ⟨m', lt, w'⟩ := hNx H' nx
        have pin : ∀ b ∈ fp, ∀ o, z7.heap.get? b = some o → z'.heap.get? b = some o ∧ H' b = none := fun b hb o e =>
          ⟨(I'.pin (b, o) (List.mem_append_right _ (List.mem_append_right _ (mem_pinsAt hb e)))).1, (I'.pin (b, o) (List.mem_append_right _ (List.mem_append_right _ (mem_pinsAt hb e)))).2.1⟩
        refine ⟨m', lt, i + 1, H', (I'.unpinned (pins := [])).weak (by rw [← ew, wipe_length]) (fun j v e => ?_), T.keep _ _ _ u7 fun b hb o e => (pin b hb o e).1, fun b hb => ?_, w'⟩
        · rw [← ew] at e
          exact (wipe_some e).1
        · obtain ⟨o, e, _⟩ := T.obj _ _ u7 b hb
          exact (pin b hb o e).2
      cases b with
      | false =>
        simp only [Bool.false_eq_true, if_false] at q9 ⊢
        exact fin I9 q9
      | true =>
        simp only [if_true] at q9 ⊢
        refine thnF (pe.run _ z9 σ8 H9 _ I9 q9) fun v z10 ⟨y, H10, I10, r10, q10⟩ => ?_
        exact thnF (pr _ z10 σ8 H10 (.ref D) [y] (.ref D) [v] _ I10 rfl (.cons r10 .nil) q10) fun _ z11 ⟨_, H11, I11, _, nx⟩ => fin I11 nx
  exact PpSet.codeAny_compStart_set lp (T.self X.A 0 _ _ _ u4 lp)
end
/-! ### sorted of a set whose members are data without lists -/
open PySem.W (EachIs AllAlike Sortable dataLe dataLt alike keyToks sort_pairwise sortLe_total list_sort_data)
theorem perm_back {α β : Type} (f : β → α) {l l' : List α} (h : l.Perm l') : ∀ B : List β, l' = B.map f → ∃ B' : List β, l = B'.map f ∧ B'.Perm B := by
  induction h with
  | nil => exact fun B e => ⟨[], rfl, by rw [List.map_eq_nil_iff.mp e.symm]⟩
  | cons x _ ih =>
    intro B e
    cases B with
    | nil => cases e
    | cons b B =>
      rw [List.map_cons] at e
      injection e with e1 e2
      obtain ⟨B', e3, p⟩ := ih B e2
      exact ⟨b :: B', by rw [List.map_cons, ← e3, e1], p.cons b⟩
  | swap x y l =>
    intro B e
    cases B with
    | nil => cases e
    | cons b B =>
      cases B with
      | nil => cases e
      | cons c B =>
        rw [List.map_cons, List.map_cons] at e
        injection e with e1 e2
        injection e2 with e2 e3
        exact ⟨c :: b :: B, by rw [List.map_cons, List.map_cons, ← e3, e1, e2], .swap b c B⟩
  | trans _ _ i1 i2 =>
    intro B e
    obtain ⟨B1, e1, p1⟩ := i2 B e
    obtain ⟨B2, e2, p2⟩ := i1 B1 e1
    exact ⟨B2, e2, p2.trans p1⟩
section
variable {P : Program} {w : World} {A : Around} {E : Value → Shared → Prop} {s : Shared} {a : Addr} {es : Array (Int × Value)} {ep : Nat} {t : SetTable}
theorem each_eq {β : Type} {f : β → Value} : ∀ {vs : List Value} {B : List β}, EachIs (fun v b => v = f b) vs B → vs = B.map f
  | _, _, .nil => rfl
  | _, _, .cons e r => by rw [List.map_cons, ← each_eq r, e]
theorem each_of {β : Type} {R : Value → β → Prop} (f : β → Value) : ∀ B : List β, (∀ b ∈ B, R (f b) b) → EachIs R (B.map f) B
  | [], _ => .nil
  | b :: B, h => .cons (h b (List.mem_cons_self ..)) (each_of f B fun c hc => h c (List.mem_cons_of_mem _ hc))
theorem sorted_gen {β : Type} (f : β → Value) (enc : β → PyData) (B : List β) {Q : Value → Shared → Prop} (ha : SetAt s.heap a es ep t) (hf : t.fits es.size = true) (hz : es.size < scanBound) (ris : Ris t.place.toList) (hl : w.params.followText "set-order" = true ∨ t.led = true) (hh : A.handled = none) (hu : A.units + 64 < cLine)
    (hv : es.toList.map (·.2) = B.map f) (rd : ∀ b ∈ B, ∀ h' : Heap, (∀ c o, s.heap.get? c = some o → h'.get? c = some o) → Reads h' (f b) (enc b) []) (hal : AllAlike (B.map enc)) (hk : Sortable (B.map enc)) (hd : ∀ b ∈ B, (enc b).depth ≤ 8)
    (q : ∀ s' p (out : Array Value) (c : Nat) (B' : List β), (∀ b o, s.heap.get? b = some o → s'.heap.get? b = some o) → s'.gens = s.gens → s'.os = s.os → s.heap.objs.size ≤ p → s'.heap.get? p = some (seqObj "list" out c) → out.toList = B'.map f → B'.Perm B →
      B'.Pairwise (fun x y => dataLe false enc x y = true) → Q (.ref p) s') : wpAny (model P w) A (call (.builtin "sorted") [.ref a]) Q E s := by
  refine Calls.call_function_entry kind_sorted plain_sorted entry_sorted (args_sorted1 _) ?_
  unfold Builtin.«sorted»
  refine wpAny_bind (m := checkCount "sorted" 1 1 _) (wpAny_pure ?_)
  refine wpAny_bind (collect_set (A := A.in1) hh ha hf hz ris hl fun s1 vs k1 z1 g1 o1 pm => ?_)
  rw [hv] at pm
  obtain ⟨B1, rfl, p1⟩ := perm_back f pm B rfl
  have n1 : B1.length ≤ sizeLine := by
    have h1 := congrArg List.length hv
    rw [List.length_map, List.length_map, Array.length_toList] at h1
    rw [p1.length_eq, ← h1]
    exact fits_of_scanBound hz
  refine wpAny_bind (wpAny_newList ?_ (by rw [List.length_map]; exact n1))
  generalize hh2 : s1.heap.push { cls := .type "list", data := .seq (B1.map f).toArray } = h2
  have hoL : h2.get? s1.heap.objs.size = some (seqObj "list" (B1.map f).toArray 0) := by rw [← hh2]; exact Heap.get?_push_size _ rfl
  have k2 : ∀ c o, s.heap.get? c = some o → h2.get? c = some o := fun c o e => by rw [← hh2]; exact Heap.get?_push_of_some _ (k1 c o e)
  have z2 : h2.objs.size = s1.heap.objs.size + 1 := by rw [← hh2]; exact size_push' _ _
  have rd2 : EachIs (fun v b => ∃ as, Reads h2 v (enc b) as ∧ s1.heap.objs.size ∉ as) (B1.map f) B1 := each_of f B1 fun b hb => ⟨[], rd b (p1.mem_iff.mp hb) h2 k2, List.not_mem_nil⟩
  have pe : (B1.map enc).Perm (B.map enc) := p1.map enc
  refine wpAny_bind (wpAny_holding (list_sort_data (s := { s1 with heap := h2 }) (R := fun v b => v = f b) hoL (each_of f B1 fun _ _ => rfl) rd2 (fun d hd1 d' hd2 => hal d (pe.mem_iff.mp hd1) d' (pe.mem_iff.mp hd2))
    (hk.elim (fun z => .inl fun d hd1 => z d (pe.mem_iff.mp hd1)) fun z => .inr fun d hd1 => z d (pe.mem_iff.mp hd1)) n1 (fun b hb => ?_) fun out _ ho => ?_))
  · have h8 := hd b (p1.mem_iff.mp hb)
    have hA : A.in1.units ≤ A.units + 1 := by first | exact Nat.le_refl _ | exact Nat.le_succ _ | simp
    omega
  · obtain ⟨c, hc⟩ := sortedHeap_at (vs := B1.map f) (out := out.toArray) hoL
    have pw := sort_pairwise (sortLe_total (listOrd itemOrd) false fun b => keyToks (enc b)) B1
    refine wpAny_pure ⟨_, rfl, q _ s1.heap.objs.size out.toArray c (B1.mergeSort (dataLe false enc)) (fun b u e => ?_) g1 o1 z1 hc (by rw [each_eq ho]) ((List.mergeSort_perm _ _).trans p1) pw⟩
    have lt := Heap.lt_size (k1 b u e)
    show (sortedHeap h2 s1.heap.objs.size (B1.map f) out.toArray).get? b = some u
    rw [sortedHeap_old (Nat.ne_of_lt lt) (by rw [z2]; exact Nat.lt_succ_of_lt lt)]
    exact k2 b u e
end
end Gk
set_option Elab.async false
set_option autoImplicit false
set_option linter.all false
set_option maxRecDepth 100000
set_option maxHeartbeats 4000000
namespace Gk
open PySem PySem.Spec PyProof.Rows L2
open PySem.W (EachIs AllAlike Sortable dataLe dataLt alike keyToks sort_pairwise sortLe_total list_sort_data)
/-! ### set of a text -/
section
open PySem.Froz (SD TxOk addTx runD sObj finU itObj itEnd sing endHeap two tupObj stopObj)
variable {P : Program} {w : World} {A : Around} {E : Value → Shared → Prop} {s : Shared}
theorem add_ris {D : SD} {h : Int} {v : Value} (r : Ris D.2.2.place.toList) : Ris (addTx h v D).2.2.place.toList ∧ (addTx h v D).2.2.led = D.2.2.led := by
  have r1 := layNew_ris D.2.2 D.1 h v r
  have l1 := layNew_led D.2.2 D.1 h v
  unfold addTx PySem.Froz.tailTx
  have e1 : Ris (if (layNew D.2.2 D.1 h v).2.1.plain = true then { (layNew D.2.2 D.1 h v).2.1 with plain := false } else (layNew D.2.2 D.1 h v).2.1).place.toList ∧ (if (layNew D.2.2 D.1 h v).2.1.plain = true then { (layNew D.2.2 D.1 h v).2.1 with plain := false } else (layNew D.2.2 D.1 h v).2.1).led = D.2.2.led := by
    split
    · exact ⟨r1, l1⟩
    · exact ⟨r1, l1⟩
  generalize (if (layNew D.2.2 D.1 h v).2.1.plain = true then { (layNew D.2.2 D.1 h v).2.1 with plain := false } else (layNew D.2.2 D.1 h v).2.1) = t2 at e1 ⊢
  split
  · exact ⟨relayAll_ris t2 _ _, (relayAll_led t2 _ _).trans e1.2⟩
  · exact e1
theorem run_ris : ∀ (cs : List Nat) (tk : Tok) (D : SD), Ris D.2.2.place.toList → Ris (runD w cs tk D).2.2.place.toList ∧ (runD w cs tk D).2.2.led = D.2.2.led
  | [], _, _, r => ⟨r, rfl⟩
  | c :: cs, tk, D, r => by
    obtain ⟨r1, l1⟩ := add_ris (h := hashStr w (sing c)) (v := .str (sing c) tk) r
    obtain ⟨r2, l2⟩ := run_ris cs (tk + 2) _ r1
    exact ⟨r2, l2.trans l1⟩
theorem run_ok : ∀ (cs : List Nat) (tk : Tok) (D : SD) (l : List Str), TxOk P w D l → TxOk P w (runD w cs tk D) ((cs.map sing).reverse ++ l)
  | [], _, _, _, F => F
  | c :: cs, tk, D, l, F => by
    rw [List.map_cons, List.reverse_cons, List.append_assoc]
    exact run_ok cs (tk + 2) _ (sing c :: l) (PySem.Froz.add_ok tk F)
/-- set(v): a new set, then what v gives -/
theorem call_set_by {v : Value} {Po : Heap → Prop} {Q : Value → Shared → Prop}
    (up : ∀ (A' : Around) (E' : Value → Shared → Prop) (Q' : Unit → Shared → Prop), A' = A.in1.in1 → (∀ (h' : Heap) (tk : Nat), Po h' → (∀ b o, s.heap.get? b = some o → h'.get? b = some o) → Q' () { s with heap := h', toks := tk }) →
      wpAny (model P w) A' (Builtin.Frozenset.updateFrom "set.__init__" s.heap.objs.size v) Q' E' { s with heap := s.heap.push (setO0 w) })
    (q : ∀ (h' : Heap) (tk : Nat), Po h' → (∀ b o, s.heap.get? b = some o → h'.get? b = some o) → Q (.ref s.heap.objs.size) { s with heap := h', toks := tk }) : wpAny (model P w) A (call (.type "set") [v]) Q E s := by
  obtain ⟨c, tl, hmro⟩ := F.called_set.mro
  have hmade := F.called_set.made
  have hsub := F.called_set.sub
  refine wpAny_call (codeAny_of_tree ?_)
  show wpAny _ _ (callAny (.type "set") _) _ _ _
  refine wpAny_pure ⟨Code.quiet_builtin _ (by decide +kernel), codeAny_builtin F.entry_type_call ?_⟩
  rw [Around.under_plain (weight_type_call_type "set" [v] []) rfl]
  have h1 := F.called_set.notType
  have h2 := F.called_set.canCreate
  have hct := F.typeCall_set_1 v
  repeat (any_goals (first | assumption | wp_step))
  refine codeAny_mono (code_set_led1 v (E := E) (Q₁ := fun ob s1 => ob = .ref s.heap.objs.size ∧ s1 = { s with heap := s.heap.push (setO0 w) }) ⟨rfl, rfl⟩) fun r s1 hr => ?_
  cases r with
  | error e => exact hr
  | ok fl =>
    cases fl with
    | ret ob =>
      obtain ⟨rfl, rfl⟩ := hr
      have hS : (s.heap.push (setO0 w)).get? s.heap.objs.size = some (setO0 w) := Heap.get?_push_size _ rfl
      have hT : Shared.TypeIs { s with heap := s.heap.push (setO0 w) } (.ref s.heap.objs.size) "set" := ⟨_, hS, rfl⟩
      have hli := F.called_set.init.lookup
      have hbi := F.called_set.init.bind (.ref s.heap.objs.size)
      repeat (any_goals (first | assumption | wp_step))
      refine codeAny_mono (codeAny_call_builtin (R := wants (fun r z => r = .none ∧ ∃ (h' : Heap) (tk : Nat), z = { s with heap := h', toks := tk } ∧ Po h' ∧ ∀ b o, s.heap.get? b = some o → h'.get? b = some o) E) F.called_set.init.plain F.entry_set_init (check_set_init_1 hT ?_)) fun r2 s2 hr2 => ?_
      · unfold Builtin.«set.__init__» noKeywords
        generalize hU : Builtin.Frozenset.updateFrom = U
        wp_walk
        subst hU
        refine up _ _ _ rfl fun h' tk po k => ?_
        show wpAny _ _ (ret Value.none) _ _ _
        exact wpAny_pure ⟨rfl, h', tk, rfl, po, k⟩
      · cases r2 with
        | error e => exact hr2
        | ok fl2 =>
          cases fl2 with
          | ret r =>
            obtain ⟨rfl, h', tk, rfl, po, k⟩ := hr2
            repeat (any_goals (first | assumption | wp_step))
            exact q _ _ po k
          | _ => exact hr2.elim
    | _ => exact hr.elim
/-- at a: a set of the texts l -/
def PoX (P : Program) (w : World) (a : Addr) (l : List Str) (h : Heap) : Prop := ∃ D : SD, h.get? a = some (sObj "set" D) ∧ TxOk P w D l ∧ Ris D.2.2.place.toList ∧ (w.params.followText "set-order" = true ∨ D.2.2.led = true)
theorem set_text {x : Str} {u : Tok} (hx : x.cps.all (· < 128) = true) (nd : x.cps.toList.Nodup) (hl : x.cps.toList.length + 1 < scanBound) (hh : A.handled = none) {Q : Value → Shared → Prop}
    (q : ∀ (h' : Heap) (tk : Nat), PoX P w s.heap.objs.size (x.cps.toList.map sing).reverse h' → (∀ b o, s.heap.get? b = some o → h'.get? b = some o) → Q (.ref s.heap.objs.size) { s with heap := h', toks := tk }) : wpAny (model P w) A (call (.type "set") [.str x u]) Q E s := by
  refine call_set_by (fun A' E' Q' eA up => ?_) q
  have hh' : A'.in1.handled = none := by rw [eA]; simp [hh]
  have hS : (s.heap.push (setO0 w)).get? s.heap.objs.size = some (setO0 w) := Heap.get?_push_size _ rfl
  unfold Builtin.Frozenset.updateFrom
  refine wpAny_bind (Fz.anySet (wp_if_neg (by decide) (wpAny_bind (wpAny_typeOf (PySem.typeIs_str _ _ _) (wp_if_neg (by decide) (wpAny_bind (wpAny_pyIter_ascii hx ?_)))))))
  refine wpAny_bind (wpAny_runValue ?_)
  have z1 : (s.heap.push (setO0 w)).objs.size = s.heap.objs.size + 1 := Heap.size_push ..
  have ga : ((s.heap.push (setO0 w)).push (itObj x u 0)).get? s.heap.objs.size = some (sObj "set" (#[], 0, .fresh 0 0 (!w.params.followText "set-order"))) := Heap.get?_push_of_some _ hS
  have gi : ((s.heap.push (setO0 w)).push (itObj x u 0)).get? (s.heap.push (setO0 w)).objs.size = some (itObj x u 0) := Heap.get?_push_size _ rfl
  have hne : s.heap.objs.size ≠ (s.heap.push (setO0 w)).objs.size := by rw [z1]; exact Nat.ne_of_lt (Nat.lt_succ_self _)
  refine PySem.Froz.code_update (P := P) (w := w) (u := u) (T := "set") hne (by first | exact hh' | simp [eA, hh]) x.cps.toList 0 _ [] _ rfl ga gi (TxOk.nil rfl) (fun _ _ => List.not_mem_nil) nd (by simpa using Nat.lt_of_succ_lt hl) ?_
  obtain ⟨h2, eh2⟩ : ∃ h2, h2 = (s.heap.push (setO0 w)).push (itObj x u 0) := ⟨_, rfl⟩
  obtain ⟨D, eD⟩ : ∃ D : SD, D = runD w x.cps.toList s.toks (#[], 0, .fresh 0 0 (!w.params.followText "set-order")) := ⟨_, rfl⟩
  show wpAny _ _ (pure ()) _ _ (finU { s with heap := (s.heap.push (setO0 w)).push (itObj x u 0) } s.heap.objs.size "set" (s.heap.push (setO0 w)).objs.size (runD w x.cps.toList s.toks (#[], 0, .fresh 0 0 (!w.params.followText "set-order"))) (0 + x.cps.toList.length) x.cps.toList.length)
  rw [← eD]
  rw [← eh2] at ga gi ⊢
  refine wpAny_pure ?_
  have old2 : ∀ b o, s.heap.get? b = some o → h2.get? b = some o := fun b o e => by rw [eh2]; exact Heap.get?_push_of_some _ (Heap.get?_push_of_some _ e)
  have rr : Ris D.2.2.place.toList ∧ D.2.2.led = (!w.params.followText "set-order") := by
    rw [eD]
    exact run_ris x.cps.toList s.toks _ List.Pairwise.nil
  have tx : TxOk P w D (x.cps.toList.map sing).reverse := by
    have h := run_ok (P := P) (w := w) x.cps.toList s.toks (#[], 0, .fresh 0 0 (!w.params.followText "set-order")) [] (TxOk.nil rfl)
    rw [List.append_nil, ← eD] at h
    exact h
  have two1 : (two h2 s.heap.objs.size (sObj "set" D) (s.heap.push (setO0 w)).objs.size (itEnd (0 + x.cps.toList.length))).get? s.heap.objs.size = some (sObj "set" D) :=
    PySem.Heap.get?_update_of_ne _ (Ne.symm hne) (PySem.Froz.get_upd _ ga rfl)
  have two2 : ∀ b o, s.heap.get? b = some o → (two h2 s.heap.objs.size (sObj "set" D) (s.heap.push (setO0 w)).objs.size (itEnd (0 + x.cps.toList.length))).get? b = some o := fun b o e => by
    have lt := Heap.lt_size e
    exact PySem.Heap.get?_update_of_ne _ (by rw [z1]; exact Nat.ne_of_gt (Nat.lt_succ_of_lt lt)) (PySem.Heap.get?_update_of_ne _ (Nat.ne_of_gt lt) (old2 b o e))
  refine up _ _ ⟨D, Heap.get?_push_of_some _ (Heap.get?_push_of_some _ two1), tx, rr.1, ?_⟩ fun b o e => Heap.get?_push_of_some _ (Heap.get?_push_of_some _ (two2 b o e))
  rw [rr.2]
  cases w.params.followText "set-order"
  · exact .inr rfl
  · exact .inl rfl
/-- set of a list of ints -/
theorem set_ints {l : Addr} {its : Array Value} (ns : List Int) (hh : A.handled = none) (hl : s.heap.IsList l its) (hi : IntsAre its.toList ns) (hb : ns.length + 1 < scanBound) {Q : Value → Shared → Prop}
    (q : ∀ (h' : Heap) (tk : Nat), (∃ c, c ≤ ns.length ∧ SetR w h' s.heap.objs.size (fun j => decide (j ∈ ns)) c) → (∀ b o, s.heap.get? b = some o → h'.get? b = some o) → Q (.ref s.heap.objs.size) { s with heap := h', toks := tk }) : wpAny (model P w) A (call (.type "set") [.ref l]) Q E s := by
  have sz : its.size = ns.length := by rw [← Array.length_toList, IntsAre.length hi]
  refine call_set_by (fun A' E' Q' eA up => ?_) q
  have hS : (s.heap.push (setO0 w)).get? s.heap.objs.size = some (setO0 w) := Heap.get?_push_size _ rfl
  have z1 : (s.heap.push (setO0 w)).objs.size = s.heap.objs.size + 1 := Heap.size_push ..
  obtain ⟨ol, ho, hc, n, hd⟩ := hl
  have lt : l < s.heap.objs.size := Heap.lt_size ho
  have ho' : (s.heap.push (setO0 w)).get? l = some ol := Heap.get?_push_of_some _ ho
  have hl' : (s.heap.push (setO0 w)).IsList l its := ⟨ol, ho', hc, n, hd⟩
  have hT : Shared.TypeIs { s with heap := s.heap.push (setO0 w) } (.ref l) "list" := ⟨ol, ho', hc⟩
  unfold Builtin.Frozenset.updateFrom
  refine wpAny_bind ?_
  unfold Builtin.Frozenset.isAnySet orM
  refine wpAny_bind (wpAny_isInstance hT F.sub_list_set ?_)
  show wpAny _ _ (isInstance (.ref l) (.type "frozenset")) _ _ _
  refine wpAny_isInstance hT F.sub_list_frozenset ?_
  refine wp_if_neg (by decide) (wpAny_bind (wpAny_typeOf hT ?_))
  refine wp_if_neg (by decide) ?_
  refine wpAny_bind (wpAny_pyIter_list hl' ?_)
  refine wpAny_bind (wpAny_runValue ?_)
  have n1 : l ≠ (s.heap.push (setO0 w)).objs.size := by rw [z1]; exact Nat.ne_of_lt (Nat.lt_succ_of_lt lt)
  have n2 : s.heap.objs.size ∉ [(s.heap.push (setO0 w)).objs.size, l] := by
    rw [z1]
    intro h
    rcases List.mem_cons.mp h with h | h
    · exact absurd h (Nat.ne_of_lt (Nat.lt_succ_self _))
    · exact absurd (List.mem_singleton.mp h) (Nat.ne_of_gt lt)
  have hv : ∀ (i : Nat) (v : Value), its[i]? = some v → ∃ k t, ns[i]? = some k ∧ v = .int k t := fun i v hv => by
    have hi2 : i < ns.length := by rw [← sz]; exact (Array.getElem?_eq_some_iff.mp hv).1
    obtain ⟨t, e⟩ := PyProof.Rows.IntsAre.int_at hi i v (by rw [Array.getElem?_toList]; exact hv)
    refine ⟨ns[i], t, List.getElem?_eq_getElem hi2, e.trans ?_⟩
    rw [List.getD_eq_getElem?_getD, List.getElem?_eq_getElem hi2]
    rfl
  have hh3 : A'.in1.handled = none := by rw [eA]; simp [hh]
  refine set_update_ints ((Walks.list hh3 _ l n1 its).toS) s.heap.objs.size n2 ns sz hb hv (its.size - 0) 0 _ (by omega) (Nat.zero_le _) ⟨⟨_, Heap.get?_push_size _ rfl, rfl, rfl⟩, (hl'.push _)⟩ ?h0 fun s' c hm hc' hS' => ?h1
  case h0 =>
    refine ⟨0, Nat.le_refl 0, setR_new_at (w := w) ?_⟩
    exact Heap.get?_push_of_some _ hS
  obtain ⟨h', g2, d', tk', os'⟩ := s'
  obtain rfl : g2 = s.gens := hm.gens
  obtain rfl : d' = s.drawn := hm.drawn
  obtain rfl : os' = s.os := hm.os
  show wpAny _ _ (pure ()) _ _ _
  refine wpAny_pure (up h' tk' ⟨c, by rw [← sz]; exact hc', hS'⟩ fun b o e => ?_)
  have lb : b < s.heap.objs.size := Heap.lt_size e
  refine hm.heap b o (fun h => ?_) (Heap.get?_push_of_some _ (Heap.get?_push_of_some _ e))
  rcases List.mem_cons.mp h with h | h
  · exact absurd h (Nat.ne_of_lt lb)
  · have h2 := List.mem_singleton.mp h
    rw [z1] at h2
    exact absurd h2 (Nat.ne_of_lt (Nat.lt_succ_of_lt lb))
end
end Gk
set_option Elab.async false
set_option autoImplicit false
set_option linter.all false
set_option maxRecDepth 100000
set_option maxHeartbeats 4000000
/-! # Sets as things of the layer: rules and steps -/
namespace Gk
open PySem PySem.Spec PyProof.Rows L2
open PySem.W (EachIs AllAlike Sortable dataLe dataLt alike keyToks)
section
variable {P : Program} {w : World} {H : Hp} {h : Heap} {a : Addr}
def SetXO (P : Program) (w : World) (a : Addr) (l : List Str) : HO := .ext (PoX P w a l)
theorem setXO_new {l : List Str} (R : PoX P w a l h) : ObjOk P w H h a (SetXO P w a l) := by
  have ⟨D, ho, r⟩ := R
  exact ⟨R, ⟨_, ho⟩, fun h1 h2 p k => by
    obtain ⟨D, ho, r⟩ := p
    exact ⟨D, k _ ho, r⟩⟩
def PoM (P : Program) (w : World) (a : Addr) (L : List RwM) (h : Heap) : Prop := ∃ es ep t, SetM0 P w h a L es ep t
def SetMO (P : Program) (w : World) (a : Addr) (L : List RwM) : HO := .ext (PoM P w a L)
theorem SetM0.keep {L : List RwM} {es : Array (Int × Value)} {ep : Nat} {t : SetTable} {h2 : Heap} (R : SetM0 P w h a L es ep t) (k : ∀ o, h.get? a = some o → h2.get? a = some o) : SetM0 P w h2 a L es ep t := by
  obtain ⟨⟨o, ho, r⟩, q1, q2, q3, q4, q5, q6⟩ := R
  exact ⟨⟨o, k o ho, r⟩, q1, q2, q3, q4, q5, q6⟩
theorem setMO_new {L : List RwM} (R : PoM P w a L h) : ObjOk P w H h a (SetMO P w a L) := by
  have ⟨es, ep, t, R'⟩ := R
  obtain ⟨o, ho, _⟩ := R'.ob
  exact ⟨R, ⟨o, ho⟩, fun h1 h2 p k => by
    obtain ⟨es, ep, t, p⟩ := p
    exact ⟨es, ep, t, p.keep k⟩⟩
theorem setM0_fresh (h : Heap) : PoM P w h.objs.size [] (h.push (setO0 w)) := ⟨#[], 0, .fresh 0 0 (!w.params.followText "set-order"), ⟨_, Heap.get?_push_size _ rfl, ⟨rfl, rfl, rfl⟩, rfl⟩, rfl, ⟨List.Pairwise.nil, rfl, rfl, .inl rfl, fun x hx => (by cases hx), fun i h j hi => (by simp at hi)⟩, List.nodup_nil, by
  cases w.params.followText "set-order"
  · exact .inr rfl
  · exact .inl rfl, by show 0 * 5 < 7 * 3; decide, by show 0 < 64; decide⟩
end
/-! ### what is asked of a callee: sets made, added to, sorted -/
/-- set(text), its signs all unlike -/
def rSetX (P : Program) (w : World) : List V → Hp → VK → Prop := fun xs H Q => ∃ z : Str, xs = [.str z] ∧ Pl z ∧ (TL.tl z).Nodup ∧ z.length ≤ 1000 ∧ ∀ p H', H p = none → Same H H' → H' p = some (SetXO P w p ((TL.tl z).map sg).reverse) → Q (.ref p) H'
/-- set(list of ints) -/
def rSetI (K : PySem.W.Frag) (w : World) : List V → Hp → VK → Prop := fun xs H Q => ∃ (l : Addr) (ns : List Int), xs = [.ref l] ∧ SqL K H l (ns.map V.int) ∧ ns.length ≤ 1000 ∧ ∀ p c H', H p = none → c ≤ ns.length → Same H H' → H' p = some (SetO w p (fun j => decide (j ∈ ns)) c) → Q (.ref p) H'
def rSetA (K : PySem.W.Frag) (P : Program) (w : World) : List V → Hp → VK → Prop := fun xs H Q => rSetX P w xs H Q ∨ rSetI K w xs H Q
def rMAdd (K : PySem.W.Frag) (P : Program) (w : World) : V → List V → Hp → VK → Prop := fun x xs H Q => ∃ (a : Addr) (L : List RwM) (y : Addr) (k : List Key), x = .ref a ∧ xs = [.ref y] ∧ H a = some (SetMO P w a L) ∧ (∀ p ∈ L, SqT K H p.1 (p.2.map kV)) ∧ SqT K H y (k.map kV) ∧ L.length + 1 < 64 ∧
  ∀ L', ((k ∈ L.map (·.2) ∧ L' = L) ∨ (k ∉ L.map (·.2) ∧ L'.Perm ((y, k) :: L))) → Q .non (upd H a (SetMO P w a L'))
def kD : Key → PyData
  | .inl i => .int i
  | .inr z => .str z
def encM (p : RwM) : PyData := .tuple (p.2.map kD)
def rSortX (P : Program) (w : World) : List V → Hp → VK → Prop := fun vs H Q => ∃ (a : Addr) (l : List Str), vs = [.ref a] ∧ H a = some (SetXO P w a l) ∧ l.Nodup ∧ l.length ≤ 1000 ∧
  ∀ (ys : List Str) p H', ys.Perm l → ys.Pairwise (fun x y => x.cps.toList ≤ y.cps.toList) → H p = none → Same H H' → H' p = some (.lst (ys.map V.str)) → Q (.ref p) H'
def rSortM (K : PySem.W.Frag) (P : Program) (w : World) : List V → Hp → VK → Prop := fun vs H Q => ∃ (a : Addr) (L : List RwM), vs = [.ref a] ∧ H a = some (SetMO P w a L) ∧ (∀ p ∈ L, SqT K H p.1 (p.2.map kV)) ∧ AllAlike (L.map encM) ∧ (∀ p ∈ L, p.2 ≠ []) ∧
  ∀ (L' : List RwM) p H', L'.Perm L → (L.map (·.2)).Nodup → L'.Pairwise (fun x y => dataLe false encM x y = true) → H p = none → Same H H' → H' p = some (.lst (L'.map fun q => V.ref q.1)) → Q (.ref p) H'
def rSortedA (K : PySem.W.Frag) (P : Program) (w : World) : List V → Hp → VK → Prop := fun vs H Q => (rSortedS K vs H Q ∨ rSortX P w vs H Q) ∨ (rSortedSet w vs H Q ∨ rSortM K P w vs H Q)
section
variable {X : Cx}
theorem all128 {z : Str} (h : Pl z) : z.cps.all (· < 128) = true := by
  rw [Array.all_eq_true']
  intro c hc
  exact decide_eq_true (h c (by simpa using hc))
theorem cr_setX (hc : X.calm = true) : CallR X (.type "set") (rSetX X.prog X.w) := by
  intro pins s σ H xs us Q I r h
  obtain ⟨z, rfl, pz, nd, lz, q⟩ := h
  cases r with
  | cons r1 r2 =>
    cases r2
    obtain ⟨u, rfl⟩ := r1
    have hn : H s.heap.objs.size = none := I.hok.fresh (Nat.le_refl _)
    refine set_text (P := X.prog) (w := X.w) (all128 pz) nd (by have : z.length = z.cps.toList.length := by simp [Str.length]
                                                                unfold scanBound; omega) (I.ok.hd hc) fun h' tk po k => ?_
    exact ⟨.ref _, upd H s.heap.objs.size (SetXO X.prog X.w s.heap.objs.size _), I.laid (t' := tk) k (Nat.le_refl _) (setXO_new po), rfl, q _ _ hn (sm_new hn) upd_same⟩
theorem cr_setI (hc : X.calm = true) : CallR X (.type "set") (rSetI X.K X.w) := by
  intro pins s σ H xs us Q I r h
  obtain ⟨l, ns, rfl, hl, lz, q⟩ := h
  rw [Vals.ref1 r]
  obtain ⟨its, rv, pl, hz⟩ := I.list hl
  have hn : H s.heap.objs.size = none := I.hok.fresh (Nat.le_refl _)
  refine set_ints (P := X.prog) (w := X.w) ns (I.ok.hd hc) pl.isList (by simpa using rv.ints) (by unfold scanBound; omega) fun h' tk ⟨c, hc', R⟩ k => ?_
  exact ⟨.ref _, upd H s.heap.objs.size (SetO X.w s.heap.objs.size _ c), I.laid (t' := tk) k (Nat.le_refl _) (setO_new R), rfl, q _ c _ hn hc' (sm_new hn) upd_same⟩
theorem cr_setA (K : PySem.W.Frag) (P : Program) (w : World) (hc : X.calm = true := by rfl) (hK : X.K = K := by rfl) (hP : X.prog = P := by rfl) (hw : X.w = w := by rfl) : CallR X (.type "set") (rSetA K P w) := by
  subst hK
  subst hP
  subst hw
  intro pins s σ H xs us Q I r h
  rcases h with h | h
  · exact cr_setX hc pins s σ H xs us Q I r h
  · exact cr_setI hc pins s σ H xs us Q I r h
theorem mem_of_vals {P : Program} {w : World} : ∀ {k : List Key} {us : List Value}, Vals (k.map kV) us → ItemsAre (mixKind P w) k us
  | [], _, .nil => .nil
  | .inl i :: k, _, .cons r t => by
    obtain ⟨tk, rfl⟩ := r
    exact .cons (by show keyIs (.inl i) (.int i tk) = true; simp [keyIs, Value.isInt]) (mem_of_vals t)
  | .inr z :: k, _, .cons r t => by
    obtain ⟨tk, rfl⟩ := r
    exact .cons (by show keyIs (.inr z) (.str z tk) = true; simp [keyIs, Value.isStrOf]) (mem_of_vals t)
theorem isM_of {pins : List (Addr × Obj)} {σ : L2.St} {H : Hp} {s : Shared} {b : Addr} {k : List Key} (I : Inv X pins σ H s) (h : SqT X.K H b (k.map kV)) : IsM X.prog X.w s.heap k b := by
  obtain ⟨its, r, ⟨o, ho, hc, n, hd⟩, _⟩ := I.tuple h
  exact ⟨o, its.toArray, n, ho, hc, hd, by simpa using mem_of_vals r⟩
theorem mt_madd (hu : X.A.units + 64 < cLine) : MtR X "set.add" (rMAdd X.K X.prog X.w) := by
  intro pins s σ H x xs v us Q I rx rxs h
  obtain ⟨a, L, y, k, rfl, rfl, ha, hL, hy, few, q⟩ := h
  cases rx
  rw [Vals.ref1 rxs]
  obtain ⟨es, ep, t, R⟩ : PoM X.prog X.w a L s.heap := (I.hok a _ ha).1
  obtain ⟨o, ho, hex, hd⟩ := R.ob
  refine wpAny_call_entry F.slot_set_add ⟨o, ho, hex.1⟩ F.entry_set_add ?_ (F.args_set_add_2 _ _)
  unfold Builtin.«set.add» Builtin.Frozenset.oneOther
  simp only [List.isEmpty_nil, bind_assoc]
  unfold Builtin.Frozenset.addrOf setAdd
  refine wpAny_bind (wpAny_pure ?_)
  try dsimp only
  refine wpAny_bind (wpAny_pure ?_)
  try dsimp only
  refine wpAny_bind (wpAny_holding (wpAny_bind ?_))
  have kx := isM_of I hy
  have hM : AllM X.prog X.w s.heap L := fun p hp => isM_of I (hL p hp)
  have ux : X.A.in1.units ≤ X.A.units + 1 := by first | exact Nat.le_refl _ | exact Nat.le_succ _ | simp
  refine wpAny_pyHash_tuple (by omega) kx ?_
  refine m_add (s := { s with toks := s.toks + (k.length + 1) }) R hM kx (by omega) few fun b h' L' es' ep' t' sb R' cs => ?_
  show wpAny _ _ (ret Value.none) _ _ _
  have he : ∃ u, h'.get? a = some u := by
    obtain ⟨u, hu, _⟩ := R'.ob
    exact ⟨u, hu⟩
  exact wpAny_pure ⟨_, rfl, .non, _, I.write (e := a) (t' := s.toks + (k.length + 1)) (by rw [ha]; trivial) (.inl rfl) (fun b u hb e => (sb.2 b hb).trans e) he (setMO_new ⟨es', ep', t', R'⟩), rfl, q L' cs⟩
theorem vals_refs : ∀ L : List RwM, Vals (L.map fun q => V.ref q.1) (L.map fun q => Value.ref q.1)
  | [] => .nil
  | _ :: L => .cons rfl (vals_refs L)
theorem vals_toks : ∀ B : List (Str × Tok), Vals (B.map fun q => V.str q.1) (B.map fun q => Value.str q.1 q.2)
  | [] => .nil
  | b :: B => .cons ⟨b.2, rfl⟩ (vals_toks B)
/-- a new list was laid, nothing else -/
theorem laid_list {pins : List (Addr × Obj)} {σ : L2.St} {H : Hp} {s s' : Shared} {p : Addr} {out : Array Value} {c : Nat} {ys : List V} {Q : VK} (I : Inv X pins σ H s) (k : ∀ b o, s.heap.get? b = some o → s'.heap.get? b = some o) (g : s'.gens = s.gens) (o : s'.os = s.os)
    (hp : s.heap.objs.size ≤ p) (hg : s'.heap.get? p = some (seqObj "list" out c)) (hv : Vals ys out.toList) (hl : ys.length ≤ 100000) (q : ∀ H', H p = none → Same H H' → H' p = some (.lst ys) → Q (.ref p) H') : EP X pins σ Q (.ref p) s' := by
  have hn : H p = none := I.hok.fresh hp
  have J : Inv X pins σ (upd H p (.lst ys)) { s with heap := s'.heap, gens := s'.gens, drawn := s'.drawn, toks := s'.toks } := I.call (ch := []) (Un.laid k hp hn) (I.hok.laid k hp ⟨sz_of hl, out.toList, c, hv, hg⟩) (by rw [g]; exact I.bare) (fun _ z => nomatch z)
  have e : s' = { s with heap := s'.heap, gens := s'.gens, drawn := s'.drawn, toks := s'.toks } := by
    cases s'
    cases s
    cases o
    rfl
  rw [e]
  exact ⟨.ref p, _, J, rfl, q _ hn (sm_new hn) upd_same⟩
theorem is_str_shape {P : Program} {w : World} {es : List (Int × Value)} (h : ElemsOf (strKind P w) es) : ∃ B : List (Str × Tok), es.map (·.2) = B.map fun q => Value.str q.1 q.2 := by
  induction es with
  | nil => exact ⟨[], rfl⟩
  | cons e es ih =>
    obtain ⟨B, hB⟩ := ih fun x hx => h x (List.mem_cons_of_mem _ hx)
    obtain ⟨⟨k, hk, _⟩, _⟩ := h e (List.mem_cons_self ..)
    obtain ⟨t, ht⟩ := Value.isStrOf_shape (show Value.isStrOf k e.2 = true from hk)
    exact ⟨(k, t) :: B, by rw [List.map_cons, List.map_cons, hB, ht]⟩
theorem perm_of_sub {α : Type} [DecidableEq α] : ∀ (l m : List α), l.Nodup → (∀ x ∈ l, x ∈ m) → m.length ≤ l.length → l.Perm m
  | [], m, _, _, hl => by
    rw [List.eq_nil_of_length_eq_zero (Nat.le_zero.mp hl)]
  | x :: l, m, nd, hs, hl => by
    have hx := hs x (List.mem_cons_self ..)
    have pm : m.Perm (x :: m.erase x) := List.perm_cons_erase hx
    obtain ⟨n1, n2⟩ := List.nodup_cons.mp nd
    have ll := pm.length_eq
    rw [List.length_cons] at ll hl
    refine ((perm_of_sub l (m.erase x) n2 (fun y hy => ?_) (by omega)).cons x).trans pm.symm
    exact (List.mem_erase_of_ne (fun e => n1 (by rw [← e]; exact hy))).mpr (hs y (List.mem_cons_of_mem _ hy))
theorem cr_sortX (hc : X.calm = true) (hu : X.A.units + 64 < cLine) : CallR X (.builtin "sorted") (rSortX X.prog X.w) := by
  intro pins s σ H vs us Q I r h
  obtain ⟨a, l, rfl, ha, nd, ll, q⟩ := h
  rw [Vals.ref1 r]
  obtain ⟨D, ho, tx, ri, ld⟩ : PoX X.prog X.w a l s.heap := (I.hok a _ ha).1
  obtain ⟨es, ep, t⟩ := D
  obtain ⟨B, hB⟩ := is_str_shape tx.el
  have lB : B.length = l.length := by
    have h1 := congrArg List.length hB
    rw [List.length_map, List.length_map, Array.length_toList] at h1
    rw [← h1]
    exact tx.sz
  have pB : (B.map (·.1)).Perm l := by
    refine (perm_of_sub l (B.map (·.1)) nd (fun x hx => ?_) (by rw [List.length_map]; omega)).symm
    obtain ⟨e, he, hk⟩ := (tx.mem x).mp hx
    have h2 : e.2 ∈ B.map fun q => Value.str q.1 q.2 := by
      rw [← hB]
      exact List.mem_map.mpr ⟨e, he, rfl⟩
    obtain ⟨b, hb, eb⟩ := List.mem_map.mp h2
    obtain ⟨t, ht⟩ := Value.isStrOf_shape (show Value.isStrOf x e.2 = true from hk)
    rw [ht] at eb
    injection eb with e1 e2
    exact List.mem_map.mpr ⟨b, hb, e1⟩
  have sz : es.size = l.length := tx.sz
  refine sorted_gen (fun q : Str × Tok => Value.str q.1 q.2) (fun q => .str q.1) B ⟨_, ho, rfl, rfl⟩ tx.fit (by rw [sz]; unfold scanBound; omega) ri ld (I.ok.hd hc) hu hB (fun b _ _ _ => .str b.1 b.2) (AllAlike.of fun _ _ => rfl) (Sortable.others fun _ => ⟨(by intro z; cases z), (by intro _ z; cases z)⟩)
    (fun _ _ => by simp [PyData.depth]) fun s' p out c B' k g o hp hg hv pm pw => ?_
  refine laid_list I k g o hp hg (ys := (B'.map (·.1)).map V.str) (by rw [hv, List.map_map]; exact vals_toks B') (by rw [List.length_map, List.length_map, pm.length_eq, lB]; omega) fun H' hn sp ep => q (B'.map (·.1)) p H' ((pm.map _).trans pB) ?_ hn sp ep
  rw [List.pairwise_map]
  refine pw.imp fun {x y} hxy => ?_
  rw [PySem.W.dataLe_str] at hxy
  exact of_decide_eq_true hxy
theorem reads_keys {h : Heap} : ∀ {k : List Key} {vs : List Value}, ItemsAre (mixKind X.prog X.w) k vs → ReadsAll h vs (k.map kD) []
  | _, _, .nil => .nil
  | _, _, .cons (k := k) q r => by
    have t := reads_keys (h := h) r
    rcases keyIs_shape q with ⟨i, u, rfl, rfl⟩ | ⟨z, u, rfl, rfl⟩
    · exact .cons (as := []) (.int i u) t
    · exact .cons (as := []) (.str z u) t
theorem dep_keys : ∀ k : List Key, PyData.depthAll (k.map kD) = 0
  | [] => by simp [PyData.depthAll]
  | .inl i :: k => by simp [PyData.depthAll, kD, PyData.depth, dep_keys k]
  | .inr z :: k => by simp [PyData.depthAll, kD, PyData.depth, dep_keys k]
theorem cr_sortM (hc : X.calm = true) (hu : X.A.units + 64 < cLine) : CallR X (.builtin "sorted") (rSortM X.K X.prog X.w) := by
  intro pins s σ H vs us Q I r h
  obtain ⟨a, L, rfl, ha, hL, al, ne, q⟩ := h
  rw [Vals.ref1 r]
  obtain ⟨es, ep, t, R⟩ : PoM X.prog X.w a L s.heap := (I.hok a _ ha).1
  obtain ⟨o, ho, hex, hd⟩ := R.ob
  have sz := size_rw R.rw_
  have few := R.few
  refine sorted_gen (fun q : RwM => Value.ref q.1) encM L ⟨o, ho, hex.1, hd⟩ R.fits (by unfold scanBound; omega) R.tab.ris R.ld (I.ok.hd hc) hu (by rw [R.rw_, List.map_map]; rfl) (fun b hb h' kk => ?_) al (.inl fun d hd => ?_) (fun b _ => ?_) fun s' p out c L' k g o hp hg hv pm pw => ?_
  · obtain ⟨u, its, n, hu1, hc1, hd1, hi⟩ := isM_of I (hL b hb)
    exact .tuple (kk _ _ hu1) hc1 hd1 (reads_keys hi)
  · obtain ⟨b, hb, rfl⟩ := List.mem_map.mp hd
    have h1 := ne b hb
    unfold encM
    cases hk : b.2 with
    | nil => exact absurd hk h1
    | cons x r => exact ⟨_, _, rfl⟩
  · unfold encM
    simp only [PyData.depth, dep_keys]
    decide
  · exact laid_list I k g o hp hg (ys := L'.map fun q => V.ref q.1) (by rw [hv]; exact vals_refs L') (by rw [List.length_map, pm.length_eq]; omega) fun H' hn sp ep => q L' p H' pm R.one pw hn sp ep
theorem cr_sortedA (K : PySem.W.Frag) (P : Program) (w : World) (hu : X.A.units + 64 < cLine) (hc : X.calm = true := by rfl) (hK : X.K = K := by rfl) (hP : X.prog = P := by rfl) (hw : X.w = w := by rfl) : CallR X (.builtin "sorted") (rSortedA K P w) := by
  subst hK
  subst hP
  subst hw
  intro pins s σ H xs us Q I r h
  rcases h with (h | h) | (h | h)
  · exact cr_sortedS pins s σ H xs us Q I r h
  · exact cr_sortX hc hu pins s σ H xs us Q I r h
  · exact cr_sortedSet hc pins s σ H xs us Q I r h
  · exact cr_sortM hc hu pins s σ H xs us Q I r h
end
/-! ### set comprehensions -/
def nSg (O : Addr → HO) (r : V → List V → Hp → VK → Prop) (J : It) (g : TG) (tt : TT) (te : TE) (vs : List Nat) (σ : L2.St) (H1 : Hp) (Q : VK) : Prop := ∀ D, H1 D = none → ∃ W : Nat → Nat → Hp → Prop, (∃ m, W 0 m (upd H1 D (O D))) ∧ ∀ i m H, W i m H →
  (J.stop i H ∧ Q (.ref D) H) ∨ (J.go i H ∧ ∃ Nx : Hp → Prop, (∀ H', Nx H' → ∃ m', m' < m ∧ W (i + 1) m' H') ∧ ∀ x H', J.yld i H x H' → g x (wipe σ vs) H' fun σ2 H2 => wipe σ2 vs = wipe σ vs ∧ tt σ2 H2 fun b H3 => if b = true then te σ2 H3 fun y H4 => r (.ref D) [y] H4 fun _ H5 => Nx H5 else Nx H3)
section
variable {σ : L2.St} {H : Hp} {Q : VK} {te : TE} {tt : TT} {wi : TI} {g : TG} {n : Nat} {vs : List Nat} {J : It} {G : Hp → Prop} {Y : Nat → Hp → V → Hp → Prop} {O : Addr → HO} {r : V → List V → Hp → VK → Prop} {K : PySem.W.Frag} {P : Program} {w : World}
theorem k_sg (h : wi σ H fun J H1 => nSg O r J g tt te vs σ H1 Q) : tSg O r wi g tt te vs σ H Q := h
theorem sg_it (wk : Walk J n G Y) {D : Addr} (Pv : Nat → Hp → Prop) (h0 : Pv 0 (upd H D (O D))) (hG : ∀ i H', i ≤ n → Pv i H' → G H')
    (hs : ∀ i x H1 H2, i < n → Pv i H1 → Y i H1 x H2 → g x (wipe σ vs) H2 fun σ2 H3 => wipe σ2 vs = wipe σ vs ∧ tt σ2 H3 fun b H4 => nIte b (te σ2 H4 fun y H5 => r (.ref D) [y] H5 fun _ H6 => Pv (i + 1) H6) (Pv (i + 1) H4))
    (hd : ∀ H', Pv n H' → Q (.ref D) H') : ∃ W : Nat → Nat → Hp → Prop, (∃ m, W 0 m (upd H D (O D))) ∧ ∀ i m H, W i m H →
      (J.stop i H ∧ Q (.ref D) H) ∨ (J.go i H ∧ ∃ Nx : Hp → Prop, (∀ H', Nx H' → ∃ m', m' < m ∧ W (i + 1) m' H') ∧ ∀ x H', J.yld i H x H' → g x (wipe σ vs) H' fun σ2 H2 => wipe σ2 vs = wipe σ vs ∧ tt σ2 H2 fun b H3 => if b = true then te σ2 H3 fun y H4 => r (.ref D) [y] H4 fun _ H5 => Nx H5 else Nx H3) := by
  refine ⟨fun i m H' => m = n - i ∧ i ≤ n ∧ Pv i H', ⟨n, by simp, Nat.zero_le _, h0⟩, fun i m H' hW => ?_⟩
  obtain ⟨rfl, hi, p⟩ := hW
  have gg := hG i H' hi p
  by_cases lt : i < n
  · exact .inr ⟨wk.goes i H' lt gg, Pv (i + 1), fun H2 p2 => ⟨n - (i + 1), by omega, rfl, lt, p2⟩, fun x H2 y => hs i x H' H2 lt p (wk.yields i H' x H2 lt gg y)⟩
  · obtain rfl : i = n := by omega
    exact .inl ⟨wk.stops H' gg, hd H' p⟩
/-- one of tuples of ints and texts -/
theorem k_nSgM (wk : Walk J n G Y) (hG : ∀ H', Same H H' → G H') (hn : n ≤ 62) (Pv : Nat → List (List Key) → Prop) (h0 : Pv 0 [])
    (hs : ∀ (i : Nat) (x : V) (H1 H2 : Hp) (ms : List (List Key)) (Kp : VK) (Ks : Hp → Prop), i < n → Same H H1 → Pv i ms → Y i H1 x H2 → (∀ k T H5, Same H1 H5 → SqT K H5 T (k.map kV) → Pv (i + 1) (ms ++ [k]) → Kp (.ref T) H5) → (∀ H5, Same H1 H5 → Pv (i + 1) ms → Ks H5) →
      g x (wipe σ vs) H2 fun σ2 H3 => wipe σ2 vs = wipe σ vs ∧ tt σ2 H3 fun b H4 => nIte b (te σ2 H4 Kp) (Ks H4))
    (hd : ∀ (p : Addr) (H' : Hp) (ms : List (List Key)) (L : List RwM), H p = none → Same H H' → H' p = some (SetMO P w p L) → (∀ q ∈ L, SqT K H' q.1 (q.2.map kV)) → (∀ k, k ∈ L.map (·.2) ↔ k ∈ ms) → L.length ≤ n → Pv n ms → Q (.ref p) H') : nSg (fun D => SetMO P w D []) (rMAdd K P w) J g tt te vs σ H Q := by
  intro p hp
  refine sg_it (O := fun D => SetMO P w D []) wk (fun i H' => ∃ (ms : List (List Key)) (L : List RwM), L.length ≤ i ∧ Same H H' ∧ H' p = some (SetMO P w p L) ∧ (∀ q ∈ L, SqT K H' q.1 (q.2.map kV)) ∧ (∀ k, k ∈ L.map (·.2) ↔ k ∈ ms) ∧ Pv i ms) ⟨[], [], Nat.le_refl _, sm_new hp, upd_same, fun q hq => (nomatch hq), fun k => Iff.rfl, h0⟩ (fun i H' _ h => ?_) (fun i x H1 H2 hi h hy => ?_) fun H' h => ?_
  · obtain ⟨ms, L, _, s1, _⟩ := h
    exact hG H' s1
  · obtain ⟨ms, L, hl, s1, e1, t1, m1, q1⟩ := h
    refine hs i x H1 H2 ms _ _ hi s1 q1 hy (fun k T H5 s5 hT q5 => ⟨p, L, T, k, rfl, rfl, s5 p _ e1, fun q hq => sm_t s5 (t1 q hq), hT, by omega, fun L' cs => ?_⟩) fun H5 s5 q5 => ⟨ms, L, by omega, s1.trans s5, s5 p _ e1, fun q hq => sm_t s5 (t1 q hq), m1, q5⟩
    have keepT : ∀ {b : Addr} {xs : List V}, SqT K H5 b xs → SqT K (upd H5 p (SetMO P w p L')) b xs := fun {b xs} hb => by
      rcases hb with hb | hb
      · refine .inl ?_
        have hp5 := s5 p _ e1
        rcases hb with hb | ⟨o, hb⟩
        · exact .inl (by rw [upd_ne (ne_of hb hp5 (fun z => by cases z))]; exact hb)
        · exact .inr ⟨o, by rw [upd_ne (ne_of hb hp5 (fun z => by cases z))]; exact hb⟩
      · exact .inr hb
    have t5 : ∀ q ∈ L, SqT K (upd H5 p (SetMO P w p L')) q.1 (q.2.map kV) := fun q hq => keepT (sm_t s5 (t1 q hq))
    rcases cs with ⟨hk, rfl⟩ | ⟨hk, pm⟩
    · refine ⟨ms ++ [k], L', by omega, sm_mut (s1.trans s5) hp, upd_same, t5, fun j => ?_, q5⟩
      rw [m1, List.mem_append, List.mem_singleton]
      exact ⟨.inl, fun z => z.elim id fun e => by rw [e]; exact (m1 k).mp hk⟩
    · refine ⟨ms ++ [k], L', by rw [pm.length_eq, List.length_cons]; omega, sm_mut (s1.trans s5) hp, upd_same, fun q hq => ?_, fun j => ?_, q5⟩
      · rcases List.mem_cons.mp (pm.mem_iff.mp hq) with rfl | hq
        · exact keepT hT
        · exact t5 q hq
      · rw [(pm.map (·.2)).mem_iff, List.map_cons, List.mem_cons, m1, List.mem_append, List.mem_singleton]
        exact Or.comm
  · obtain ⟨ms, L, hl, s1, e1, t1, m1, q1⟩ := h
    exact hd p H' ms L hp s1 e1 t1 m1 hl q1
end
section
variable {X : Cx} {elt tg it0 : Expr} {ifs : List Expr} {sc : Scope} {own : List (PySem.Str × Nat)} {pos : Pos} {wi : TI} {g : TG} {tt : TT} {te : TE}
theorem pe_sgM (K : PySem.W.Frag) (P : Program) (w : World) (hu : X.A.units + 64 < cLine) (hN : X.N.Nodup) (hi : PI X tg it0 wi) (ok : BlkOk X.N X.env.scope sc own)
    (hg : ∀ s H C cl fp, PG (bx X sc s H C cl fp) tg g) (ht : ∀ s H C cl fp, PTs (bx X sc s H C cl fp) ifs tt) (he : ∀ s H C cl fp, PE (bx X sc s H C cl fp) elt te) (hc : X.calm = true := by rfl) (hK : X.K = K := by rfl) (hP : X.prog = P := by rfl) (hw : X.w = w := by rfl) (hs : ∀ x, foldedSetIterable it0 X.env x = pure x := by intro _; rfl) :
    PE X (.SetComp elt [⟨tg, it0, ifs, 0⟩] sc pos) (tSg (fun D => SetMO P w D []) (rMAdd K P w) wi g tt te (own.map (·.2))) := by
  subst hw
  subst hK
  subst hP
  exact pe_sg (fun h H => setMO_new (setM0_fresh h)) (fun _ _ _ _ _ => mt_madd hu) hc hN hi ok hg ht he hs
end
end Gk
set_option Elab.async false
set_option autoImplicit false
set_option linter.all false
set_option maxRecDepth 100000
set_option maxHeartbeats 4000000
/-! # Own classes, dicts, lists that grow: rules by name, steps -/
namespace Gk
open PySem PySem.Spec PyProof.Rows L2
open PySem.W (EachIs AllAlike Sortable dataLe dataLt alike keyToks)
/-- a callee that may raise, asked where it does not -/
theorem passX {P : Program} {w : World} {X : Cx} : Passes (L2.CX P w) X E0 := fun _ _ _ _ _ _ _ h => by
  obtain ⟨_, _, _, _, _, _, _, _, _, _, _, _, z⟩ := h
  exact z.elim
/-- .. and its exceptions are this def's -/
theorem passE {X : Cx} {E : XK} (tk : Takes X (fun cls d _ H => E cls d H)) : Passes (L2.CX X.prog X.w) X E := fun _ _ _ _ e s' I c => tk e s' (XE.of_call I (fun _ _ _ h => h) c)
/-- a tuple that stands in the written part under the module's name x -/
structure GloT (K : PySem.W.Frag) (mg : Str → Option Value) (x : Str) (xs : List V) : Prop where
  g : mg x = some (.ref (He.ga K x))
  t : ∀ H, SqT K H (He.ga K x) xs
theorem pe_gt {X : Cx} {K : PySem.W.Frag} {x : Str} {xs : List V} {pos : Pos} (h : GloT K X.mg x xs) (hg : Gl X x := by rfl) (hd : (x == ("__debug__" : Str)) = false := by decide) : PE X (.Name x pos) (tC (.ref (He.ga K x))) := pe_gr h.g hg hd
/-- the names of a comprehension's block within another's -/
def rlb (s1 s0 : Scope) : Scope := { s1 with names := s1.names.map fun (n, k) => if (k == .free && s0.kind == .function && s0.names.lookup n == some .cell) then (n, .cell) else (n, k) }
/-! ### methods, instances -/
/-- the method m of the class under the module's name C keeps sp -/
structure CalleeM (P : Program) (w : World) (K : PySem.W.Frag) (mg : Str → Option Value) (base : Heap) (CX : CXT) (C m : Str) (k : Nat) (sp : Sp) : Prop where
  cls : Cls K (He.ga K C)
  me : Meth K (He.ga K C) m (He.ma K (He.ga K C) m)
  ex : ∃ fd ps, FnOk P w K mg base CX k (He.ma K (He.ga K C) m) fd ps sp ∧ Binds K fd ps []
/-- the class under the module's name C, made with n values and the keywords ks -/
structure OwnMk (P : Program) (w : World) (K : PySem.W.Frag) (mg : Str → Option Value) (base : Heap) (CX : CXT) (C : Str) (k n : Nat) (ks : List Str) (gV : List V → List V → List V) (sp : Sp) : Prop where
  gC : mg C = some (.ref (He.ga K C))
  mkr : Mk K (He.ga K C) (He.ma K (He.ga K C) "__init__")
  ex : ∃ fd ps, FnOk P w K mg base CX k (He.ma K (He.ga K C) "__init__") fd ps sp ∧ ∃ g : List Value → List Value → List Value, KBn K fd ps (n + 1) ks g gV
section
variable {X : Cx} {K : PySem.W.Frag} {CX : CXT} {k j n : Nat} {sp : Sp} {C m x : Str} {p pos apos : Pos} {o e : Expr} {es : List Expr} {ta : TE} {t tk : TA} {ks : List Str} {gV : List V → List V → List V} {kws : List Keyword} {pl : Sem Bool}
theorem pe_mt0 (c : CalleeM X.prog X.w K X.mg X.base CX C m k sp) (hr : Room j X.A) (he : PE X o ta) (hx : Passes CX X E0) (hK : X.K = K := by rfl) (hj : k ≤ j := by first | decide | omega)
    (ht : eval (.Call (.Attribute o m apos) [] [] pos) X.env = (do
      let ov ← eval o X.env
      standAt apos.atName
      let (f, first) ← holding [ov] (getMethod ov m pl)
      callWith pos f first (backTo pos (starEach [] X.env)) (backToKw pos (keywordEach [] X.env))) := by rfl) : PE X (.Call (.Attribute o m apos) [] [] pos) (tMeth (He.ga K C) m sp [] E0 ta tNil) := by
  subst hK
  obtain ⟨fd, ps, F, hb⟩ := c.ex
  exact pe_meth0 he c.cls c.me F (hr.mono hj) hb .nil hx ht
theorem pe_mt1 (c : CalleeM X.prog X.w K X.mg X.base CX C m k sp) (hr : Room j X.A) (he : PE X o ta) (ha : PA X (e :: es) t) (hx : Passes CX X E0) (hK : X.K = K := by rfl) (hj : k ≤ j := by first | decide | omega) (hst : starEach (e :: es) X.env = (false, eval e X.env) :: starEach es X.env := by rfl) (hpl : (backTo pos (starEach es X.env)).any (·.1) = false := by rfl)
    (ht : eval (.Call (.Attribute o m apos) (e :: es) [] pos) X.env = (do
      let ov ← eval o X.env
      standAt apos.atName
      let (f, first) ← holding [ov] (getMethod ov m pl)
      callWith pos f first (backTo pos (starEach (e :: es) X.env)) (backToKw pos (keywordEach [] X.env))) := by rfl) : PE X (.Call (.Attribute o m apos) (e :: es) [] pos) (tMeth (He.ga K C) m sp [] E0 ta t) := by
  subst hK
  obtain ⟨fd, ps, F, hb⟩ := c.ex
  exact pe_meth he c.cls c.me F (hr.mono hj) hb .nil hx ha hst hpl ht
theorem pe_mkK (c : OwnMk X.prog X.w K X.mg X.base CX x k n ks gV sp) (hr : Room j X.A) (ha : PA X (e :: es) t) (hkw : PK X kws tk) (hx : Passes CX X E0) (hK : X.K = K := by rfl) (hj : k + 1 ≤ j := by first | decide | omega) (hg : Gl X x := by rfl)
    (hall : (backToKw pos (keywordEach kws X.env)).all (·.1.isSome) = true := by rfl) (hks : (backToKw pos (keywordEach kws X.env)).filterMap (·.1) = ks := by rfl) (hdb : (x == ("__debug__" : Str)) = false := by decide)
    (he : starEach (e :: es) X.env = (false, eval e X.env) :: starEach es X.env := by rfl) (hpl : ((backTo pos (starEach (e :: es) X.env)).any (·.1) || (backToKw pos (keywordEach kws X.env)).any (·.1.isNone)) = false := by rfl) :
    PE X (.Call (.Name x p) (e :: es) kws pos) (tMakeK (He.ga K x) n ks.length sp gV E0 t tk) := by
  subst hK
  obtain ⟨fd, ps, F, g, hb⟩ := c.ex
  exact pe_makeK c.mkr F (hr.mono hj) hg c.gC hb hx ha hkw hall hks hdb he hpl
end
/-! ### steps -/
def nMeth (C : Addr) (m : Str) (x : V) (H : Hp) (A : Prop) : Prop := ∃ a dx fs, x = .ref a ∧ H a = some (.ins C dx fs) ∧ fs.lookup m = none ∧ A
def nFld (K : PySem.W.Frag) (f : Str) (x : V) (H : Hp) (Q : VK) : Prop := ∃ a C dx fs v, x = .ref a ∧ H a = some (.ins C dx fs) ∧ Cls K C ∧ NoAttr K C f ∧ fs.lookup f = some v ∧ Q v H
def nSFld (K : PySem.W.Frag) (f : Str) (y x : V) (H : Hp) (R : Hp → Prop) : Prop := ∃ a C dx fs, x = .ref a ∧ H a = some (.ins C dx fs) ∧ Cls K C ∧ NoAttr K C f ∧ fs.length < 1000 ∧ R (upd H a (.ins C dx (putF f y fs)))
def nDg (x y : V) (H : Hp) (Q : VK) : Prop := ∃ a v, x = .ref a ∧ DGet H a y (some v) ∧ Q v H
def nDp (x y v : V) (H : Hp) (R : Hp → Prop) : Prop := ∃ a H4, x = .ref a ∧ DPut H a y v H4 ∧ R H4
def nPairs (trs : List (TE × TE)) (σ : L2.St) (H : Hp) (R : List (V × V) → Hp → Prop) : Prop := tPairs trs σ H R
section
variable {K : PySem.W.Frag} {σ : L2.St} {H : Hp} {Q : VK} {D : Ends} {ta tv td ty tx : TE} {t tk : TA} {a C dx : Addr} {fs : List (Str × V)} {m f : Str} {x y v : V} {A : Prop} {sp : Sp} {dvs : List V} {E : XK} {R : Hp → Prop} {kvs : List (Key × V)} {k : Key} {trs : List (TE × TE)} {xs : List V} {n j : Nat} {gV : List V → List V → List V}
theorem k_meth (h : ta σ H fun x H1 => nMeth C m x H1 (t σ H1 fun vs H2 => sp (x :: (vs ++ dvs)) H2 Q E)) : tMeth C m sp dvs E ta t σ H Q := h
theorem k_nMeth (hp : H a = some (.ins C dx fs)) (hl : fs.lookup m = none) (h : A) : nMeth C m (.ref a) H A := ⟨a, dx, fs, rfl, hp, hl, h⟩
theorem k_fld (h : ta σ H fun x H1 => nFld K f x H1 Q) : tFld K ta f σ H Q := h
theorem k_nFld (hp : H a = some (.ins C dx fs)) (c : Cls K C) (n : NoAttr K C f) (hl : fs.lookup f = some v) (h : Q v H) : nFld K f (.ref a) H Q := ⟨a, C, dx, fs, v, rfl, hp, c, n, hl, h⟩
theorem k_sfld (h : tv σ H fun y H1 => ta σ H1 fun x H2 => nSFld K f y x H2 fun H3 => D.nx σ H3) : sFld K ta tv f D σ H := h
theorem k_nSFld (hp : H a = some (.ins C dx fs)) (c : Cls K C) (n : NoAttr K C f) (hl : fs.length < 1000) (h : R (upd H a (.ins C dx (putF f y fs)))) : nSFld K f y (.ref a) H R := ⟨a, C, dx, fs, rfl, hp, c, n, hl, h⟩
theorem k_dg (h : td σ H fun x H1 => ty σ H1 fun y H2 => nDg x y H2 Q) : tDGet td ty σ H Q := h
theorem k_nDg (hp : H a = some (.dK kvs)) (hl : valV kvs (.inr m) = some v) (h : Q v H) : nDg (.ref a) (.str m) H Q := ⟨a, v, rfl, by rw [← hl]; exact DGet.k (k := .inr m) hp, h⟩
theorem k_dg2 (h : td σ H fun x H1 => ∃ a, x = .ref a ∧ IsD H1 a ∧ ty σ H1 fun y H2 => tx σ H2 fun z H3 => ∃ o, DGet H3 a y o ∧ Q (o.getD z) H3) : tDGet2 td ty tx σ H Q := h
theorem k_dp (h : tv σ H fun v H1 => td σ H1 fun x H2 => ty σ H2 fun y H3 => nDp x y v H3 fun H4 => D.nx σ H4) : sDPut td ty tv D σ H := h
theorem k_nDp (hp : H a = some (.dK kvs)) (hl : kvs.length < 1000) (h : R (upd H a (.dK (putK kvs (.inr m) v)))) : nDp (.ref a) (.str m) v H R := ⟨a, _, rfl, DPut.k (k := .inr m) hp (sz_lt (by omega)), h⟩
theorem k_disp (h : ∀ p, H p = none → nPairs trs σ (upd H p (.dK [])) fun ps H2 => H2 p = some (.dK []) ∧ ∃ kvs : List (Key × V), ps = kvs.map (fun kv => (kV kv.1, kv.2)) ∧ kvs.length ≤ 15 ∧ Q (.ref p) (upd H2 p (.dK (mergeK [] kvs)))) : tDisp trs σ H Q := h
theorem k_pr0 {R : List (V × V) → Hp → Prop} (h : R [] H) : nPairs [] σ H R := h
theorem k_pr {R : List (V × V) → Hp → Prop} (h : ta σ H fun x H1 => tv σ H1 fun y H2 => nPairs trs σ H2 fun ps H3 => R ((x, y) :: ps) H3) : nPairs ((ta, tv) :: trs) σ H R := h
theorem k_append (hp : H a = some (.lst xs)) (hl : xs.length < 100000) (h : Q .non (upd H a (.lst (xs ++ [y])))) : rAppend (.ref a) [y] H Q := ⟨a, xs, y, rfl, rfl, hp, sz_lt (by omega), h⟩
theorem k_makeK (h : t σ H fun vs H1 => tk σ H1 fun zs H2 => vs.length = n ∧ zs.length = j ∧ ∀ x dx, H2 x = none → H2 dx = none → dx ≠ x → sp (gV (.ref x :: vs) zs) (upd (upd H2 dx (.own x)) x (.ins C dx [])) (fun v H3 => v = .non ∧ Q (.ref x) H3) E) : tMakeK C n j sp gV E t tk σ H Q := h
end
/-! ### a comprehension of two fors -/
def nIn (D : Addr) (J : It) (g : TG) (tt : TT) (te : TE) (vs : List Nat) (σ : L2.St) (H0 : Hp) (Nx : Hp → Prop) : Prop := ∃ W1 : Nat → Nat → Hp → Prop, (∃ m, W1 0 m H0) ∧ ∀ j k H, W1 j k H →
  (J.stop j H ∧ Nx H) ∨ (J.go j H ∧ ∃ Nx1 : Hp → Prop, (∀ H', Nx1 H' → ∃ k', k' < k ∧ W1 (j + 1) k' H') ∧ ∀ x H', J.yld j H x H' → g x (wipe σ vs) H' fun σ3 H5 => wipe σ3 vs = wipe σ vs ∧ tt σ3 H5 fun b H6 =>
    if b = true then te σ3 H6 fun y H7 => ∃ acc, H7 D = some (.lst acc) ∧ acc.length < sizeLine ∧ Nx1 (upd H7 D (.lst (acc ++ [y]))) else Nx1 H6)
section
variable {σ : L2.St} {H Hb : Hp} {Q : VK} {te : TE} {tt tt1 : TT} {wi wi1 : TI} {g g1 : TG} {n : Nat} {vs vs1 : List Nat} {J : It} {G : Hp → Prop} {Y : Nat → Hp → V → Hp → Prop} {D : Addr} {Nx : Hp → Prop} {ws0 : List V}
theorem k_nIn (wk : Walk J n G Y) (sb : Same Hb H) (hD : Hb D = none) (e0 : H D = some (.lst ws0)) (hG : ∀ H', Same Hb H' → G H') (Pv : Nat → List V → Prop) (h0 : Pv 0 ws0) (hz : ∀ i ws, i ≤ n → Pv i ws → ws.length ≤ 50000)
    (hs : ∀ (i : Nat) (x : V) (H1 H2 : Hp) (ws : List V) (Kp : VK) (Ks : Hp → Prop), i < n → Same Hb H1 → Pv i ws → Y i H1 x H2 → (∀ y H5, Same H1 H5 → Pv (i + 1) (ws ++ [y]) → Kp y H5) → (∀ H5, Same H1 H5 → Pv (i + 1) ws → Ks H5) →
      g x (wipe σ vs) H2 fun σ2 H3 => wipe σ2 vs = wipe σ vs ∧ tt σ2 H3 fun b H4 => nIte b (te σ2 H4 Kp) (Ks H4))
    (hd : ∀ H' ws, Same Hb H' → H' D = some (.lst ws) → Pv n ws → Nx H') : nIn D J g tt te vs σ H Nx := by
  refine ⟨fun i m H' => m = n - i ∧ i ≤ n ∧ ∃ ws, Same Hb H' ∧ H' D = some (.lst ws) ∧ Pv i ws, ⟨n, by simp, Nat.zero_le _, ws0, sb, e0, h0⟩, fun i m H' hW => ?_⟩
  obtain ⟨rfl, hi, ws, s1, e1, q1⟩ := hW
  by_cases lt : i < n
  · refine .inr ⟨wk.goes i H' lt (hG H' s1), fun H2 => ∃ ws, Same Hb H2 ∧ H2 D = some (.lst ws) ∧ Pv (i + 1) ws, fun H2 p2 => ⟨n - (i + 1), by omega, rfl, lt, p2⟩, fun x H2 y => ?_⟩
    exact hs i x H' H2 ws _ _ lt s1 q1 (wk.yields i H' x H2 lt (hG H' s1) y) (fun y H5 s5 q5 => ⟨ws, s5 D _ e1, sz_lt (by have := hz i ws (by omega) q1; omega), ws ++ [y], sm_mut (s1.trans s5) hD, upd_same, q5⟩) (fun H5 s5 q5 => ⟨ws, s1.trans s5, s5 D _ e1, q5⟩)
  · obtain rfl : i = n := by omega
    exact .inl ⟨wk.stops H' (hG H' s1), hd H' ws s1 e1 q1⟩
end
/-! ### slices, places -/
theorem cutV_to (xs : List V) (n : Nat) : cutV xs none (some (n : Int)) = xs.take n := by
  unfold cutV
  rw [HT.sIx_nat]
  show ((xs.drop 0).take (min n xs.length - 0)) = xs.take n
  rw [List.drop_zero, Nat.sub_zero, ← List.take_eq_take_min]
/-- the first place of a sign -/
theorem occ_one {cs : List Nat} {c i : Nat} (h : cs[i]? = some c) (hf : ∀ j, j < i → cs[j]? ≠ some c) : ∃ rest, Builtin.Str.occurrences (tx cs) ⟨#[c]⟩ 0 (tx cs).length 1 = i :: rest := by
  have h1 := StrLaws.occ_head (tx cs) ⟨#[c]⟩ 1 (Nat.le_refl _)
  have at_ : ∀ j, StrLaws.At (tx cs) ⟨#[c]⟩ (tx cs).length j ↔ cs[j]? = some c := fun j => StrLaws.subAt_one (tx cs) c j
  rcases h1 with ⟨_, h1⟩ | ⟨j, r, e, hj, hk⟩
  · exact absurd ((at_ i).mpr h) (h1 i)
  · rw [at_] at hj
    have : i = j := by
      rcases Nat.lt_trichotomy i j with z | z | z
      · exact absurd ((at_ i).mpr h) (hk i z)
      · exact z
      · exact absurd hj (hf j z)
    exact ⟨r, by rw [e, this]⟩
/-! ### fields that are laid -/
section
variable {P : Prop} [Decidable P] {A B : Prop}
theorem k_decT (hp : P) (h : A) : nIte (decide P) A B := k_dec (fun _ => h) fun z => absurd hp z
theorem k_decF (hp : ¬ P) (h : B) : nIte (decide P) A B := k_dec (fun z => absurd z hp) fun _ => h
end
theorem k_allT {K : PySem.W.Frag} {H : Hp} {Q : VK} {a : Addr} {xs : List V} (n : Nat) (e : xs = List.replicate n (.bl true)) (hx : H a = some (.lst xs)) (h : Q (.bl true) H) : rAll K [.ref a] H Q := by
  refine k_all (bs := List.replicate n true) (sq_l (by rw [hx, e, List.map_replicate])) ?_
  rw [show (List.replicate n true).all id = true by simp]
  exact h
/-- all tests of a comprehension are true -/
theorem k_nLcT {σ : L2.St} {H : Hp} {Q : VK} {te : TE} {g : TG} {n : Nat} {vs : List Nat} {J : It} {G : Hp → Prop} {Y : Nat → Hp → V → Hp → Prop} (wk : Walk J n G Y) (hn : n ≤ 50000) (hG : ∀ H', Same H H' → G H')
    (hs : ∀ (i : Nat) (x : V) (H1 H2 : Hp) (Kp : VK), i < n → Same H H1 → Y i H1 x H2 → (∀ H5, Same H1 H5 → Kp (.bl true) H5) → g x (wipe σ vs) H2 fun σ2 H3 => wipe σ2 vs = wipe σ vs ∧ te σ2 H3 Kp)
    (hd : ∀ (p : Addr) (H' : Hp), H p = none → Same H H' → H' p = some (.lst (List.replicate n (.bl true))) → Q (.ref p) H') : nLc J g tYes te vs σ H Q := by
  refine k_nLc wk hG (fun i ws => ws = List.replicate i (.bl true)) rfl (fun i ws hi e => by rw [e, List.length_replicate]; omega) (fun i x H1 H2 ws Kp Ks hi s1 e hy h1 _ => ?_) (fun p H' ws hp s1 e1 e => hd p H' hp s1 (by rw [e1, e]))
  exact hs i x H1 H2 Kp hi s1 hy fun H5 s5 => h1 _ H5 s5 (by rw [e, List.replicate_succ'])
/-! ### sets, steps -/
section
variable {K : PySem.W.Frag} {P : Program} {w : World} {H : Hp} {Q : VK} {a : Addr} {z : Str}
theorem k_setX (pz : Pl z) (nd : (TL.tl z).Nodup) (lz : z.length ≤ 1000) (h : ∀ p H', H p = none → Same H H' → H' p = some (SetXO P w p ((TL.tl z).map sg).reverse) → Q (.ref p) H') : rSetA K P w [.str z] H Q := .inl ⟨z, rfl, pz, nd, lz, h⟩
theorem k_sortX {l : List Str} (ha : H a = some (SetXO P w a l)) (nd : l.Nodup) (hl : l.length ≤ 1000) (h : ∀ (ys : List Str) p H', ys.Perm l → ys.Pairwise (fun x y => x.cps.toList ≤ y.cps.toList) → H p = none → Same H H' → H' p = some (.lst (ys.map V.str)) → Q (.ref p) H') : rSortedA K P w [.ref a] H Q := .inl (.inr ⟨a, l, rfl, ha, nd, hl, h⟩)
theorem k_sortM {L : List RwM} (ha : H a = some (SetMO P w a L)) (hL : ∀ p ∈ L, SqT K H p.1 (p.2.map kV)) (al : AllAlike (L.map encM)) (ne : ∀ p ∈ L, p.2 ≠ [])
    (h : ∀ (L' : List RwM) p H', L'.Perm L → (L.map (·.2)).Nodup → L'.Pairwise (fun x y => dataLe false encM x y = true) → H p = none → Same H H' → H' p = some (.lst (L'.map fun q => V.ref q.1)) → Q (.ref p) H') : rSortedA K P w [.ref a] H Q := .inr (.inr ⟨a, L, rfl, ha, hL, al, ne, h⟩)
end
theorem eq_le {a : List Nat} : ∀ {b : List Nat}, a.Pairwise (· ≤ ·) → b.Pairwise (· ≤ ·) → a.Perm b → a = b := by
  induction a with
  | nil => exact fun _ _ p => (List.nil_perm.mp p).symm
  | cons x a ih =>
    intro b ha hb p
    cases b with
    | nil => exact absurd p.length_eq (by simp)
    | cons y b =>
      obtain ⟨a1, a2⟩ := List.pairwise_cons.mp ha
      obtain ⟨b1, b2⟩ := List.pairwise_cons.mp hb
      have e : x = y := by
        rcases List.mem_cons.mp (p.mem_iff.mp (List.mem_cons_self (a := x) (l := a))) with e | h1
        · exact e
        rcases List.mem_cons.mp (p.mem_iff.mpr (List.mem_cons_self (a := y) (l := b))) with e | h2
        · exact e.symm
        have := b1 _ h1
        have := a1 _ h2
        omega
      subst e
      rw [ih a2 b2 (List.Perm.cons_inv p)]
theorem le1 (a b : Nat) (h : ([a] : List Nat) ≤ [b]) : a ≤ b := by
  rcases Nat.lt_or_ge b a with z | z
  · exact absurd (show ([b] : List Nat) < [a] from List.Lex.rel z) h
  · exact z
theorem sorted_sgs {ys : List Str} {cs : List Nat} (hp : ys.Perm (cs.map sg).reverse) (hs : ys.Pairwise (fun x y => x.cps.toList ≤ y.cps.toList)) (hc : cs.Pairwise (· < ·)) : ys = cs.map sg := by
  have p2 : ys.Perm (cs.map sg) := hp.trans (List.reverse_perm _)
  obtain ⟨ds, rfl, pd⟩ := perm_back sg p2 cs rfl
  rw [List.pairwise_map] at hs
  rw [eq_le (hs.imp fun h => le1 _ _ h) (hc.imp fun h => Nat.le_of_lt h) pd]
/-! ### what stands apart from an object that changes -/
section
variable {K : PySem.W.Frag} {H H' : Hp} {a b p C dx : Addr} {xs ws : List V} {o u : HO} {fs : List (Str × V)}
theorem rd_upd (hp : H p = some u) (hu : ∀ v, u ≠ .frz v o) (hn : u ≠ o) (h : Rd H b o) {o2 : HO} : Rd (upd H p o2) b o := by
  rcases h with h | ⟨v, h⟩
  · exact .inl (by rw [upd_ne (ne_of h hp (Ne.symm hn))]; exact h)
  · exact .inr ⟨v, by rw [upd_ne (ne_of h hp (Ne.symm (hu v)))]; exact h⟩
/-- tuples beside a list, an instance -/
theorem t_lst (hp : H p = some (.lst ws)) (h : SqT K H b xs) : SqT K (upd H p o) b xs := h.elim (fun h => .inl (rd_upd hp (fun _ z => by cases z) (fun z => by cases z) h)) .inr
theorem t_ins (hp : H p = some (.ins C dx fs)) (h : SqT K H b xs) : SqT K (upd H p o) b xs := h.elim (fun h => .inl (rd_upd hp (fun _ z => by cases z) (fun z => by cases z) h)) .inr
theorem l_ins (hp : H p = some (.ins C dx fs)) (h : SqL K H b xs) : SqL K (upd H p o) b xs := h.elim (fun h => .inl (rd_upd hp (fun _ z => by cases z) (fun z => by cases z) h)) .inr
theorem t_dk {kvs : List (Key × V)} (hp : H p = some (.dK kvs)) (h : SqT K H b xs) : SqT K (upd H p o) b xs := h.elim (fun h => .inl (rd_upd hp (fun _ z => by cases z) (fun z => by cases z) h)) .inr
theorem sm_del : Same (del H p) H := fun b u h => by
  by_cases e : b = p
  · rw [e, del_same] at h
    cases h
  · rw [del_ne e] at h
    exact h
theorem del_mono (s : Same H H') : Same (del H p) (del H' p) := fun b u h => by
  by_cases e : b = p
  · rw [e, del_same] at h
    cases h
  · rw [del_ne e] at h ⊢
    exact s b u h
theorem del_upd : del (upd H p o) p = del H p := by
  funext b
  by_cases e : b = p
  · rw [e, del_same, del_same]
  · rw [del_ne e, del_ne e, upd_ne e]
theorem del_none (h : H p = none) : del H p = H := by
  funext b
  by_cases e : b = p
  · rw [e, del_same, h]
  · rw [del_ne e]
theorem del_t (hp : H p = some (.lst ws)) (h : SqT K H b xs) : SqT K (del H p) b xs := by
  rcases h with (h | ⟨v, h⟩) | h
  · exact .inl (.inl (by rw [del_ne (ne_of h hp (fun z => by cases z))]; exact h))
  · exact .inl (.inr ⟨v, by rw [del_ne (ne_of h hp (fun z => by cases z))]; exact h⟩)
  · exact .inr h
theorem del_l (hb : b ≠ p) (h : SqL K H b xs) : SqL K (del H p) b xs := by
  rcases h with (h | ⟨v, h⟩) | h
  · exact .inl (.inl (by rw [del_ne hb]; exact h))
  · exact .inl (.inr ⟨v, by rw [del_ne hb]; exact h⟩)
  · exact .inr h
end
section
variable {σ : L2.St} {H : Hp} {Q : VK} {te : TE} {tt : TT} {g : TG} {n : Nat} {vs : List Nat} {J : It} {G : Hp → Prop} {Y : Nat → Hp → V → Hp → Prop}
/-- a comprehension whose values are told with the heap (beside the new list) -/
theorem k_nLcD (wk : Walk J n G Y) (hG : ∀ H', Same H H' → G H') (Pv : Nat → List V → Hp → Prop) (hm : ∀ i ws H1 H2, Same H1 H2 → Pv i ws H1 → Pv i ws H2) (h0 : Pv 0 [] H) (hz : ∀ i ws H1, i ≤ n → Pv i ws H1 → ws.length ≤ 50000)
    (hs : ∀ (i : Nat) (x : V) (p : Addr) (H1 H2 : Hp) (ws : List V) (Kp : VK) (Ks : Hp → Prop), i < n → H p = none → Same H H1 → H1 p = some (.lst ws) → Pv i ws (del H1 p) → Y i H1 x H2 → (∀ y H5, Same H1 H5 → Pv (i + 1) (ws ++ [y]) (del H5 p) → Kp y H5) → (∀ H5, Same H1 H5 → Pv (i + 1) ws (del H5 p) → Ks H5) →
      g x (wipe σ vs) H2 fun σ2 H3 => wipe σ2 vs = wipe σ vs ∧ tt σ2 H3 fun b H4 => nIte b (te σ2 H4 Kp) (Ks H4))
    (hd : ∀ (p : Addr) (H' : Hp) (ws : List V), H p = none → Same H H' → H' p = some (.lst ws) → Pv n ws H' → Q (.ref p) H') : nLc J g tt te vs σ H Q := by
  intro p hp
  refine lc_it wk (fun i H' => ∃ ws : List V, Same H H' ∧ H' p = some (.lst ws) ∧ Pv i ws (del H' p)) ⟨[], sm_new hp, upd_same, by rw [del_upd, del_none hp]; exact h0⟩ (fun i H' _ h => ?_) (fun i x H1 H2 hi h hy => ?_) (fun H' h => ?_)
  · obtain ⟨ws, s1, _⟩ := h
    exact hG H' s1
  · obtain ⟨ws, s1, e1, q1⟩ := h
    exact hs i x p H1 H2 ws _ _ hi hp s1 e1 q1 hy (fun y H5 s5 q5 => ⟨ws, s5 p _ e1, sz_lt (by have := hz i ws _ (by omega) q1; omega), ws ++ [y], sm_mut (s1.trans s5) hp, upd_same, by rw [del_upd]; exact q5⟩) (fun H5 s5 q5 => ⟨ws, s1.trans s5, s5 p _ e1, q5⟩)
  · obtain ⟨ws, s1, e1, q1⟩ := h
    exact hd p H' ws hp s1 e1 (hm _ _ _ _ sm_del q1)
end
theorem k_niT {K : PySem.W.Frag} {H : Hp} {Q : VK} {x : V} {p : Addr} {xs : List V} {b : Bool} (hx : SqT K H p xs) (fx : flatV x = true) (fs : xs.all flatV = true) (hi : (!inV x xs) = b) (h : Q (.bl b) H) : rIn K true x (.ref p) H Q := ⟨p, xs, rfl, .inr hx, fx, fs, by
  show Q (.bl (!inV x xs)) H
  rw [hi]
  exact h⟩
theorem k_inT {K : PySem.W.Frag} {H : Hp} {Q : VK} {x : V} {p : Addr} {xs : List V} {b : Bool} (hx : SqT K H p xs) (fx : flatV x = true) (fs : xs.all flatV = true) (hi : inV x xs = b) (h : Q (.bl b) H) : rIn K false x (.ref p) H Q := ⟨p, xs, rfl, .inr hx, fx, fs, by
  show Q (.bl (inV x xs)) H
  rw [hi]
  exact h⟩
theorem k_inL {K : PySem.W.Frag} {H : Hp} {Q : VK} {x : V} {p : Addr} {xs : List V} {b : Bool} (hx : SqL K H p xs) (fx : flatV x = true) (fs : xs.all flatV = true) (hi : inV x xs = b) (h : Q (.bl b) H) : rIn K false x (.ref p) H Q := ⟨p, xs, rfl, .inl hx, fx, fs, by
  show Q (.bl (inV x xs)) H
  rw [hi]
  exact h⟩
/-! ### lists of pairs of numbers, written -/
def tPrs : List (Int × Int) → TA
  | [] => tNil
  | q :: r => tCons (tTup (tCons (tC (.int q.1)) (tCons (tC (.int q.2)) tNil))) (tPrs r)
theorem k_prs {σ : L2.St} : ∀ (ps : List (Int × Int)) {H : Hp} {R : List V → Hp → Prop}, (∀ (Z : List (Addr × Int × Int)) H', Same H H' → Z.map (·.2) = ps → (∀ q ∈ Z, H' q.1 = some (.tup [.int q.2.1, .int q.2.2])) → R (Z.map fun q => V.ref q.1) H') → tPrs ps σ H R
  | [], H, R, h => h [] H (Same.refl _) rfl fun q hq => nomatch hq
  | p :: r, H, R, h => by
    show nTup [.int p.1, .int p.2] H fun y H1 => tPrs r σ H1 fun xs H2 => R (y :: xs) H2
    refine k_nTup (Q := fun y H1 => tPrs r σ H1 fun xs H2 => R (y :: xs) H2) (xs := [.int p.1, .int p.2]) (by show 2 ≤ 100000; decide) (fun T H1 n1 s1 e1 => k_prs r fun Z H2 s2 hz hq => ?_)
    refine h ((T, p) :: Z) H2 (s1.trans s2) (by rw [List.map_cons, hz]) fun q hq2 => ?_
    rcases List.mem_cons.mp hq2 with rfl | hq2
    · exact s2 _ _ e1
    · exact hq q hq2
theorem k_lprs {σ : L2.St} (ps : List (Int × Int)) (hl : ps.length ≤ 100000) {H : Hp} {Q : VK} (h : ∀ (Z : List (Addr × Int × Int)) p H', H p = none → Same H H' → Z.map (·.2) = ps → (∀ q ∈ Z, H' q.1 = some (.tup [.int q.2.1, .int q.2.2])) → H' p = some (.lst (Z.map fun q => V.ref q.1)) → Q (.ref p) H') : tLst (tPrs ps) σ H Q := by
  refine k_lst (k_prs ps fun Z H1 s1 hz hq => ?_)
  have lz : Z.length = ps.length := by rw [← hz, List.length_map]
  refine k_nLst (by rw [List.length_map]; omega) (fun p H2 n2 s2 e2 => h Z p H2 (s1.free n2) (s1.trans s2) hz (fun q hq' => s2 _ _ (hq q hq')) e2)
/-- whatever way it goes, Po holds -/
theorem k_post {σ : L2.St} {H : Hp} {Q : VK} {te : TE} (Po : V → Hp → Prop) (h1 : ∀ Q' : VK, (∀ v H', Po v H' → Q' v H') → te σ H Q') (h2 : ∀ v H', Po v H' → Q v H') : te σ H Q := h1 Q h2
theorem dp_is {K : PySem.W.Frag} {H : Hp} : ∀ ns : List Int, DpAll K H (ns.map V.int) (ns.map PyData.int)
  | [] => .nil
  | n :: r => .cons (.int n) (dp_is r)
theorem dp_ints {K : PySem.W.Frag} {H : Hp} {a : Addr} {ns : List Int} (h : SqL K H a (ns.map V.int)) : Dp K H (.ref a) (.list (ns.map .int)) := .lst h (dp_is ns)
theorem good_ints {ns : List Int} (h : ∀ n ∈ ns, n.natAbs ≤ 2 ^ 63) (hl : ns.length ≤ 50000) (j : Nat) : Good (j + 2) (.list (ns.map .int)) := ⟨by rw [List.length_map]; exact hl, fun e he => by
  obtain ⟨n, hn, rfl⟩ := List.mem_map.mp he
  have := log_nat (h n hn)
  rwa [Int.natAbs_natCast] at this⟩
theorem eqv_nil (ds : List PyData) : PyData.eqv (.list ds) (.list []) = decide (ds = []) := by
  cases ds with
  | nil => simp [PyData.eqv, PyData.eqvAll]
  | cons d r => simp [PyData.eqv, PyData.eqvAll]
/-- a list of ints, is it empty -/
theorem k_neNil {K : PySem.W.Frag} {H : Hp} {Q : VK} {a b : Addr} {ns : List Int} (h1 : SqL K H a (ns.map V.int)) (h2 : SqL K H b []) (hn : ∀ n ∈ ns, n.natAbs ≤ 2 ^ 63) (hl : ns.length ≤ 50000) (h : Q (.bl (!decide (ns = []))) H) : rNeU K (.ref a) (.ref b) H Q := by
  refine k_ne_d (dp_ints h1) (.lst h2 .nil) ((good_ints hn hl 0).shaped (by decide)) (by decide) ?_
  rw [eqv_nil, show decide (ns.map PyData.int = []) = decide (ns = []) by cases ns <;> rfl]
  exact h
end Gk
set_option Elab.async false
set_option autoImplicit false
set_option linter.all false
set_option maxRecDepth 100000
set_option maxHeartbeats 4000000
/-! # LookupErrors with a field, deep membership in tuples, while, slices by codes -/
namespace Gk
open PySem PySem.Spec PyProof.Rows L2
/-! ### the class under the module's name x, over LookupError, made with one value -/
/-! ### deep membership -/
def rNiTD (K : PySem.W.Frag) : R2 := fun x y H Q => ∃ d ds, Dp K H x d ∧ Dp K H y (.tuple ds) ∧ SeqAt.shaped d = true ∧ SeqAt.shaped (.tuple ds) = true ∧ Q (.bl (!(ds.any fun z => PyData.eqv z d))) H
theorem op_niTD {X : Cx} (K : PySem.W.Frag) (hu : X.A.units + 65 < cLine) (hK : X.K = K := by rfl) : OpR X (compareOp .NotIn) (rNiTD K) := by
  subst hK
  intro pins s σ H x y v u Q I rx ry h
  obtain ⟨d, ds, hd, he, sd, se, q⟩ := h
  obtain ⟨as, r1⟩ := Dp.reads I d x v hd rx
  obtain ⟨bs, r2⟩ := Dp.reads I (.tuple ds) y u he ry
  have le := SeqAt.canLay_of_shaped se
  simp only [PyData.canLay0] at le
  exact SeqAt.notIn_tuple_reads r2 r1 le (SeqAt.canLay_of_shaped sd) (room_in_shaped sd hu) ⟨.bl _, H, I, rfl, q⟩
def rInLD (K : PySem.W.Frag) : R2 := fun x y H Q => ∃ d ds, Dp K H x d ∧ Dp K H y (.list ds) ∧ SeqAt.shaped d = true ∧ SeqAt.shaped (.list ds) = true ∧ Q (.bl (ds.any fun z => PyData.eqv z d)) H
theorem op_inLD {X : Cx} (K : PySem.W.Frag) (hu : X.A.units + 65 < cLine) (hK : X.K = K := by rfl) : OpR X (compareOp .In) (rInLD K) := by
  subst hK
  exact op_inD hu
def rNiLD (K : PySem.W.Frag) : R2 := fun x y H Q => ∃ d ds, Dp K H x d ∧ Dp K H y (.list ds) ∧ SeqAt.shaped d = true ∧ SeqAt.shaped (.list ds) = true ∧ Q (.bl (!(ds.any fun z => PyData.eqv z d))) H
theorem op_niLD {X : Cx} (K : PySem.W.Frag) (hu : X.A.units + 65 < cLine) (hK : X.K = K := by rfl) : OpR X (compareOp .NotIn) (rNiLD K) := by
  subst hK
  exact op_notInD hu
/-! ### keys as data -/
def dKey : Key → PyData
  | .inl n => .int n
  | .inr z => .str z
def dKeys (k : List Key) : PyData := .tuple (k.map dKey)
theorem dp_key {K : PySem.W.Frag} {H : Hp} : ∀ k : Key, Dp K H (kV k) (dKey k)
  | .inl n => .int n
  | .inr z => .str z
theorem dpall_keys {K : PySem.W.Frag} {H : Hp} : ∀ k : List Key, DpAll K H (k.map kV) (k.map dKey)
  | [] => .nil
  | x :: r => .cons (dp_key x) (dpall_keys r)
theorem dp_keys {K : PySem.W.Frag} {H : Hp} {T : Addr} {k : List Key} (h : SqT K H T (k.map kV)) : Dp K H (.ref T) (dKeys k) := .tup h (dpall_keys k)
theorem eqv_key (a b : Key) : PyData.eqv (dKey a) (dKey b) = decide (a = b) := by
  cases a with
  | inl n =>
    cases b with
    | inl m =>
      simp only [dKey, PyData.eqv]
      rw [Bool.eq_iff_iff]
      simp
    | inr z => simp [dKey, PyData.eqv]
  | inr n =>
    cases b with
    | inl m => simp [dKey, PyData.eqv]
    | inr z =>
      simp only [dKey, PyData.eqv]
      rw [Bool.eq_iff_iff]
      simp
theorem eqvAll_keys : ∀ a b : List Key, PyData.eqvAll (a.map dKey) (b.map dKey) = decide (a = b)
  | [], [] => by simp [PyData.eqvAll]
  | [], b :: bs => by simp [PyData.eqvAll]
  | a :: as, [] => by simp [PyData.eqvAll]
  | a :: as, b :: bs => by
    rw [List.map_cons, List.map_cons]
    simp only [PyData.eqvAll, eqv_key, eqvAll_keys as bs]
    by_cases h : a = b
    · subst h
      simp
    · simp [h]
theorem eqv_keys (a b : List Key) : PyData.eqv (dKeys a) (dKeys b) = decide (a = b) := by
  unfold dKeys
  simp only [PyData.eqv]
  exact eqvAll_keys a b
theorem any_keys (ks : List (List Key)) (k : List Key) : (ks.map dKeys).any (fun z => PyData.eqv z (dKeys k)) = ks.any fun x => decide (x = k) := by
  rw [List.any_map]
  congr 1
  funext x
  exact eqv_keys x k
/-! ### while -/
def nTurn (W : Nat → L2.St → Hp → Prop) (m : Nat) (tb : TS) (D : Ends) (b : Bool) (σ : L2.St) (H : Hp) : Prop :=
  if b = true then ∃ N : L2.St → Hp → Prop, (∀ σ' H', N σ' H' → ∃ m', m' < m ∧ W m' σ' H') ∧ tb { D with nx := N, ct := N, bk := D.nx } σ H else D.nx σ H
section
variable {c : TT} {tb : TS} {D : Ends} {σ : L2.St} {H : Hp} {W : Nat → L2.St → Hp → Prop} {m : Nat}
theorem k_while (W : Nat → L2.St → Hp → Prop) (h0 : ∃ m, W m σ H) (hs : ∀ m σ H, W m σ H → c σ H fun b H1 => nTurn W m tb D b σ H1) : tWhile c tb D σ H := ⟨W, h0, hs⟩
theorem k_turnT (h : tb { D with nx := fun σ' H' => ∃ m', m' < m ∧ W m' σ' H', ct := fun σ' H' => ∃ m', m' < m ∧ W m' σ' H', bk := D.nx } σ H) : nTurn W m tb D true σ H := by
  unfold nTurn
  rw [if_pos rfl]
  exact ⟨_, fun _ _ h => h, h⟩
theorem k_turnF (h : D.nx σ H) : nTurn W m tb D false σ H := h
theorem k_turnD {P : Prop} [Decidable P] (h1 : P → nTurn W m tb D true σ H) (h2 : ¬ P → nTurn W m tb D false σ H) : nTurn W m tb D (decide P) σ H := by
  by_cases e : P
  · rw [decide_eq_true e]
    exact h1 e
  · rw [decide_eq_false e]
    exact h2 e
theorem k_turnN {P : Prop} [Decidable P] (h1 : ¬ P → nTurn W m tb D true σ H) (h2 : P → nTurn W m tb D false σ H) : nTurn W m tb D (!decide P) σ H := by
  by_cases e : P
  · rw [decide_eq_true e]
    exact h2 e
  · rw [decide_eq_false e]
    exact h1 e
end
/-! ### slices by codes, of lists -/
theorem cutS_to (u : List Nat) (n : Int) (h : 0 ≤ n) : cutS (tx u) none (some n) = tx (u.take n.toNat) := by
  refine TL.ext_tl ?_
  obtain ⟨k, rfl⟩ : ∃ k : Nat, n = (k : Int) := ⟨n.toNat, by omega⟩
  rw [tl_cutS, HT.sIx_nat, tl_tx, tl_tx, len_tx]
  show (u.drop 0).take (min k u.length - 0) = _
  rw [List.drop_zero, Nat.sub_zero, Int.toNat_natCast, ← List.take_eq_take_min]
theorem cutS_from (u : List Nat) (n : Int) (h : 0 ≤ n) : cutS (tx u) (some n) none = tx (u.drop n.toNat) := by
  refine TL.ext_tl ?_
  obtain ⟨k, rfl⟩ : ∃ k : Nat, n = (k : Int) := ⟨n.toNat, by omega⟩
  rw [tl_cutS, HT.sIx_nat, tl_tx, tl_tx, len_tx]
  show (u.drop (min k u.length)).take (u.length - min k u.length) = _
  rw [Int.toNat_natCast, List.take_of_length_le (by rw [List.length_drop]; omega)]
  by_cases e : k ≤ u.length
  · rw [Nat.min_eq_left e]
  · rw [Nat.min_eq_right (by omega), List.drop_length, List.drop_of_length_le (by omega)]
theorem cutV_toI (xs : List V) (n : Int) (h : 0 ≤ n) : cutV xs none (some n) = xs.take n.toNat := by
  obtain ⟨k, rfl⟩ : ∃ k : Nat, n = (k : Int) := ⟨n.toNat, by omega⟩
  rw [cutV_to, Int.toNat_natCast]
theorem cutV_fromI (xs : List V) (n : Int) (h : 0 ≤ n) : cutV xs (some n) none = xs.drop n.toNat := by
  obtain ⟨k, rfl⟩ : ∃ k : Nat, n = (k : Int) := ⟨n.toNat, by omega⟩
  unfold cutV
  rw [HT.sIx_nat]
  show (xs.drop (min k xs.length)).take (xs.length - min k xs.length) = _
  rw [Int.toNat_natCast, List.take_of_length_le (by rw [List.length_drop]; omega)]
  by_cases e : k ≤ xs.length
  · rw [Nat.min_eq_left e]
  · rw [Nat.min_eq_right (by omega), List.drop_length, List.drop_of_length_le (by omega)]
theorem tx_app (u v : List Nat) : tx u ++ tx v = tx (u ++ v) := by
  show (⟨u.toArray ++ v.toArray⟩ : Str) = ⟨(u ++ v).toArray⟩
  congr 1
  simp
theorem tx_nil : (Str.ofString "" : Str) = tx [] := by decide +kernel
theorem tx_eq (u v : List Nat) : decide (tx u = tx v) = decide (u = v) := by
  by_cases h : u = v
  · rw [h, decide_eq_true rfl, decide_eq_true rfl]
  · rw [decide_eq_false h, decide_eq_false fun z => h (tx_inj z)]
/-! ### min, max of two -/
def rMax2 : List V → Hp → VK → Prop := fun xs H Q => ∃ i j, xs = [.int i, .int j] ∧ Q (.int (max i j)) H
def rMin2 : List V → Hp → VK → Prop := fun xs H Q => ∃ i j, xs = [.int i, .int j] ∧ Q (.int (min i j)) H
section
variable {X : Cx} {H : Hp} {Q : VK} {i j : Int}
theorem call_maxK (hc : X.calm = true := by rfl) : CallR X (.builtin "max") rMax2 := fun pins s σ H xs us Q I r h => call_max2 hc pins s σ H xs us Q I r (by
  obtain ⟨i, j, e, q⟩ := h
  refine ⟨i, j, e, ?_⟩
  rw [show (if j > i then j else i) = max i j by split <;> omega]
  exact q)
theorem call_minK (hc : X.calm = true := by rfl) : CallR X (.builtin "min") rMin2 := fun pins s σ H xs us Q I r h => call_min2 hc pins s σ H xs us Q I r (by
  obtain ⟨i, j, e, q⟩ := h
  refine ⟨i, j, e, ?_⟩
  rw [show (if j < i then j else i) = min i j by split <;> omega]
  exact q)
theorem k_min2 (h : Q (.int (min i j)) H) : rMin2 [.int i, .int j] H Q := ⟨i, j, rfl, h⟩
theorem k_max2 (h : Q (.int (max i j)) H) : rMax2 [.int i, .int j] H Q := ⟨i, j, rfl, h⟩
end
theorem u65 {k : Nat} {A : Around} (r : Room k A) : A.units + 65 < cLine := by
  have := r.un
  omega
/-! ### defs called with keywords -/
section
variable {X : Cx} {CX : CXT} {k j n m : Nat} {sp : Sp} {E : XK} {x : Str} {p pos : Pos} {e : Expr} {es : List Expr} {kws : List Keyword} {t tk : TA} {ks : List Str} {gV : List V → List V → List V} {σ : L2.St} {H : Hp} {Q : VK}
end
/-! ### two names at once; None -/
def nPar (i j : Nat) (vs : List V) (σ : L2.St) (H : Hp) (R : L2.St → Hp → Prop) : Prop := ∃ v w, vs = [v, w] ∧ R ((σ.set i (some v)).set j (some w)) H
section
variable {σ : L2.St} {H : Hp} {Q : VK} {D : Ends} {ta : TA} {i j : Nat} {v w : V} {R : L2.St → Hp → Prop} {p : Addr}
theorem k_par (h : ta σ H fun vs H1 => nPar i j vs σ H1 D.nx) : tPar i j ta D σ H := h
theorem k_nPar (h : R ((σ.set i (some v)).set j (some w)) H) : nPar i j [v, w] σ H R := ⟨v, w, rfl, h⟩
theorem k_ntNn (h : Q (.bl false) H) : rNotN .non .non H Q := ⟨rfl, h⟩
theorem k_ntNr (h : Q (.bl true) H) : rNotN (.ref p) .non H Q := ⟨rfl, h⟩
end
/-! ### data, in and out -/
section
variable {K : PySem.W.Frag} {H : Hp} {v : V} {d : PyData}
theorem dpall_app : ∀ {vs : List V} {ds : List PyData}, DpAll K H vs ds → Dp K H v d → DpAll K H (vs ++ [v]) (ds ++ [d])
  | _, _, .nil, h => .cons h .nil
  | _, _, .cons a r, h => .cons a (dpall_app r h)
theorem dpall_apps {ws : List V} {es : List PyData} : ∀ {vs : List V} {ds : List PyData}, DpAll K H vs ds → DpAll K H ws es → DpAll K H (vs ++ ws) (ds ++ es)
  | _, _, .nil, h => h
  | _, _, .cons a r, h => .cons a (dpall_apps r h)
theorem dp_tupI {ds : List PyData} (h : Dp K H v (.tuple ds)) : ∃ t ws, v = .ref t ∧ SqT K H t ws ∧ DpAll K H ws ds := by
  cases h with
  | tup h r => exact ⟨_, _, rfl, h, r⟩
theorem dp_strI {z : Str} (h : Dp K H v (.str z)) : v = .str z := by cases h; rfl
theorem dp_intI {n : Int} (h : Dp K H v (.int n)) : v = .int n := by cases h; rfl
theorem dp_tup2I {d1 d2 : PyData} (h : Dp K H v (.tuple [d1, d2])) : ∃ t x y, v = .ref t ∧ SqT K H t [x, y] ∧ Dp K H x d1 ∧ Dp K H y d2 := by
  obtain ⟨t, ws, e, h1, h2⟩ := dp_tupI h
  cases h2 with
  | cons a r =>
    cases r with
    | cons b r =>
      cases r
      exact ⟨t, _, _, e, h1, a, b⟩
theorem dpall_at {vs : List V} {ds : List PyData} {i : Nat} (h : DpAll K H vs ds) (e : ds[i]? = some d) : ∃ x, vs[i]? = some x ∧ Dp K H x d := by
  have hl := dpall_len h
  have hi : i < vs.length := by rw [hl]; exact (List.getElem?_eq_some_iff.mp e).1
  have ei : vs[i]? = some vs[i] := List.getElem?_eq_getElem hi
  obtain ⟨d', h1, h2⟩ := dpall_get h ei
  rw [e] at h1
  cases h1
  exact ⟨_, ei, h2⟩
end
/-! ### int of a bool, an int, a text -/
def rIntT : List V → Hp → VK → Prop := fun xs H Q => ∃ a n, xs = [.str a] ∧ PySem.intText? a = some n ∧ a.length ≤ 640 ∧ Q (.int n) H
def rIntU : List V → Hp → VK → Prop := fun xs H Q => ((∃ i, xs = [.int i] ∧ Q (.int i) H) ∨ ∃ k, xs = [.bl k] ∧ Q (.int (if k then 1 else 0)) H) ∨ rIntT xs H Q
theorem call_intU {X : Cx} : CallR X (.type "int") rIntU := CallR.or call_int1 call_int_str
theorem k_intB {H : Hp} {Q : VK} {b : Bool} (h : Q (.int (if b then 1 else 0)) H) : rIntU [.bl b] H Q := .inl (.inr ⟨b, rfl, h⟩)
/-! ### exceptions of the text with their word alone -/
abbrev veT : List Value := [.type "ValueError", .type "Exception", .type "BaseException", .type "object"]
theorem bsf_value : Bsf "ValueError" "ValueError.__new__" "ValueError.__init__" veT := ⟨PySem.F.excBase_ValueError, PySem.F.store_ValueError.passes, by decide +kernel, rfl⟩
theorem refs_ex : ∀ {l : List Value}, PySem.HandSPX.refsVE l = true → ∃ cs : List Addr, l = cs.map Value.ref ++ veT := by
  intro l
  induction l with
  | nil => intro h; exact absurd h (by decide)
  | cons a r ih =>
    intro h
    rcases PySem.HandSPX.refsVE_cases (a :: r) h with ⟨c, r', e, h2⟩ | e
    · obtain ⟨rfl, rfl⟩ := List.cons.inj e
      obtain ⟨cs, e⟩ := ih h2
      exact ⟨c :: cs, by rw [e]; rfl⟩
    · exact ⟨[], e⟩
theorem oexG_of {K : PySem.W.Frag} {C : Addr} (T : OexC K C) : OexG K C "ValueError.__new__" veT := by
  obtain ⟨nm, q, N, bs, bm, sn, sub, ab, col, dd, k0, k1, k2, k3, k5, hC, hb⟩ := T.cls
  obtain ⟨cs, rfl⟩ := refs_ex hb
  exact ⟨⟨nm, q, N, bs, cs, sn, sub, ab, col, dd, k0, k1, k2, k3, k5, hC⟩, T.sa, T.exC, T.tyC, T.kC⟩
theorem pmk_oexG0 {X : Cx} {x : Str} {p pos : Pos} {tl : List Value} {B newId initId : String} {CX : CXT} {C fI : Addr} {k : Nat} {fd : FuncData} {ps : List Str} {sp : Sp} (b : Bsf B newId initId tl) (T : OexG X.K C newId tl) (iC : PySem.W.findIn X.K (.ref C) "__init__" = some (some (.ref fI))) (tI : PySem.W.typeIn X.K (.ref fI) = some (.type "function"))
    (F1 : FnOk X.prog X.w X.K X.mg X.base CX k fI fd ps sp) (hr : Room (k + 1) X.A) (hb : Binds X.K fd ps []) (hx : Passes CX X (fun _ _ _ => False)) (hg : Gl X x) (hm : X.mg x = some (.ref C)) (hdb : (x == ("__debug__" : Str)) = false := by decide) : PMk X (.Call (.Name x p) [] [] pos) (tMkO C sp [] tNil) := by
  intro pins s σ H Q I h
  obtain ⟨nm, q, N, bs, cs, sn, sub, ab, col, dd, k0, k1, k2, k3, k5, hC⟩ := T.cls
  obtain ⟨hz, q1⟩ := h
  refine wpAny_Call_Name_kw (ld_glob I hg hm (PySem.W.callWith_K0 I.kIn T.kC ?_) hdb)
  show wpAny _ _ (call (.ref C) []) _ _ _
  obtain ⟨hp, g, dr, tk, os⟩ := s
  have hn : H (hp.objs.size + 1) = none := I.hok.fresh (Nat.le_succ _)
  have hq := q1 (hp.objs.size + 1) hn
  have kk : ∀ b o, hp.get? b = some o → ((hp.push (PySem.W.kdv_tup [])).push (PySem.HandSPX.excO C hp.objs.size)).get? b = some o := fun b o z => Heap.get?_push_of_some _ (Heap.get?_push_of_some _ z)
  have I2 := I.laid (t' := tk) (a := hp.objs.size + 1) (o := exo (hp.objs.size + 1) C none) (h' := (hp.push (PySem.W.kdv_tup [])).push (PySem.HandSPX.excO C hp.objs.size)) kk (Nat.le_succ _) (exo_ok (t1 := hp.objs.size) (by heap_get))
  have r2 : Vals [V.ref (hp.objs.size + 1)] [Value.ref (hp.objs.size + 1)] := .cons rfl .nil
  have l2 : [Value.ref (hp.objs.size + 1)].length = ps.length := r2.length.symm.trans (F1.len _ _ _ _ hq)
  have b2 := hb _ [Value.ref (hp.objs.size + 1)] I2.kIn (by rw [List.append_nil]; exact l2)
  rw [List.append_nil] at b2
  refine wpAny_call (PySem.HandSPX.call_own b.F (fun Y => line_has Y cs) (I.kIn _ _ hC) (PySem.W.looks_findIn I.kIn iC) (fun self => PySem.W.bind_fn I.kIn self tI) (Nat.zero_le _) (codeAny_mono (F1.run _ X.stack _ _ _ _ _ _ _ (hr.make C [] []) (I2.env0.make C [] []) b2 r2 hq) fun r s' hq' => ?_))
  cases r with
  | error er => exact hx pins σ _ _ er s' I2 hq'
  | ok fl =>
    cases fl with
    | ret u =>
      obtain ⟨v, H2, os2, bare2, un2, hok2, rv, ev, d, fs, ea, ed, hd1, q2⟩ := hq'
      subst ev
      obtain ⟨h2, g2, d2, t2, os'⟩ := s'
      exact ⟨rv, mk_end (raises_own T.exC T.tyC) I (Nat.le_succ _) kk un2 hok2 os2 bare2 ea ed hd1 q2⟩
    | _ => exact False.elim hq'
def spX0 (C : Addr) (nm : Str) : Sp := fun vs H Q _ => ∃ a : Addr, vs = [.ref a] ∧ H a = some (exo a C none) ∧ ∀ d H', H d = none → d ≠ a → H' = upd (upd H d (exd d [("word", .str nm)])) a (exo a C (some d)) → Q .non H'
structure XCls0 (P : Program) (w : World) (K : PySem.W.Frag) (mg : Str → Option Value) (base : Heap) (x : Str) (k : Nat) (nm : Str) : Prop where
  gC : mg x = some (.ref (He.ga K x))
  O : Oex K (He.ga K x) (He.ma K (He.ga K x) "__init__")
  nw : PySem.W.findIn K (.ref (He.ga K x)) "word" = some none
  F : ∃ fd ps, FnOk P w K mg base CX0 k (He.ma K (He.ga K x) "__init__") fd ps (spX0 (He.ga K x) nm) ∧ Binds K fd ps []
theorem pmk_x0 {X : Cx} {x nm : Str} {k j : Nat} {p pos : Pos} {K : PySem.W.Frag} (c : XCls0 X.prog X.w K X.mg X.base x k nm) (hr : Room j X.A) (hx : ∀ E, Passes CX0 X E := by exact fun _ => fun _ _ _ _ _ _ _ h => h.elim) (hK : X.K = K := by rfl) (hj : k + 1 ≤ j := by first | decide | omega) (hg : Gl X x := by rfl) (hdb : (x == ("__debug__" : Str)) = false := by decide) :
    PMk X (.Call (.Name x p) [] [] pos) (tMkO (He.ga K x) (spX0 (He.ga K x) nm) [] tNil) := by
  subst hK
  obtain ⟨fd, ps, F1, hb⟩ := c.F
  exact pmk_oexG0 bsf_value (oexG_of c.O.T) c.O.iC c.O.tI F1 (hr.mono hj) hb (hx _) hg c.gC hdb
theorem x0_read {K : PySem.W.Frag} {C : Addr} {nm : Str} (T : OexC K C) (nw : PySem.W.findIn K (.ref C) "word" = some none) {vs : List V} {H : Hp} {Q : VK} {E : XK} (h : spX0 C nm vs H Q E) {N : List Str} (hN : N.length = 1) :
    tOst K "word" (tVar 0) (tC (.str nm)) { nx := fun _ H' => Q .non H', rt := Q } (L2.start N vs) H := by
  obtain ⟨a, rfl, ha, q⟩ := h
  have es : L2.start N [.ref a] = [some (.ref a)] := by
    unfold L2.start
    rw [hN]
    rfl
  rw [es]
  exact ⟨_, rfl, a, C, rfl, T, nw, .inl ⟨ha, fun d hd ne => q d _ hd ne rfl⟩⟩
theorem k_x0 {C : Addr} {nm : Str} {H1 : Hp} {Q : XK} (h : ∀ d H', H1 d = none → Same H1 H' → H' d = some (.xd [("word", .str nm)]) → Q (.ref C) (some d) H') : nMk C (spX0 C nm) [] [] H1 Q := by
  refine ⟨Nat.zero_le _, fun a ha => ⟨a, rfl, upd_same, fun d H' hd ne e => ?_⟩⟩
  have hd1 : H1 d = none := by
    rw [upd_ne ne] at hd
    exact hd
  refine ⟨rfl, d, [("word", .str nm)], by rw [e, upd_same], by rw [e, upd_ne ne, upd_same], hd1, h d _ hd1 (fun b o hb => ?_) upd_same⟩
  have hba : b ≠ a := ne_of_none hb ha
  have hbd : b ≠ d := ne_of_none hb hd1
  rw [upd_ne hbd, del_ne hba, e, upd_ne hba, upd_ne hbd, upd_ne hba]
  exact hb
/-! ### isinstance(x, str) -/
def isStrD : PyData → Bool
  | .str _ => true
  | _ => false
theorem isi_str {K : PySem.W.Frag} {d : PyData} (nd : ∀ kvs, d ≠ .dict kvs) : PySem.W.kitOne K (.type (tyD d)) (.type "str") = some (isStrD d) := by
  cases d with
  | none => exact kit_ty (show kitB "NoneType" "str" = some false by decide +kernel)
  | bool b => exact kit_ty (show kitB "bool" "str" = some false by decide +kernel)
  | int b => exact kit_ty (show kitB "int" "str" = some false by decide +kernel)
  | str b => exact kit_ty (show kitB "str" "str" = some true by decide +kernel)
  | list b => exact kit_ty (show kitB "list" "str" = some false by decide +kernel)
  | tuple b => exact kit_ty (show kitB "tuple" "str" = some false by decide +kernel)
  | dict kvs => exact absurd rfl (nd kvs)
theorem k_isiS {K : PySem.W.Frag} {H : Hp} {Q : VK} {x : V} {d : PyData} (h : Dp K H x d) (q : Q (.bl (isStrD d)) H) : rIsiU K [x, .ty "str"] H Q := .inr ⟨x, _, _, _, _, rfl, .ty _, dp_ty h, isi_str (dp_nd h), q⟩
section
variable {X : Cx} (K : PySem.W.Frag)
theorem cr_maxK (hc : X.calm = true := by rfl) (hK : X.K = K := by rfl) : CallR X (.builtin "max") (rMax K) := by subst hK; exact cr_max hc
end
theorem k_max {K : PySem.W.Frag} {H : Hp} {Q : VK} {a : Addr} {ns : List Int} (h : SqL K H a (ns.map V.int)) (h0 : 0 < ns.length) (q : ∀ m, m ∈ ns → (∀ y, y ∈ ns → y ≤ m) → Q (.int m) H) : rMax K [.ref a] H Q := ⟨a, ns, rfl, h, h0, q⟩
end Gk
set_option Elab.async false
set_option autoImplicit false
set_option linter.all false
set_option maxRecDepth 100000
set_option maxHeartbeats 4000000
/-! # enumerate over tuples, rows that are lists or tuples -/
namespace PySem
set_option maxHeartbeats 4000000 in
theorem meets_enumB {v : Value} {o : Obj} {H : Heap → Prop} (B : Begins v o H) :
    Meets (Builtin.«enumerate.__new__» ⟨[.type "enumerate", v], []⟩) (fun _ R s => H s.heap ∧
      R (.ok (.ret (.ref (s.heap.push o).objs.size))) { s with heap := (s.heap.push o).push { cls := .type "enumerate", data := .fields #[.none, .bool false, .ref s.heap.objs.size, rawInt 0, .none, .none] } }) :=
  .of_wp fun prog w A R s hh => by
    obtain ⟨hp, g, d, tk, os⟩ := s
    obtain ⟨h1, h2⟩ := hh
    have hs := sub_enumerate
    have qq : ∀ {A' : Around} {E : Value → Shared → Prop} {Q : Value → Shared → Prop}, Q (.ref hp.objs.size) ⟨hp.push o, g, d, tk, os⟩ → wpAny (model prog w) A' (pyIter v) Q E ⟨hp, g, d, tk, os⟩ := fun q => B.iter prog w _ _ ⟨hp, g, d, tk, os⟩ _ h1 q
    wp_walk using qq
    refine wpAny_stack_any fun sk => wpAny_pure ?_
    split
    · rename_i c _ _ _ _ _
      cases (c == Value.type "enumerate") <;> (wp_walk using qq; exact ⟨_, rfl, h2⟩)
    · wp_walk using qq
      exact ⟨_, rfl, h2⟩
theorem call_enumB {prog : Program} {w : World} {A : Around} {E : Value → Shared → Prop} {s : Shared} {v : Value} {o : Obj} {H : Heap → Prop} {Q : Value → Shared → Prop} (B : Begins v o H) (h1 : H s.heap)
    (h : ∀ h', IsEnum h' (s.heap.objs.size + 1) s.heap.objs.size 0 .none → h'.get? s.heap.objs.size = some o → h'.objs.size = s.heap.objs.size + 2 → (∀ b o, s.heap.get? b = some o → h'.get? b = some o) → Q (.ref (s.heap.objs.size + 1)) { s with heap := h' }) :
    wpAny (model prog w) A (call (.type "enumerate") [v]) Q E s := by
  refine callType_new F.called_enumerate (by decide) (F.typeCall_enumerate_1 _) (F.newCall_enumerate_1 _) (fun obj => F.args_object_init_2 obj _) F.entry_enumerate_new (meets_enumB B) ⟨h1, ?_⟩
  have z1 : (s.heap.push o).objs.size = s.heap.objs.size + 1 := Heap.size_push ..
  show _ ∧ _
  rw [z1]
  have z2 := Heap.get?_push_size (s.heap.push o) (o := { cls := .type "enumerate", data := .fields #[.none, .bool false, .ref s.heap.objs.size, rawInt 0, .none, .none] }) rfl
  rw [z1] at z2
  exact ⟨⟨_, z2, rfl⟩, h _ z2 (Heap.get?_push_of_some _ (Heap.get?_push_size _ B.free)) (by rw [Heap.size_push, z1]) fun b o x => Heap.get?_push_of_some _ (Heap.get?_push_of_some _ x)⟩
end PySem
namespace Gk
open PySem PySem.Spec PyProof.Rows L2
def IteT (K : PySem.W.Frag) (a : Addr) : It :=
  ⟨fun i H => ∃ (xs : List V) (x : V), SqT K H a xs ∧ xs[i]? = some x, fun i H v H' => ∃ T x, v = .ref T ∧ H T = none ∧ H' = upd H T (.tup [.int (i : Nat), x]) ∧ ∀ xs, SqT K H a xs → xs[i]? = some x, fun i H => ∃ xs : List V, SqT K H a xs ∧ xs.length ≤ i⟩
theorem turn_enumT {P : Program} {w : World} {K : PySem.W.Frag} {elts : List Expr} {kk : Nat} {tpos : Pos} (a e it : Addr) :
    Turn P w K (.Tuple elts kk tpos) (IteT K a) [e, it] e (fun i h => (∃ old, IsEnum h e it ((i : Nat) : Int) old) ∧ h.IsTupleIter it a i ∧ e ≠ it ∧ e ≠ a ∧ a ≠ it) where
  mem := by simp
  obj := fun i h st b hb => by
    obtain ⟨⟨old, he⟩, ⟨o, ho, hc, hd⟩, _⟩ := st
    rcases (show b = e ∨ b = it by simpa using hb) with z | z
    · exact z ▸ ⟨_, he, fun v q => nomatch q⟩
    · exact z ▸ ⟨o, ho, fun v q => by rw [hd] at q; cases q⟩
  keep := fun i h h' st k => let ⟨⟨old, he⟩, hi, hne⟩ := st; ⟨⟨old, k e (by simp) _ he⟩, hi.at fun o q => k it (by simp) o q, hne⟩
  item := by
    intro X hP hw hK hc i pins s σ H E I hf st hg
    subst hP hw hK
    obtain ⟨⟨old, he⟩, hit, hne, hea, hai⟩ := st
    obtain ⟨xs, x, hq, hx⟩ := hg
    obtain ⟨its, rv, p, hz⟩ := I.tuple hq
    obtain ⟨u, hu, ru⟩ := rv.get hx
    have hel : e < s.heap.objs.size := Heap.lt_size he
    have hil : it < s.heap.objs.size := by obtain ⟨_, q, _⟩ := hit; exact Heap.lt_size q
    have hi : i < its.toArray.size := by
      have := (List.getElem?_eq_some_iff.mp hu).1
      simpa using this
    refine wpAny_pyNext_enum_itemD (Draws.tuple (A := X.A.in1) (I.ok.hd hc) it a hai its.toArray) he ⟨hit, p⟩ hi hne (fun m => by rcases List.mem_cons.mp m with m | m; exact hne m; exact hea (List.mem_singleton.mp m)) fun x' h' tk hx' ho hst' hT hsz hk => ?_
    have ex : x' = u := by
      have h1 : its[i]? = some x' := by simpa using hx'
      rw [hu] at h1
      exact (Option.some.inj h1).symm
    subst ex
    refine ⟨_, rfl, wpAny_letOwnedTupleGo_enum (s := { s with heap := h', toks := tk + 1 }) ho fun h2 he' sb => ?_⟩
    have hT2 : h2.get? s.heap.objs.size = some { cls := .type "tuple", data := .seq #[.int i tk, x'] } := (sb.2 _ (Nat.ne_of_gt hel)).trans hT
    have new : ObjOk X.prog X.w (upd H s.heap.objs.size (.tup [.int (i : Nat), x])) h2 s.heap.objs.size (.tup [.int (i : Nat), x]) :=
      ⟨by show 2 ≤ sizeLine; decide, [.int i tk, x'], .cons ⟨_, rfl⟩ (.cons ru .nil), ⟨_, hT2, rfl, _, rfl⟩⟩
    have I1 : Inv X pins σ (upd H s.heap.objs.size (.tup [.int (i : Nat), x])) { s with heap := h2, toks := tk + 1 } :=
      I.turnedNew (ch := [e, it]) (fun b ob hb q => (sb.2 b (fun z => hb (by simp [z]))).trans (hk b ob (fun z => hb (by simp [z])) (fun z => hb (by simp [z])) q)) hf (Nat.le_refl _) new
    refine ⟨.ref s.heap.objs.size, _, I1, rfl, ⟨_, x, rfl, I.hok.fresh (Nat.le_refl _), rfl, fun ys hy => by rw [I.tuple_inj hy hq]; exact hx⟩, ⟨⟨x', ?_⟩, hst'.1.at fun o q => (sb.2 it (Ne.symm hne)).trans q, hne, hea, hai⟩, fun b hb => ?_⟩
    · rw [show ((i + 1 : Nat) : Int) = (i : Int) + 1 by omega]
      exact he'
    · have hb' : b < s.heap.objs.size := by
        rcases (show b = e ∨ b = it by simpa using hb) with z | z
        · exact z ▸ hel
        · exact z ▸ hil
      rw [upd_ne (Nat.ne_of_lt hb')]
      exact (hf b hb).1
  done := by
    intro X hP hw hK hc i pins s σ H E I hf st hg
    subst hP hw hK
    obtain ⟨⟨old, he⟩, hit, hne, hea, hai⟩ := st
    obtain ⟨xs, hq, hx⟩ := hg
    obtain ⟨its, rv, p, hz⟩ := I.tuple hq
    obtain ⟨f0, f1, f2, f3, f4, f5⟩ := hf it (by simp)
    have hl := rv.length
    have D : Draws X.prog X.w X.A.in1 it [it, a] i (fun _ _ => True) (fun j h => j = i ∧ h.IsTupleIter it a i ∧ h.IsTuple a its.toArray) :=
      { live := fun _ _ st => let ⟨o, ho, _⟩ := st.2.1; ⟨o, ho⟩
        frame := fun _ _ _ st hk => ⟨st.1, st.2.1.at fun o e => hk it (by simp) o e, st.2.2.at fun o e => hk a (by simp) o e⟩
        item := fun j s' Q' E' hj st' _ => absurd st'.1 (Nat.ne_of_lt hj)
        done := fun s' Q' E' st' hE => wpAny_nextOf_tuple_end (I.ok.hd hc) st'.2.1 st'.2.2 (by simp; omega) hE }
    exact wpAny_pyNext_enum_endD D he ⟨rfl, hit, p⟩ fun h' eb => ⟨rfl, I.turned (t' := s.toks) (fun b o hb q => eb b o hb q) f0 f1 f3 f4 f5⟩
  self := fun A i s Q E st h => let ⟨⟨_, he⟩, _⟩ := st; wpAny_pyIter_enum he h
end Gk
namespace Gk
open PySem PySem.Spec PyProof.Rows L2
/-! ## lists and tuples alike -/
def SqB (K : PySem.W.Frag) (t : Bool) (H : Hp) (a : Addr) (xs : List V) : Prop := match t with
  | true => SqT K H a xs
  | false => SqL K H a xs
theorem sm_b {K : PySem.W.Frag} {t : Bool} {H H' : Hp} {a : Addr} {xs : List V} (e : Same H H') (h : SqB K t H a xs) : SqB K t H' a xs := match t, h with
  | true, h => sm_t e h
  | false, h => sm_l e h
def IteB (K : PySem.W.Frag) (t : Bool) (a : Addr) : It := match t with
  | true => IteT K a
  | false => Ite K a
theorem walk_enumB {K : PySem.W.Frag} {t : Bool} {a : Addr} {xs : List V} : Walk (IteB K t a) xs.length (fun H => SqB K t H a xs) (YPair (fun i => some (.int (i : Nat))) (fun i => xs[i]?)) := by
  cases t with
  | false => exact walk_enum
  | true =>
    refine ⟨fun i _ hi q => ⟨xs, xs[i], q, by simp [hi]⟩, fun _ q => ⟨xs, q, Nat.le_refl _⟩, fun i H v H' _ q y => ?_⟩
    obtain ⟨T, x, h1, h2, h3, h4⟩ := y
    exact ⟨T, .int (i : Nat), x, h1, h2, h3, rfl, h4 xs q⟩
def nIteB (K : PySem.W.Frag) (vs : List V) (R : It → Hp → Prop) (H : Hp) : Prop := ∃ t a xs, vs = [.ref a] ∧ SqB K t H a xs ∧ R (IteB K t a) H
def iEnumB (K : PySem.W.Frag) (ta : TA) : TI := fun σ H R => ta σ H fun vs H1 => nIteB K vs R H1
theorem pi_enumB {X : Cx} {K : PySem.W.Frag} {e : Expr} {ta : TA} {p pos tpos : Pos} {elts : List Expr} {kk : Nat} (hg : Gl X "enumerate") (hm : X.mg "enumerate" = none) (ha : PA X [e] ta) (hK : X.K = K := by rfl) (hs : starEach [e] X.env = [(false, eval e X.env)] := by rfl) :
    PI X (.Tuple elts kk tpos) (.Call (.Name "enumerate" p) [e] [] pos) (iEnumB K ta) := by
  subst hK
  refine ⟨fun pins s σ H R I h => ?_⟩
  refine Call_ (ld_blt I hg hm boot_enumerate (PyProof.Rows.callWith_type1 (thn (ha.run pos pins s σ H _ I h) fun us s1 ⟨vs, H1, I1, r1, q1⟩ => ?_) hs rfl))
  obtain ⟨t, a, xs, ex, hq, q⟩ := q1
  subst ex
  have far : ∀ b, b ∈ [s1.heap.objs.size + 1, s1.heap.objs.size] → s1.heap.objs.size ≤ b := fun b hb => by
    have e' : b = s1.heap.objs.size + 1 ∨ b = s1.heap.objs.size := by simpa using hb
    rcases e' with z | z
    · rw [z]; exact Nat.le_add_right _ _
    · rw [z]; exact Nat.le_refl _
  cases r1 with
  | cons r rr =>
    cases rr
    cases r
    cases t with
    | false =>
      obtain ⟨its, rv, p', hz⟩ := I1.list hq
      refine call_enumerate_list p'.isList fun h' he hit hsz hk => wpAny_pyIter_enum he ?_
      have I2 : Inv X pins σ H1 { s1 with heap := h' } := I1.kept (t' := s1.toks) hk
      exact ⟨s1.heap.objs.size + 1, [s1.heap.objs.size + 1, s1.heap.objs.size], _, _, H1, rfl, I2, turn_enum a (s1.heap.objs.size + 1) s1.heap.objs.size, ⟨⟨.none, he⟩, hit, Nat.succ_ne_self _⟩, fun b hb => I1.fpOk (far b hb) (I1.hok.fresh (far b hb)), q⟩
    | true =>
      obtain ⟨its, rv, p', hz⟩ := I1.tuple hq
      have al : a < s1.heap.objs.size := by obtain ⟨_, q, _⟩ := id p'; exact Heap.lt_size q
      refine call_enumB (begins_tuple a its.toArray) p' fun h' he hit hsz hk => wpAny_pyIter_enum he ?_
      have I2 : Inv X pins σ H1 { s1 with heap := h' } := I1.kept (t' := s1.toks) hk
      exact ⟨s1.heap.objs.size + 1, [s1.heap.objs.size + 1, s1.heap.objs.size], _, _, H1, rfl, I2, turn_enumT a (s1.heap.objs.size + 1) s1.heap.objs.size, ⟨⟨.none, he⟩, ⟨_, hit, rfl, rfl⟩, Nat.succ_ne_self _, Nat.ne_of_gt (Nat.lt_succ_of_lt al), Nat.ne_of_lt al⟩, fun b hb => I1.fpOk (far b hb) (I1.hok.fresh (far b hb)), q⟩
section
variable {K : PySem.W.Frag} {σ : L2.St} {H : Hp} {Q : VK} {tA : TA} {R : It → Hp → Prop} {t : Bool} {a : Addr} {xs : List V}
theorem k_iteB (h : tA σ H fun vs H1 => nIteB K vs R H1) : iEnumB K tA σ H R := h
theorem k_nIteB (hx : SqB K t H a xs) (h : R (IteB K t a) H) : nIteB K [.ref a] R H := ⟨t, a, xs, rfl, hx, h⟩
theorem k_sl_t {lo hi : Option Int} (hx : SqT K H a xs) (h : ∀ p H2, Same H H2 → SqT K H2 p (cutV xs lo hi) → Q (.ref p) H2) : rSlU K (.ref a) lo hi H Q := by
  refine .inr (.inr ⟨a, xs, rfl, hx, fun hw => ?_, fun _ p hp => h p _ (sm_new hp) (sq_t upd_same)⟩)
  refine h a H (Same.refl _) ?_
  have e : cutV xs lo hi = xs := by
    unfold cutV
    rw [hw.1, hw.2, List.drop_zero, Nat.sub_zero, List.take_length]
  rw [e]
  exact hx
theorem k_sl_b {lo hi : Option Int} (hx : SqB K t H a xs) (h : ∀ p H2, Same H H2 → SqB K t H2 p (cutV xs lo hi) → Q (.ref p) H2) : rSlU K (.ref a) lo hi H Q := match t, hx, h with
  | true, hx, h => k_sl_t hx h
  | false, hx, h => k_sl_l hx fun p H2 _ s e => h p H2 s (sq_l e)
theorem k_len_b (hx : SqB K t H a xs) (h : Q (.int xs.length) H) : rLenU K [.ref a] H Q := match t, hx with
  | true, hx => k_len_t hx h
  | false, hx => k_len_l hx h
theorem k_list_b (hx : SqB K t H a xs) (h : ∀ p H2, H p = none → Same H H2 → H2 p = some (.lst xs) → Q (.ref p) H2) : rListU K [.ref a] H Q := match t, hx with
  | true, hx => k_list_t hx h
  | false, hx => k_list_l hx h
end
end Gk
namespace Gk
open PySem PySem.Spec PyProof.Rows L2
/-! ## l.clear(), text * int, list * int -/
section
variable {X : Cx} {K : PySem.W.Frag}
def rMulS : R2 := fun x y H Q => ∃ z n, x = .str z ∧ y = .int n ∧ 2 ≤ n ∧ n ≤ 1000 ∧ z.length ≤ 1000 ∧ Q (.str (Txt.mul z n)) H
theorem op_mulS : OpR X (binaryOp .Mult) rMulS := by
  intro pins s σ H x y v u Q I rx ry h
  obtain ⟨z, n, rfl, rfl, h1, h2, h3, q⟩ := h
  obtain ⟨t, rfl⟩ := rx
  obtain ⟨t', rfl⟩ := ry
  refine SB.mul ⟨?_, fun _ _ => ?_, fun _ _ => ?_⟩ (fun t' k => ⟨.str (Txt.mul z n), H, I.tok _, ⟨_, rfl⟩, q⟩)
  · rw [decide_eq_false (by omega), decide_eq_false (by omega)]
    rfl
  · have : (z.length : Int) ≤ (2 ^ 63 - 1) / n := by
      refine Int.le_ediv_of_mul_le (by omega) ?_
      have h4 : (z.length : Int) * n ≤ 1000 * 1000 := Int.mul_le_mul (by omega) h2 (by omega) (by decide)
      exact Int.le_trans h4 (by decide)
    omega
  · unfold Builtin.Str.tooLong
    refine decide_eq_false ?_
    have h4 : z.length * n.toNat ≤ 1000 * 1000 := Nat.mul_le_mul h3 (by omega)
    have h5 : (1000 * 1000 : Nat) ≤ sizeLine := by decide
    omega
theorem k_mulS {H : Hp} {Q : VK} {z : Str} {n : Int} (h1 : 2 ≤ n ∧ n ≤ 1000) (h3 : z.length ≤ 1000) (q : Q (.str (Txt.mul z n)) H) : rMulS (.str z) (.int n) H Q := ⟨z, n, rfl, rfl, h1.1, h1.2, h3, q⟩
theorem k_rep {H : Hp} {Q : VK} {a : Addr} {xs : List V} {n : Int} (ha : H a = some (.lst xs)) (h1 : -1000 ≤ n ∧ n ≤ 1000) (h2 : xs.length ≤ 100) (q : ∀ p H', H p = none → Same H H' → H' p = some (.lst (List.replicate n.toNat xs).flatten) → Q (.ref p) H') : rRep (.ref a) (.int n) H Q := by
  refine ⟨a, n, xs, rfl, rfl, ha, by omega, by omega, ?_, fun p hp => q p _ hp (sm_new hp) upd_same⟩
  have h4 : xs.length * n.toNat ≤ 100 * 1000 := Nat.mul_le_mul h2 (by omega)
  have h5 : (100 * 1000 : Nat) ≤ sizeLine := by decide
  omega
theorem rep_one {α : Type} (x : α) : ∀ n : Nat, (List.replicate n [x]).flatten = List.replicate n x
  | 0 => rfl
  | n + 1 => by rw [List.replicate_succ, List.flatten_cons, rep_one x n, List.replicate_succ]; rfl
end
end Gk
namespace Gk
open PySem PySem.Spec PyProof.Rows L2
/-! ## list(range(a, b)) -/
end Gk
set_option Elab.async false
set_option autoImplicit false
set_option linter.all false
set_option maxRecDepth 100000
set_option maxHeartbeats 4000000
/-! # lambdas without parameters, handed to a def that calls them; a Hook that tells empty tables -/
namespace Gk
open PySem PySem.Spec PyProof.Rows L2 LamX
/-! ## the Hook -/
end Gk
namespace Gk
open PySem PySem.Spec PyProof.Rows L2 LamX
section
variable {X : Cx} {pins : List (Addr × Obj)} {σ : L2.St} {H : Hp} {s : Shared}
/-- x(), in the def that got the lambda; what it raises is wished for at the caller's slots -/
theorem pe_actS {CXg : CXT} {Eg : XK} {Ng : List Str} {qg : Str} {sg : Scope} {g f c' : Addr} {cdg pm ctv : Value} {params : Arguments} {body : Expr} {scope : Scope} {k i : Nat} {a : Str} {pn : List (Addr × Obj)} {xe : Value → Shared → Prop} {W : WX} {tb : XK → TE} {p1 p2 : Pos}
    (I : Inv X pins σ H s) (L : LamS X.env.scope scope) (hf : s.heap.get? f = some (PySem.W.kla_obj "<lambda>" (X.env.qual ++ "<lambda>") params body scope (cloFrom X.env.cells scope.names []) pm c' ctv)) (hfn : H f = none) (hfr : f ∉ frs X.stack)
    (hbind : bindArgs (PySem.W.kla_fn "<lambda>" (X.env.qual ++ "<lambda>") params body scope (cloFrom X.env.cells scope.names []) pm (.ref c') ctv) ⟨[], []⟩ = pure [])
    (tk : Takes ((cxOf CXg X.prog X.w X.K X.mg X.base Ng qg sg g cdg X.A X.stack s H Eg).tr pn xe) W) (hr : Room (k + 1) (X.A.deeper (envOfC qg sg s.heap.objs.size g cdg)))
    (hbody : ∀ (E : XK) (A : Around) (outer : List Env) (s : Shared) (H : Hp), Room k (A.deeper (lamEnv X scope s.heap.objs.size f c')) → PE (lamCx X A outer s H E scope f c') body (tb E))
    (hN : Ng[i]? = some a) (hv : Vis sg a) (hd : (a == ("__debug__" : Str)) = false := by decide) (hcd : (a == ("__classdict__" : Str)) = false := by decide) :
    PE ((cxOf CXg X.prog X.w X.K X.mg X.base Ng qg sg g cdg X.A X.stack s H Eg).tr pn xe) (.Call (.Name a p1) [] [] p2)
      (fun σZ HZ Q => σZ[i]? = some (some (.ref f)) ∧ HZ c' = some (CodeO c' (X.env.qual ++ "<lambda>")) ∧ ∃ (E : XK) (Q' : VK), (∀ cls d H', E cls d H' → W cls d σZ H') ∧ (∀ v H', Q' v H' → Q v H') ∧ tb E σ HZ Q') := by
  refine ⟨fun pinsZ sZ σZ HZ Q IZ h => ?_⟩
  obtain ⟨hs, hc, E, Q', hE, hQ, ht⟩ := h
  refine wpAny_Call_Name_kw (thn ((pe_var (pos := p1) (i := i) hN hv hd hcd).run pinsZ sZ σZ HZ (fun v H1 => v = .ref f ∧ H1 = HZ) IZ ⟨.ref f, hs, rfl, rfl⟩) fun u s1 ⟨v, H1, I1, r1, q1⟩ => ?_)
  obtain ⟨ev, eH⟩ := q1
  subst ev
  rw [eH] at I1
  obtain rfl : u = Value.ref f := r1
  have of1 : s1.heap.get? f = some (PySem.W.kla_obj "<lambda>" (X.env.qual ++ "<lambda>") params body scope (cloFrom X.env.cells scope.names []) pm c' ctv) := I1.base.keep f _ hf hfn hfr (fun z => nomatch (show f ∈ ([] : List Addr) from z))
  refine PySem.W.callWith_F0 ⟨_, _, _, _, of1⟩ ?_
  have un : Un (frs X.stack) [] H HZ s.heap s1.heap := I1.base
  obtain ⟨⟨oc, vs, t, hoc, hdc, hvc⟩, _, _⟩ := I1.hok c' _ hc
  have rc : codeAny (model X.prog X.w) (X.A.deeper (envOfC qg sg s.heap.objs.size g cdg)) (.call (.ref f) ⟨[], []⟩) (CR (L2.CX X.prog X.w) (envOfC qg sg s.heap.objs.size g cdg :: X.stack) X.prog X.w HZ s1 Q' E) s1 := by
    refine PySem.W.kla_callFunE hr.depth of1 rfl L.co L.gen rfl ⟨c', oc, vs, t, rfl, hoc, hdc, hvc⟩ ?_
    rw [hbind]
    refine wpAny_pure (wpAny_newFunctionEnv (fun y hy => (L.own y hy).2) (fun y hy => absurd hy (by simp)) (fun h₁ hns hsb => ⟨I1.nolimit.fresh _ hsb, ?_⟩) L.kind)
    show codeAny _ _ (.expr body (lamEnv X scope s1.heap.objs.size f c')) _ _
    have kp : ∀ b o, s1.heap.get? b = some o → h₁.get? b = some o := fun b o e => hsb.extBut b o (Nat.ne_of_lt (Heap.lt_size e)) (Heap.get?_push_of_some _ e)
    have J : Inv (lamCx X (X.A.deeper (envOfC qg sg s.heap.objs.size g cdg)) (envOfC qg sg s.heap.objs.size g cdg :: X.stack) s1 HZ E scope f c') [] σ HZ { s1 with heap := h₁, toks := s1.toks + ([] : List (Str × Value)).length } :=
      lam_start2 I L I1.env0 hr.hd un hns kp
    refine PySem.W.kla_codeExpr (wpAny_mono ((hbody E _ _ s1 HZ (hr.deeper _)).run [] _ _ HZ Q' J ht) (fun v s' hq => ?_) fun e s' hq => hq)
    obtain ⟨w', H', J', rv, q⟩ := hq
    exact ⟨w', H', J'.os, J'.bare, J'.base, J'.hok, rv, q⟩
  have hx : PassesAt (L2.CX X.prog X.w) ((cxOf CXg X.prog X.w X.K X.mg X.base Ng qg sg g cdg X.A X.stack s H Eg).tr pn xe) σZ E := fun _ _ _ e s' I c => tk e s' (XE.of_call I (fun cls d H' h => hE cls d H' h) c)
  refine wpAny_call (codeAny_mono rc fun r s' hq => ?_)
  cases r with
  | error e => exact hx pinsZ HZ s1 e s' I1 hq
  | ok fl =>
    cases fl with
    | ret u =>
      obtain ⟨v, H', J, rv, q⟩ := I1.after hq
      exact ⟨v, H', J, rv, hQ v H' q⟩
    | next => exact False.elim hq
    | brk => exact False.elim hq
    | cont => exact False.elim hq
end
/-- the def that calls what it got: TT: what it makes of the lambda's reading -/
def GivesS (P : Program) (w : World) (K : PySem.W.Frag) (mg : Str → Option Value) (base : Heap) (A : Around) (outer : List Env) (Ng : List Str) (x : Str) (sg : Scope) (g : Addr) (cdg : Value) (bg : List Stmt) (a : Str) (q : Str) (TT : (XK → Hp → VK → Prop) → Hp → VK → Prop) : Prop :=
  ∀ (f c' : Addr) (s : Shared) (H : Hp) (Q : VK) (tl : XK → Hp → VK → Prop),
    (∀ (W : WX) (pn : List (Addr × Obj)) (xe : Value → Shared → Prop) (p1 p2 : Pos), Takes ((cxOf CX0 P w K mg base Ng x sg g cdg A outer s H E0).tr pn xe) W →
      PE ((cxOf CX0 P w K mg base Ng x sg g cdg A outer s H E0).tr pn xe) (.Call (.Name a p1) [] [] p2) (fun σZ HZ Q => σZ[0]? = some (some (.ref f)) ∧ HZ c' = some (CodeO c' q) ∧ ∃ (E : XK) (Q' : VK), (∀ cls d H', E cls d H' → W cls d σZ H') ∧ (∀ v H', Q' v H' → Q v H') ∧ tl E HZ Q')) →
    H c' = some (CodeO c' q) → TT tl H Q →
    ∃ t, PSs (cxOf CX0 P w K mg base Ng x sg g cdg A outer s H E0) bg t ∧ t { nx := fun _ H' => Q .non H', rt := Q } (L2.start Ng [.ref f]) H
/-- the module's name x stands for a def that calls the lambda that it gets -/
structure CalleeA (P : Program) (w : World) (K : PySem.W.Frag) (mg : Str → Option Value) (base : Heap) (x : Str) (TT : (XK → Hp → VK → Prop) → Hp → VK → Prop) : Prop where
  ex : ∃ (g : Addr) (a : Str) (Ng : List Str) (pg : Arguments) (bg : List Stmt) (sg : Scope) (dV kV doc pm cdv ct oc : Value) (an od : Option Addr) (osl : Array (Option Value)),
    mg x = some (.ref g) ∧ PySem.W.keepIn K (.ref g) = true ∧ K.lookup g = some ⟨oc, od, .func (PySem.W.fnOf x x pg bg sg dV kV doc pm an cdv ct), osl⟩ ∧ PySem.W.codeIn K cdv x = true ∧ L2.Binds K (PySem.W.fnOf x x pg bg sg dV kV doc pm an cdv ct) [a] [] ∧ FnScope Ng [a] sg ∧ Ng[0]? = some a ∧ Vis sg a ∧
      (a == ("__debug__" : Str)) = false ∧ (a == ("__classdict__" : Str)) = false ∧ ∀ (A : Around) (outer : List Env) (q : Str), GivesS P w K mg base A outer Ng x sg g cdv bg a q TT
/-- a def's table of code objects: c, the def's code object -/
structure TabC (X : Cx) (c Pt : Addr) : Prop where
  tb : TabB X.base X.mg c Pt
  code : X.env.code = .ref c
theorem pe_lamS {X : Cx} {x : Str} {TT : (XK → Hp → VK → Prop) → Hp → VK → Prop} {c Pt : Addr} {k j : Nat} {params : Arguments} {body : Expr} {scope : Scope} {t : XK → TE} {p lpos pos : Pos}
    (C : CalleeA X.prog X.w X.K X.mg X.base x TT) (TC : TabC X c Pt) (hr : Room j X.A) (hg : Gl X x) (L : LamS X.env.scope scope) (hdef : defaultsOf params X.env = ([], []))
    (hbind : ∀ (q : Str) (cl : List (Str × Addr)) (pm cv ctv : Value), bindArgs (PySem.W.kla_fn "<lambda>" q params body scope cl pm cv ctv) ⟨[], []⟩ = pure [])
    (hbody : ∀ (E : XK) (A : Around) (outer : List Env) (s : Shared) (H : Hp) (f c' : Addr), Room k (A.deeper (lamEnv X scope s.heap.objs.size f c')) → PE (lamCx X A outer s H E scope f c') body (t E))
    (hj : k + 2 ≤ j := by first | decide | omega) (hdb : (x == ("__debug__" : Str)) = false := by decide) :
    PE X (.Call (.Name x p) [.Lambda params body scope lpos] [] pos) (tLam [(Pt, X.env.qual ++ "<lambda>")] TT t) := by
  obtain ⟨g, a, Ng, pg, bg, sg, dV, kV, doc, pm, cdv, ct, oc, an, od, osl, hm, hk, lk, hcg, hb, Sg, hNg, hva, hd, hcd, hG⟩ := C.ex
  have hr2 : Room (k + 2) X.A := hr.mono hj
  refine ⟨fun pins s σ H Q I h => ?_⟩
  obtain ⟨hT, h⟩ := h
  refine wpAny_Call_Name_kw (ld_glob I hg hm ?_ hdb)
  refine PySem.W.callWith_K (h₀ := X.base) I.ok.mod.kin hk ?_ (by rfl) (by rfl)
  show wpAny _ _ (spliced ((false, eval (.Lambda params body scope lpos) X.env) :: backTo pos (starEach [] X.env))) _ _ s
  refine Calls.spliced_cons (lam_make2 I TC.tb TC.code (List.mem_singleton.mpr rfl) (fun p hp _ => by rw [List.mem_singleton.mp hp]) hT hdef (L.has I.ok) fun f c' pm' ctv H1 s' I1 eN T1 hf hfn hfr hco => ?_)
  refine Calls.spliced_nil ⟨I1.kIn, ?_⟩
  have rc : codeAny (model X.prog X.w) X.A (.call (.ref g) ⟨[.ref f], []⟩) (CR CX0 X.stack X.prog X.w H1 s' Q E0) s' := by
    refine run_ofS (N := Ng) (ps := [a]) (us := [.ref f]) (vs := [.ref f]) lk hcg Sg hr2 I1.env0 (hb s' [.ref f] I1.kIn rfl) (.cons rfl .nil) rfl fun hr' => ?_
    obtain ⟨t', ht', hq'⟩ := hG X.A X.stack (X.env.qual ++ "<lambda>") f c' s' H1 Q (fun E H' Q' => t E σ H' Q') (fun W pn xe p1 p2 tk => pe_actS (i := 0) I1 L hf hfn hfr (hbind _ _ _ _ _) tk hr' (fun E A outer s H hr2 => hbody E A outer s H f c' hr2) hNg hva hd hcd) hco (h H1 eN T1)
    exact ⟨t', ht', hq'⟩
  refine wpAny_call (codeAny_mono rc fun r s2 hq => ?_)
  cases r with
  | error e => exact (show False from hq).elim
  | ok fl =>
    cases fl with
    | ret u => exact I1.after hq
    | next => exact False.elim hq
    | brk => exact False.elim hq
    | cont => exact False.elim hq
/-- from what a head tells of a def -/
theorem CalleeA.of {P : Program} {w : World} {K : PySem.W.Frag} {mg : Str → Option Value} {base : Heap} {x a : Str} {Ng : List Str} {pg : Arguments} {bg : List Stmt} {sg : Scope} {g : Addr} {fd : FuncData} {TT : (XK → Hp → VK → Prop) → Hp → VK → Prop} (F : FunD K x x pg bg sg [] [] g fd) (hm : mg x = some (.ref g)) (Sg : FnScope Ng [a] sg)
    (hb : ∀ (kV doc pm : Value) (an : Option Addr) (cdv ct : Value) (us : List Value), us.length = 1 → bindArgs (PySem.W.fnOf x x pg bg sg .none kV doc pm an cdv ct) ⟨us, []⟩ = pure ([a].zip us)) (hNg : Ng[0]? = some a) (hva : Vis sg a)
    (hG : ∀ (cdv : Value) (A : Around) (outer : List Env) (q : Str), GivesS P w K mg base A outer Ng x sg g cdv bg a q TT) (hd : (a == ("__debug__" : Str)) = false := by decide) (hcd : (a == ("__classdict__" : Str)) = false := by decide) : CalleeA P w K mg base x TT := by
  have b := FunD.bindsN (ps := [a]) F hb
  obtain ⟨oc, od, dV, kV, doc, pm, an, cdv, ct, osl, rfl, lk, hcg, _, _⟩ := F.ex
  exact ⟨g, a, Ng, pg, bg, sg, dV, kV, doc, pm, cdv, ct, oc, an, od, osl, hm, F.kp, lk, hcg, b, Sg, hNg, hva, hd, hcd, hG cdv⟩
/-- as FunD.ok; the code object is told -/
theorem okC {P : Program} {w : World} {K : PySem.W.Frag} {mg : Str → Option Value} {base : Heap} {x qual : Str} {params : Arguments} {body : List Stmt} {scope : Scope} {dvs : List V} {kws : List (Str × V)} {p : He.Defn} {fd : FuncData} {CX : CXT} {N ps : List Str} {k : Nat} {sp : Sp} (F : FunD K x qual params body scope dvs kws (He.fAd K p) fd) (S : FnScope N ps scope) (len : ∀ vs H Q E, sp vs H Q E → vs.length = ps.length)
    (hbody : ∀ (A : Around) (outer : List Env) (s : Shared) (H : Hp) (vs : List V) (Q : VK) (E : XK), Room k (A.deeper (envOfC qual scope s.heap.objs.size (He.fAd K p) (.ref (He.cT K p).1))) → sp vs H Q E →
      ∃ t, PSs (cxOf CX P w K mg base N qual scope (He.fAd K p) (.ref (He.cT K p).1) A outer s H E) body t ∧ t { nx := fun _ H' => Q .non H', rt := Q } (start N vs) H) : FnOk P w K mg base CX (k + 1) (He.fAd K p) fd ps sp := by
  obtain ⟨oc, od, dV, kV, doc, pm, an, cdv, ct, osl, rfl, lk, hcd, _, _⟩ := F.ex
  obtain ⟨c, rfl⟩ := He.codeIn_ref hcd
  have e : He.codeOf K p = c := He.codeOf_eq lk rfl
  subst e
  exact fn_of lk hcd S len fun A outer s H vs Q E hr hsp => hbody A outer s H vs Q E hr hsp
/-! ## heaps behind a lambda -/
section
variable {K : PySem.W.Frag} {H H' : Hp} {a : Addr} {xs : List V} {T : List (Addr × Str)}
theorem k_lam {σ : L2.St} {Q : VK} {TT : (XK → Hp → VK → Prop) → Hp → VK → Prop} {t : XK → TE} (hT : Tabs T H) (h : ∀ H1, ExtN H H1 → Tabs T H1 → TT (fun E H' Q' => t E σ H' Q') H1 Q) : tLam T TT t σ H Q := ⟨hT, h⟩
theorem tabs_sm (s : Same H H') (t : Tabs T H) : Tabs T H' := t.ext s
theorem ext_rd {u : HO} (e : ExtN H H') (n : ∀ ps, u ≠ .tbl ps) (n2 : ∀ o, (HO.frz o u) = (HO.frz o u)) (h : Rd H a u) : Rd H' a u := by
  rcases h with h | ⟨o, h⟩
  · exact Or.inl (e a _ h n)
  · exact Or.inr ⟨o, e a _ h fun ps z => by cases z⟩
theorem ext_t (e : ExtN H H') (h : SqT K H a xs) : SqT K H' a xs := h.elim (fun h => .inl (ext_rd e (fun _ z => by cases z) (fun _ => rfl) h)) .inr
end
end Gk
namespace Gk
open PySem PySem.Spec PyProof.Rows L2 LamX
theorem BagOk.ext {H H' : Hp} {b : Addr} (e : ExtN H H') (h : BagOk H b) : BagOk H' b := by
  obtain ⟨c, ns, h1, h2⟩ := h
  exact ⟨c, ns, e _ _ h1 (fun ps z => by unfold bagO at z; cases z), e _ _ h2 fun ps z => by cases z⟩
theorem ext_lst {H H' : Hp} {a : Addr} {xs : List V} (e : ExtN H H') (h : H a = some (.lst xs)) : H' a = some (.lst xs) := e _ _ h fun ps z => by cases z
end Gk
set_option Elab.async false
set_option autoImplicit false
set_option linter.all false
set_option maxRecDepth 100000
set_option maxHeartbeats 4000000
/-! # several clauses `except x as n` -/
namespace Gk
open PySem PySem.Spec PyProof.Rows L2
def wManyAs (K : PySem.W.Frag) (Wout : WX) (D : Ends) : List (Value × Nat × (Addr → Value → Option Addr → TS)) → WX
  | [] => Wout
  | (c, i, ts) :: r => fun cls d σ H => ∃ b, PySem.W.exmOne K cls c = some b ∧ (b = true → ∀ a, H a = none → ts a cls d { nx := fun σ' H' => D.nx (σ'.set i none) H', rt := D.rt, bk := fun σ' H' => D.bk (σ'.set i none) H', ct := fun σ' H' => D.ct (σ'.set i none) H' } (σ.set i (some (.ref a))) H) ∧ (b = false → wManyAs K Wout D r cls d σ H)
inductive HdsAs (X : Cx) : List ExceptHandler → List (Value × Nat × (Addr → Value → Option Addr → TS)) → Prop
  | nil : HdsAs X [] []
  | cons {x n : Str} {c : Value} {i : Nat} {ts : Addr → Value → Option Addr → TS} {b₀ : Stmt} {suite : List Stmt} {np pos' : Pos} {hds : List ExceptHandler} {l : List (Value × Nat × (Addr → Value → Option Addr → TS))} (hi : X.N[i]? = some n) (hln : X.env.kindOf n = some .local) (hc : Names X x c)
      (hsu : ∀ (a : Addr) (oe : Obj) (cls : Value) (d : Option Addr) (pn : List (Addr × Obj)), Zc cls d oe → (∃ vs, oe.data = .fields vs) → PSs (X.suite a ((a, oe) :: pn)) (b₀ :: suite) (ts a cls d)) (r : HdsAs X hds l) :
      HdsAs X (.ExceptHandler (some (.Name x np)) (some n) (b₀ :: suite) pos' :: hds) ((c, i, ts) :: l)
section
variable {X : Cx} {body : List Stmt} {h₀ : ExceptHandler} {hds : List ExceptHandler} {l : List (Value × Nat × (Addr → Value → Option Addr → TS))} {pos : Pos} {tb : WX → TS} {Wout : WX}
theorem ps_try_manyAs (hs : X.stack = X.env :: X.outer) (hf : X.env.frame = some X.env.locals) (hN : X.N.Nodup) (tk : Takes X Wout)
    (hb : ∀ (W : WX) (pn : List (Addr × Obj)) (xe : Value → Shared → Prop), Takes (X.tr pn xe) W → PassesOwn (model X.prog X.w) X.A X.env xe → PSs (X.tr pn xe) body (tb W))
    (hh : HdsAs X (h₀ :: hds) l) : PS X (.Try body (h₀ :: hds) [] [] pos) (fun D σ H => tb (wManyAs X.K Wout D l) D σ H) := by
  refine ⟨fun pins s σ H D I h => ?_⟩
  have ok := I.ok
  have hfr : X.A.frames = some (X.env :: X.outer) := by rw [ok.frames, hs]
  refine wpAny_Try_except ?_
  refine wpAny_mono ((hb (wManyAs X.K Wout D l) (X.pn ++ pins) (fun e s₁ => wpAny (model X.prog X.w) X.A (noteFrame e X.env) (fun _ s₂ => wpAny (model X.prog X.w) X.A (setFlight e none) (fun _ s₃ =>
    wpAny (model X.prog X.w) X.A (handleBy e X.env (h₀ :: hds)) (SP X pins D) X.xe s₃) X.xe s₂) X.xe s₁) (fun u s' xx => ?_) PassesOwn.looking).run [] s σ H D (I.toTry _) h) (fun f s1 hsp => ?_) (fun e s1 he => he)
  · -- the catch
    obtain ⟨a, B, sI, pins', σ', H', cls, d, rfl, J', nb, up, sky, na, os, ag, w⟩ := xx
    have J : Inv X pins σ' H' sI := J'.ofTry ok
    have sky' : Sky B (X.env :: X.outer) a (Zc cls d) X.env.locals s'.heap := by rw [← hs]; exact sky
    show wpAny (model X.prog X.w) X.A (noteFrame (.ref a) X.env) _ _ _
    refine Sky.land Zc.steady hfr hf sky' fun h3 fl3 up3 => ?_
    have J3 : Inv X pins σ' H' { s' with heap := h3 } := J.landed nb fl3.1 (up.trans up3) os ag
    obtain ⟨oe3, vs3, he3, hz3, hd3⟩ := fl3.there
    have notFr : ∀ {h : Heap} {o : Obj} {vs : Array Value}, h.FunFrames B (X.env :: X.outer) → h.get? a = some o → o.data = .fields vs → a ∉ frs (X.env :: X.outer) := fun {h o vs} ff e dd hm => by
      obtain ⟨_, o', e', hnf⟩ := ff.mem hm
      rw [e] at e'; cases e'
      exact hnf _ dd
    have nfr := notFr fl3.2.2.1 he3 hd3
    have nL : a ≠ X.env.locals := fun z => nfr (List.mem_filterMap.mpr ⟨X.env, List.mem_cons_self, by rw [hf, z]⟩)
    have nF : a ∉ X.fs := fun hm => by
      obtain ⟨e, he, q⟩ := List.mem_filterMap.mp hm
      exact nfr (List.mem_filterMap.mpr ⟨e, List.mem_cons_of_mem _ he, q⟩)
    have S3 := J3.suite he3 hd3 na nL nF
    have go : ∀ {hds' : List ExceptHandler} {l' : List (Value × Nat × (Addr → Value → Option Addr → TS))}, HdsAs X hds' l' → wManyAs X.K Wout D l' cls d σ' H' →
        wpAny (model X.prog X.w) X.A (handleBy (.ref a) X.env hds') (SP X pins D) X.xe { s' with heap := h3 } := by
      intro hds' l' hk
      induction hk with
      | nil =>
        intro w
        refine wpAny_handleBy_nil ?_
        obtain ⟨k1, k2, k3, oe, vs, T, oT, ts', he, hz, hd, h1, hr⟩ := id fl3
        unfold PySem.passOn
        refine wpAny_bind (wpAny_field he hd h1 ?_)
        rw [if_neg (show ¬ ((Value.ref T == Value.none) = true) from by simp)]
        have fin : wpAny (model X.prog X.w) X.A (setFlight (.ref a) X.env.frame) (fun _ s4 => wpAny (model X.prog X.w) X.A (throw (.ref a) : Sem Flow) (SP X pins D) X.xe s4) X.xe { s' with heap := h3 } := by
          rw [hf]
          refine HandSPX.setFlight_upZ fl3 fun h4 hh4 up4 => wpAny_throw (tk _ _ ?_)
          exact ⟨a, B, sI, pins, σ', H', cls, d, rfl, J, nb, (up.trans up3).trans up4, .inr (.inr (by rw [hs]; exact hh4)), na, os, ag, w⟩
        first
          | exact wpAny_bind (wpAny_pure (wpAny_bind fin))
          | exact wpAny_bind fin
      | @cons x n c i ts b₀ suite np pos' hds2 l2 hi hln hc hsu r ih =>
        intro w
        obtain ⟨b, hb1, hyes, hno⟩ := w
        refine wpAny_handleBy_cons (codeAny_handlers_test ?_) (by intro q; cases q)
        have LT : PySem.W.Looks (model X.prog X.w) h3 (typeOf (.ref a)) cls := fun A Q E s k q => wpAny_typeOf_ref (k _ _ he3) (by rw [hz3.1]; exact q)
        have LM := PySem.W.exm_one (M := model X.prog X.w) (J3.kIn) LT hb1
        have test : ∀ {Q : Value → Shared → Prop} {E : Value → Shared → Prop}, Q c { s' with heap := h3 } → wpAny (model X.prog X.w) (X.A.mark (some (.ref a))) (eval (.Name x np) X.env) Q E { s' with heap := h3 } := fun {Q E} q => by
          obtain ⟨hg, hdbg, hm | ⟨hm, hv, hnn⟩⟩ := hc
          · exact ld_glob (X := X.suite a ((a, oe3) :: (X.pn ++ pins))) S3 hg hm q hdbg
          · exact ld_blt (X := X.suite a ((a, oe3) :: (X.pn ++ pins))) S3 hg hm hv q hnn hdbg
        refine test (LM.here ?_)
        cases b with
        | true =>
          have hloc : Loc X.env.scope n := .inl hln
          refine codeAny_handlers_suite_as ?_
          refine HandSPX.lands_againZ fl3 fun h4 fl4 up4 => ?_
          have J4 : Inv X pins σ' H' { s' with heap := h4 } := J.landed nb fl4.1 ((up.trans up3).trans up4) os ag
          obtain ⟨oe4, vs4, he4, hz4, hd4⟩ := fl4.there
          have S4 := J4.suite he4 hd4 na nL nF
          refine store_ok (X := X.suite a ((a, oe4) :: (X.pn ++ pins))) (v := .ref a) S4 hN hi hloc rfl (fun s5 S5 => ?_) (.inr hln)
          refine wpAny_mono ((hsu a oe4 cls d (X.pn ++ pins) hz4 ⟨_, hd4⟩).run [] s5 _ H' _ S5 (hyes rfl a na)) (fun f s6 hsp => ?_) (fun _ _ z => False.elim z)
          have end_ : ∀ {σ6 : L2.St} {H6 : Hp} {Q : Shared → Prop}, Inv (X.suite a ((a, oe4) :: (X.pn ++ pins))) [] σ6 H6 s6 → (∀ s7, Inv X pins (σ6.set i none) H6 s7 → Q s7) →
              wpAny (model X.prog X.w) X.A (do bindName X.env n .none; unbindBehindTheSuite X.env n pos') (fun _ s7 => Q s7) X.xe s6 := fun {σ6 H6 Q} S6 hq => gone_ok (S6.unsuite ok) hN hi hln hq
          cases f with
          | next =>
            obtain ⟨σ6, H6, S6, q6⟩ := hsp
            exact end_ S6 fun s7 J7 => ⟨_, _, J7, q6⟩
          | brk =>
            obtain ⟨σ6, H6, S6, q6⟩ := hsp
            exact end_ S6 fun s7 J7 => ⟨_, _, J7, q6⟩
          | cont =>
            obtain ⟨σ6, H6, S6, q6⟩ := hsp
            exact end_ S6 fun s7 J7 => ⟨_, _, J7, q6⟩
          | ret u =>
            obtain ⟨v6, σ6, H6, S6, r6, q6⟩ := hsp
            exact end_ S6 fun s7 J7 => ⟨_, _, _, J7, r6, q6⟩
        | false =>
          show wpAny _ X.A (handleBy (.ref a) X.env hds2) _ _ _
          exact ih (hno rfl)
    exact go hh w
  · cases f with
    | next =>
      obtain ⟨σ', H', J', q⟩ := hsp
      exact wpAny_execs_nil ⟨σ', H', J'.ofTry ok, q⟩
    | brk =>
      obtain ⟨σ', H', J', q⟩ := hsp
      exact ⟨σ', H', J'.ofTry ok, q⟩
    | cont =>
      obtain ⟨σ', H', J', q⟩ := hsp
      exact ⟨σ', H', J'.ofTry ok, q⟩
    | ret u =>
      obtain ⟨v, σ', H', J', r, q⟩ := hsp
      exact ⟨v, σ', H', J'.ofTry ok, r, q⟩
end
end Gk
set_option Elab.async false
set_option autoImplicit false
set_option linter.all false
set_option maxRecDepth 100000
set_option maxHeartbeats 4000000
/-! # dicts: their values summed, comprehensions that make them -/
namespace Gk
open PySem PySem.Spec PyProof.Rows L2
section
variable {X : Cx}
end
section
variable {prog : Program} {w : World} {A : Around} {E : Value → Shared → Prop} {s : Shared} {T : String} {r d : Addr} {n : Nat} {P : Nat → Value → Prop} {OK : Heap → Prop} {Q : Value → Shared → Prop}
end
section
variable {X : Cx}
end
section
variable {X : Cx} {K : PySem.W.Frag} {H : Hp} {Q : VK} {σ : L2.St}
end
/-! ## an own class made by place alone -/
section
variable {X : Cx} {K : PySem.W.Frag} {CX : CXT} {k j : Nat} {sp : Sp} {x : Str} {p pos : Pos} {e : Expr} {es : List Expr} {t : TA} {E : XK}
end
/-! ## dict(pairs); walks over a dict's keys, the dict held meanwhile -/
section
variable {κ : Type} [DecidableEq κ]
end
section
variable {K : PySem.W.Frag} {H : Hp} {Q : VK} {σ : L2.St} {a d : Addr}
theorem k_itk {R : It → Hp → Prop} {td : TE} (h : td σ H fun x H1 => ∃ d o, x = .ref d ∧ ((∃ kvs, H1 d = some (.frz o (.dK kvs)) ∧ R (Itk d o kvs) H1) ∨ ∃ kvs, H1 d = some (.frz o (.dT kvs)) ∧ R (Itkt d o kvs) H1)) : iKeys td σ H R := h
end
/-! ## range with a step -/
end Gk
set_option Elab.async false
set_option autoImplicit false
set_option linter.all false
set_option maxRecDepth 100000
set_option maxHeartbeats 4000000
/-! # the order of data; list.index -/
namespace Gk
open PySem PySem.Spec PyProof.Rows L2
open PySem.W (dataLt alike)
end Gk
set_option Elab.async false
set_option autoImplicit false
set_option linter.all false
set_option maxRecDepth 100000
set_option maxHeartbeats 4000000
/-! # x, *xs = tuple -/
namespace Gk
open PySem PySem.Spec PyProof.Rows L2 PySem.W
section
variable {prog : Program} {w : World} {A : Around} {E : Value → Shared → Prop} {s : Shared} {env : Env}
theorem star_tuple {l : Addr} {items : Array Value} {n i : Nat} {Q : List Value → Shared → Prop} (hl : IsTup s.heap l items) (hh : A.handled = none) (hi : i < n) (hn : n ≤ items.size + 1) (hz : items.size ≤ 16384)
    (h : ∀ (h' : Heap) (tk : Nat), (∀ b o, s.heap.get? b = some o → h'.get? b = some o) →
      Q (items.toList.take i ++ [.ref h'.objs.size] ++ (items.toList.drop i).drop (items.size + 1 - n)) { s with heap := h'.push { cls := .type "list", data := .seq ((items.toList.drop i).take (items.size + 1 - n)).toArray }, toks := tk }) : wpAny (model prog w) A (unpackItems (.ref l) n (some i)) Q E s := by
  have hlt : l ≠ s.heap.objs.size := by obtain ⟨o, ho, _⟩ := hl; exact Nat.ne_of_lt (Heap.lt_size ho)
  have hll : l < s.heap.objs.size := by obtain ⟨o, ho, _⟩ := hl; exact Heap.lt_size ho
  unfold unpackItems
  refine wpAny_bind ?_
  unfold notIterableAtAll
  refine wpAny_bind (wpAny_specialOf hl.typeIs slot_tuple_iter.lookup ?_)
  refine wpAny_pure ?_
  simp only [Bool.false_eq_true, if_false]
  refine wpAny_bind (wpAny_holding (iter_tuple hl ?_))
  refine wpAny_bind (wpAny_holding (draw_tuple hlt i 0 _ _ ⟨_, Heap.get?_push_size _ rfl, rfl, rfl⟩ (hl.push _) (by omega) fun h₁ hit₁ hs₁ => ?_))
  have hl₁ : IsTup h₁ l items := (hl.push _).extBut hs₁.extBut hlt
  rw [Nat.zero_add] at hit₁
  have hit₁' := hit₁
  obtain ⟨oi, hoi, _⟩ := hit₁'
  have hl₁' := hl₁
  obtain ⟨ol, hol, _⟩ := hl₁'
  rw [List.drop_zero]
  have hfl : (items.toList.take i).length = i := by rw [List.length_take, Array.length_toList]; omega
  rw [if_neg (show ¬ ((items.toList.take i).length < i) by rw [hfl]; omega)]
  refine wpAny_bind (wpAny_holding (kun_collect (s := { s with heap := h₁ }) (T := "tuple_iterator") (.inr (.inr (.inr rfl))) (Walks.tuple (A := A.in1) hh s.heap.objs.size l hlt items) (fun j u st => st.1.typeIs) (k := i) (by omega) ⟨hit₁, hl₁⟩ (Heap.lt_size hoi) (Heap.lt_size hol) (fun h₂ tk hk => ?_) (by rw [sizeLine_eq]; omega)))
  have hrl : (items.toList.drop i).length = items.size - i := by rw [List.length_drop, Array.length_toList]
  have hmid : (items.toList.drop i).length - (n - 1 - i) = items.size + 1 - n := by rw [hrl]; omega
  show wpAny _ _ (if (items.toList.drop i).length < n - 1 - i then _ else _) _ _ _
  rw [if_neg (by rw [hrl]; omega)]
  show wpAny _ _ (newList ((items.toList.drop i).take ((items.toList.drop i).length - (n - 1 - i))) >>= fun d => pure (items.toList.take i ++ [d] ++ (items.toList.drop i).drop ((items.toList.drop i).length - (n - 1 - i)))) _ _ _
  rw [hmid]
  have he : ∀ b o, s.heap.get? b = some o → h₂.get? b = some o := fun b o e => hk b o (Nat.ne_of_lt (Heap.lt_size e)) (hs₁.extBut b o (Nat.ne_of_lt (Heap.lt_size e)) (Heap.get?_push_of_some _ e))
  refine wpAny_bind (wpAny_newList (wpAny_pure (h h₂ tk he)) ?_)
  · rw [List.length_take, hrl, sizeLine_eq]; omega
end
/-- x, *xs = t -/
def gStar1 (K : PySem.W.Frag) (w : TGs) : TG := fun v σ H Q => ∃ a x xs, v = .ref a ∧ SqT K H a (x :: xs) ∧ xs.length ≤ 10000 ∧ ∀ p, H p = none → w [x, .ref p] σ (upd H p (.lst xs)) Q
theorem pg_star1 {X : Cx} (K : PySem.W.Frag) {es es' : List Expr} {k : Nat} {pos : Pos} {t : TGs} (h : PGs X es' t) (he : (assignEach es X.env).map (·.2) = (assignEach es' X.env).map (·.2)) (hn : (assignEach es X.env).length = 2 := by rfl) (hst : (assignEach es X.env).findIdx? (·.1) = some 1 := by rfl) (hc : X.calm = true := by rfl) (hK : X.K = K := by rfl) : PG X (.Tuple es k pos) (gStar1 K t) := by
  subst hK
  refine ⟨fun pins s σ H v u Q I r hw => ?_⟩
  obtain ⟨a, x, xs, e1, hq, hl, hw⟩ := hw
  subst e1
  cases r
  obtain ⟨its, rv, ht, hz⟩ := I.tuple hq
  obtain ⟨u0, us, rfl⟩ : ∃ u0 us, its = u0 :: us := by
    cases rv with
    | cons r0 rr => exact ⟨_, _, rfl⟩
  have hlen : us.length = xs.length := by have := rv.length; simp at this; omega
  rw [assign_Tuple]
  refine wpAny_bind (wpAny_standAt ?_)
  unfold unpack
  rw [hn, hst, he]
  refine wpAny_bind (wpAny_holding (star_tuple ht (I.ok.hd hc) (by decide) (by simp) (by simp; omega) fun h' tk hk => ?_))
  have I1 : Inv X pins σ H { s with heap := h', toks := tk } := I.kept hk
  have hf : H h'.objs.size = none := I1.hok.fresh (Nat.le_refl _)
  cases rv with
  | cons r0 rr =>
    have e2 : List.take ((u0 :: us).toArray.size + 1 - 2) (List.drop 1 (u0 :: us).toArray.toList) = us := by simp
    have e3 : List.drop ((u0 :: us).toArray.size + 1 - 2) (List.drop 1 (u0 :: us).toArray.toList) = [] := by simp
    have e4 : List.take 1 (u0 :: us).toArray.toList = [u0] := by simp
    rw [e2, e3, e4]
    have I2 : Inv X pins σ (upd H h'.objs.size (.lst xs)) { s with heap := h'.push { cls := .type "list", data := .seq us.toArray }, toks := tk } :=
      I1.laid (t' := tk) (fun b u e => Heap.get?_push_of_some _ e) (Nat.le_refl _) ⟨by rw [sizeLine_eq]; omega, us, 0, rr, Heap.get?_push_size _ rfl⟩
    exact h.run pins _ σ _ [x, .ref h'.objs.size] _ Q I2 (.cons r0 (.cons rfl .nil)) (hw _ hf)
theorem k_star1 {K : PySem.W.Frag} {w : TGs} {a : Addr} {x : V} {xs : List V} {σ : L2.St} {H : Hp} {Q : L2.St → Hp → Prop} (hx : SqT K H a (x :: xs)) (hl : xs.length ≤ 10000) (h : ∀ p H', H p = none → Same H H' → H' p = some (.lst xs) → w [x, .ref p] σ H' Q) : gStar1 K w (.ref a) σ H Q := ⟨a, x, xs, rfl, hx, hl, fun p hp => h p _ hp (sm_new hp) upd_same⟩
end Gk
set_option Elab.async false
set_option autoImplicit false
set_option linter.all false
set_option maxRecDepth 100000
set_option maxHeartbeats 4000000
/-! # list.pop(i); set(list of tuples); sorted(text); == by an own __eq__ -/
namespace Gk
open PySem PySem.Spec PyProof.Rows L2
open PySem.W (EachIs AllAlike Sortable dataLe dataLt alike keyToks sort_pairwise sortLe_total list_sort_data)
/-! ### l.pop(i), i from the front -/
def rPop : V → List V → Hp → VK → Prop := fun x vs H Q => ∃ (l : Addr) (p : List V) (y : V) (q : List V), x = .ref l ∧ vs = [.int (p.length : Nat)] ∧ H l = some (.lst (p ++ y :: q)) ∧ p.length + q.length + 1 ≤ 100000 ∧ Q y (upd H l (.lst (p ++ q)))
theorem vals_cut : ∀ {p q : List V} {y : V} {its : List Value}, Vals (p ++ y :: q) its → ∃ p' y' q', its = p' ++ y' :: q' ∧ p'.length = p.length ∧ Vals p p' ∧ RelV y y' ∧ Vals q q'
  | [], _, _, _, .cons r t => ⟨[], _, _, rfl, rfl, .nil, r, t⟩
  | _ :: p, _, _, _, .cons r t => by
    obtain ⟨p', y', q', rfl, e, h1, h2, h3⟩ := vals_cut (p := p) t
    exact ⟨_ :: p', y', q', rfl, by rw [List.length_cons, List.length_cons, e], .cons r h1, h2, h3⟩
theorem mt_pop {X : Cx} : MtR X "list.pop" rPop := by
  intro pins s σ H x vs v us Q I rx rv h
  obtain ⟨l, p, y, q, rfl, rfl, hH, hz, hq⟩ := h
  cases rx
  obtain ⟨u, rfl, t, rfl⟩ := rv.one
  obtain ⟨z, its, n, r, hl, e⟩ := I.lstM hH
  obtain ⟨p', y', q', rfl, ep, h1, h2, h3⟩ := vals_cut r
  have lq : q'.length = q.length := h3.length.symm
  have sz : (p' ++ y' :: q').toArray.size = p.length + q.length + 1 := by
    rw [List.size_toArray, List.length_append, List.length_cons, ep, lq]
    omega
  have hk : seqIndex? ((p.length : Nat) : Int) (p' ++ y' :: q').toArray.size = some p'.length := by
    rw [sz, ep]
    unfold seqIndex?
    simp
    omega
  have hf : Builtin.List.listFitsIndex ((p.length : Nat) : Int) = true := by
    unfold Builtin.List.listFitsIndex
    simp
    omega
  have hy : (p' ++ y' :: q').toArray[p'.length]? = some y' := by simp
  have hs1 : (p' ++ y' :: q').toArray.size ≤ sizeLine := by
    rw [sz]
    exact sz_of hz
  generalize ((p.length : Nat) : Int) = j at hf hk ⊢
  refine call_meets F.slot_list_pop ⟨_, e, rfl⟩ F.entry_list_pop (F.args_list_pop_2 _ _) (PySem.MeetsSeq.list_pop_at l (p' ++ y' :: q').toArray n j t p'.length y' hf hk hy hs1) ⟨e, ?_⟩
  refine ⟨y, _, I.lset (its' := p' ++ q') hH e (PySem.W.kl_erase p' q' y') (h1.append h3) ?_, h2, hq⟩
  rw [List.length_append]
  exact sz_of (by omega)
theorem k_pop {l : Addr} {xs p : List V} {y : V} {q : List V} {i : Int} {H : Hp} {Q : VK} (hH : H l = some (.lst xs)) (hx : xs = p ++ y :: q) (hi : i = (p.length : Nat)) (hz : xs.length ≤ 100000) (h : Q y (upd H l (.lst (p ++ q)))) : rPop (.ref l) [.int i] H Q := by
  subst hx
  subst hi
  refine ⟨l, p, y, q, rfl, rfl, hH, ?_, h⟩
  rw [List.length_append, List.length_cons] at hz
  omega
/-! ### set(list of tuples of ints and texts) -/
section
variable {P : Program} {w : World} {A : Around} {E : Value → Shared → Prop} {s : Shared}
end
end Gk
namespace Gk
open PySem PySem.Spec PyProof.Rows L2
open PySem.W (EachIs AllAlike Sortable dataLe dataLt alike keyToks sort_pairwise sortLe_total list_sort_data)
/-! ### sorted(text) -/
section
variable {P : Program} {w : World} {A : Around} {E : Value → Shared → Prop} {s : Shared}
end
/-! ### == by the class's own __eq__, the answer True -/
end Gk
set_option Elab.async false
set_option autoImplicit false
set_option linter.all false
set_option maxRecDepth 100000
set_option maxHeartbeats 4000000
/-! # a dict of the module, texts to ints: the Hook that tells it, `in`, `[]` -/
namespace Gk
open PySem PySem.Spec PyProof.Rows L2 LamX
/-! ## the Hook -/
/-! ## the dict told -/
structure GloD (K : PySem.W.Frag) (w : World) (mg : Str → Option Value) (x : Str) (kvs : List (Str × Int)) : Prop where
  g : mg x = some (.ref (He.ga K x))
  d : ∃ es n, KDict K w (He.ga K x) es n
  at_ : ∀ z : Str, ∃ r, PySem.W.nsIn K (He.ga K x) z = some r ∧ ((∃ i, kvs.lookup z = some i ∧ ∃ t, r = some (.int i t)) ∨ (kvs.lookup z = none ∧ r = none))
theorem dic_none {K : PySem.W.Frag} {P : Params} {a : Addr} {ks : List Str} {z : Str} (h : He.dicW K a = some (He.keysIn P ks)) (hz : z ∉ ks) : PySem.W.nsIn K a z = some none := by
  have key : ∀ (l : List DictEntry) (ks : List Str), l.map He.keyOf = He.keysIn P ks → z ∉ ks → l.find? (·.key.isStr z) = none ∧ l.any (·.refKey) = false := by
    intro l
    induction l with
    | nil => exact fun _ _ _ => ⟨rfl, rfl⟩
    | cons e r ih =>
      intro ks hk hz
      cases ks with
      | nil => cases hk
      | cons k ks =>
        have h1 : He.keyOf e :: r.map He.keyOf = some (k, PyData.keyHash P k) :: He.keysIn P ks := hk
        injection h1 with h2 h3
        obtain ⟨i1, i2⟩ := ih ks h3 fun m => hz (List.mem_cons_of_mem _ m)
        unfold He.keyOf at h2
        split at h2
        · rename_i x t q
          have h4 := Option.some.inj h2
          obtain ⟨h5, h6⟩ := Prod.mk.inj h4
          subst h5
          have hne : x ≠ z := fun e => hz (by rw [e]; exact List.mem_cons_self ..)
          have f1 : e.key.isStr z = false := by
            rw [q]
            unfold Value.isStr
            simpa using hne
          have f2 : e.refKey = false := by
            unfold DictEntry.refKey
            rw [q]
          exact ⟨by rw [List.find?_cons, f1]; exact i1, by rw [List.any_cons, f2, i2]; rfl⟩
        · cases h2
  unfold He.dicW at h
  unfold PySem.W.nsIn
  cases q : K.lookup a with
  | none =>
    rw [q] at h
    cases h
  | some o =>
    obtain ⟨oc, od, dt, osl⟩ := o
    rw [q] at h
    cases oc with
    | type c =>
      cases od with
      | none =>
        cases dt with
        | dict es n =>
          have h1 : (match decide (c = "dict") && (osl.isEmpty && !(a == sysModules)) with
            | true => some (es.toList.map He.keyOf)
            | false => none) = some (He.keysIn P ks) := h
          cases y : decide (c = "dict") && (osl.isEmpty && !(a == sysModules)) with
          | false =>
            rw [y] at h1
            cases h1
          | true =>
            rw [y] at h1
            obtain ⟨k1, k2⟩ := key es.toList ks (Option.some.inj h1) hz
            simp only [k1, k2]
            rfl
        | _ => cases h
      | some b => cases dt <;> cases h
    | _ => cases od <;> cases dt <;> cases h
theorem SaysF.dict {fa : List He.Fa} {fx : List Fx} {fn : List He.DefD} {tf : List He.Defn} {ts : List DTab} {w : World} {h0 h : Heap} {K : PySem.W.Frag} {mg : Str → Option Value} (c : SaysF fa fx fn tf ts w h0 K) (X : K.In h) (G : h.Ns mainGlobals mg) {x : Str} {kvs : List (Str × Int)} (ht : (x, kvs) ∈ ts) (hg : mg x = some (.ref (He.ga K x))) : GloD K w mg x kvs := by
  refine ⟨hg, He.dicW_ok (c.d _ ht), fun z => ?_⟩
  have hv := c.v _ ht
  cases e : kvs.lookup z with
  | none =>
    refine ⟨none, dic_none (c.d _ ht) (fun hm => ?_), .inr ⟨rfl, rfl⟩⟩
    obtain ⟨q, hq, rfl⟩ := List.mem_map.mp hm
    have := List.lookup_eq_none_iff.mp e q hq
    simp at this
  | some i =>
    have hm : (z, i) ∈ kvs := by
      clear ht hv
      induction kvs with
      | nil => cases e
      | cons q kvs ih =>
        obtain ⟨k, j⟩ := q
        rw [List.lookup_cons] at e
        cases hb : z == k with
        | true =>
          rw [hb] at e
          have e2 : j = i := Option.some.inj e
          rw [eq_of_beq hb, e2]
          exact List.mem_cons_self ..
        | false =>
          rw [hb] at e
          exact List.mem_cons_of_mem _ (ih e)
    obtain ⟨u, hu, r⟩ := He.valsB_ok hv (q := (z, He.Dv.int i)) (List.mem_map.mpr ⟨(z, i), hm, rfl⟩)
    obtain ⟨t, rfl⟩ := r
    exact ⟨_, hu, .inl ⟨i, rfl, t, rfl⟩⟩
/-! ## rules -/
section
variable {X : Cx} {K : PySem.W.Frag} {w : World} {mg : Str → Option Value} {x : Str} {kvs : List (Str × Int)}
def rInG (K : PySem.W.Frag) (x : Str) (kvs : List (Str × Int)) (b : Bool) : R2 := fun u v H Q => ∃ z : Str, u = .str z ∧ v = .ref (He.ga K x) ∧ Q (.bl ((kvs.lookup z).isSome == b)) H
theorem op_niG (D : GloD K w X.mg x kvs) (hK : X.K = K := by rfl) (hw : X.w = w := by rfl) : OpR X (compareOp .NotIn) (rInG K x kvs false) := by
  subst hK
  subst hw
  intro pins s σ H a b v u Q I ra rb h
  obtain ⟨z, rfl, rfl, q⟩ := h
  obtain ⟨es, n, kd⟩ := D.d
  obtain ⟨r, hr, hc⟩ := D.at_ z
  refine op_notIn_kd kd pins s σ H _ _ v u Q I ra rb ⟨z, r, rfl, rfl, hr, ?_⟩
  rcases hc with ⟨i, e, t, rfl⟩ | ⟨e, rfl⟩ <;> (rw [e] at q; exact q)
def rIxG (K : PySem.W.Frag) (x : Str) (kvs : List (Str × Int)) : R2 := fun u v H Q => ∃ (z : Str) (i : Int), u = .ref (He.ga K x) ∧ v = .str z ∧ kvs.lookup z = some i ∧ Q (.int i) H
theorem ix_G (D : GloD K w X.mg x kvs) (hK : X.K = K := by rfl) (hw : X.w = w := by rfl) : IxR X (rIxG K x kvs) := by
  subst hK
  subst hw
  intro value slice pins s σ H a b v u Q I ra rb h hs
  obtain ⟨z, i, rfl, rfl, e, q⟩ := h
  obtain ⟨es, n, kd⟩ := D.d
  obtain ⟨r, hr, hc⟩ := D.at_ z
  rcases hc with ⟨j, e2, t, rfl⟩ | ⟨e2, rfl⟩
  · rw [e] at e2
    cases e2
    exact ix_kdict value slice pins s σ H _ _ v u Q I ra rb ⟨_, z, .int i, rfl, rfl, ⟨es, n, _, kd.at_, kd.lit, hr, ⟨t, rfl⟩⟩, q⟩ hs
  · rw [e] at e2
    cases e2
theorem k_inG {z : Str} {H : Hp} {Q : VK} {b : Bool} (h : Q (.bl ((kvs.lookup z).isSome == b)) H) : rInG K x kvs b (.str z) (.ref (He.ga K x)) H Q := ⟨z, rfl, rfl, h⟩
theorem k_ixG {z : Str} {i : Int} {H : Hp} {Q : VK} (e : kvs.lookup z = some i) (h : Q (.int i) H) : rIxG K x kvs (.ref (He.ga K x)) (.str z) H Q := ⟨z, i, rfl, rfl, e, h⟩
end
end Gk
namespace Gk
open PySem PySem.Spec PyProof.Rows L2 LamX
/-! ## isinstance(x, int), isinstance(x, bool) of data -/
def isIntD : PyData → Bool
  | .int _ => true
  | .bool _ => true
  | _ => false
def isBlD : PyData → Bool
  | .bool _ => true
  | _ => false
theorem isi_int {K : PySem.W.Frag} {d : PyData} (nd : ∀ kvs, d ≠ .dict kvs) : PySem.W.kitOne K (.type (tyD d)) (.type "int") = some (isIntD d) := by
  cases d with
  | none => exact kit_ty (show kitB "NoneType" "int" = some false by decide +kernel)
  | bool b => exact kit_ty (show kitB "bool" "int" = some true by decide +kernel)
  | int b => exact kit_ty (show kitB "int" "int" = some true by decide +kernel)
  | str b => exact kit_ty (show kitB "str" "int" = some false by decide +kernel)
  | list b => exact kit_ty (show kitB "list" "int" = some false by decide +kernel)
  | tuple b => exact kit_ty (show kitB "tuple" "int" = some false by decide +kernel)
  | dict kvs => exact absurd rfl (nd kvs)
theorem isi_bl {K : PySem.W.Frag} {d : PyData} (nd : ∀ kvs, d ≠ .dict kvs) : PySem.W.kitOne K (.type (tyD d)) (.type "bool") = some (isBlD d) := by
  cases d with
  | none => exact kit_ty (show kitB "NoneType" "bool" = some false by decide +kernel)
  | bool b => exact kit_ty (show kitB "bool" "bool" = some true by decide +kernel)
  | int b => exact kit_ty (show kitB "int" "bool" = some false by decide +kernel)
  | str b => exact kit_ty (show kitB "str" "bool" = some false by decide +kernel)
  | list b => exact kit_ty (show kitB "list" "bool" = some false by decide +kernel)
  | tuple b => exact kit_ty (show kitB "tuple" "bool" = some false by decide +kernel)
  | dict kvs => exact absurd rfl (nd kvs)
section
variable {K : PySem.W.Frag} {H : Hp} {Q : VK} {x : V} {d : PyData}
theorem k_isiI (h : Dp K H x d) (q : Q (.bl (isIntD d)) H) : rIsiU K [x, .ty "int"] H Q := .inr ⟨x, _, _, _, _, rfl, .ty _, dp_ty h, isi_int (dp_nd h), q⟩
theorem k_isiBl (h : Dp K H x d) (q : Q (.bl (isBlD d)) H) : rIsiU K [x, .ty "bool"] H Q := .inr ⟨x, _, _, _, _, rfl, .ty _, dp_ty h, isi_bl (dp_nd h), q⟩
end
/-! ## for over a list or a tuple -/
def ItB (K : PySem.W.Frag) (t : Bool) (a : Addr) : It := match t with
  | true => Itt K a
  | false => Itl K a
def nItB (K : PySem.W.Frag) (v : V) (R : It → Hp → Prop) (H : Hp) : Prop := ∃ t a xs, v = .ref a ∧ SqB K t H a xs ∧ R (ItB K t a) H
def iSqB (K : PySem.W.Frag) (tl : TE) : TI := fun σ H R => tl σ H fun v H1 => nItB K v R H1
theorem pi_anyK {X : Cx} (K : PySem.W.Frag) {tg l : Expr} {tl : TE} (hl : PE X l tl) (hK : X.K = K := by rfl) : PI X tg l (iSqB K tl) := by
  subst hK
  refine ⟨fun pins s σ H R I h => ?_⟩
  refine thn (hl.run pins s σ H _ I h) fun v s1 ⟨x, H1, I1, r1, q1⟩ => ?_
  obtain ⟨t, a, xs, e, hq, q⟩ := q1
  subst e
  cases r1
  cases t with
  | false =>
    obtain ⟨its, rv, p, hz⟩ := I1.list hq
    refine wpAny_pyIter_list p.isList ?_
    refine ⟨s1.heap.objs.size, [s1.heap.objs.size], _, _, H1, rfl, I1.kept (t' := s1.toks) fun b o e => Heap.get?_push_of_some _ e, turn_list a _, ⟨_, Heap.get?_push_size _ rfl, rfl, rfl⟩, fun b hb => ?_, q⟩
    have e : b = s1.heap.objs.size := by simpa using hb
    subst e
    exact I1.fpOk (Nat.le_refl _) (I1.hok.fresh (Nat.le_refl _))
  | true =>
    obtain ⟨its, rv, p, hz⟩ := I1.tuple hq
    refine wpAny_pyIter_tuple (show s1.heap.IsTuple a its.toArray from p) ?_
    refine ⟨s1.heap.objs.size, [s1.heap.objs.size], _, _, H1, rfl, I1.kept (t' := s1.toks) fun b o e => Heap.get?_push_of_some _ e, turn_tuple a _, ⟨_, Heap.get?_push_size _ rfl, rfl, rfl⟩, fun b hb => ?_, q⟩
    have e : b = s1.heap.objs.size := by simpa using hb
    subst e
    exact I1.fpOk (Nat.le_refl _) (I1.hok.fresh (Nat.le_refl _))
theorem k_itB {K : PySem.W.Frag} {tl : TE} {σ : L2.St} {H : Hp} {R : It → Hp → Prop} (h : tl σ H fun v H1 => nItB K v R H1) : iSqB K tl σ H R := h
theorem k_nItB {K : PySem.W.Frag} {t : Bool} {a : Addr} {xs : List V} {R : It → Hp → Prop} {H : Hp} (hx : SqB K t H a xs) (h : R (ItB K t a) H) : nItB K (.ref a) R H := ⟨t, a, xs, rfl, hx, h⟩
theorem walk_listB {K : PySem.W.Frag} {t : Bool} {a : Addr} {xs : List V} : Walk (ItB K t a) xs.length (fun H => SqB K t H a xs) (YAt xs) := match t with
  | true => walk_tup
  | false => walk_list
end Gk
set_option Elab.async false
set_option autoImplicit false
set_option linter.all false
set_option maxRecDepth 100000
set_option maxHeartbeats 4000000
/-! # dicts with tuple keys: a display of one pair, steps; list(text) -/
namespace Gk
open PySem PySem.Spec PyProof.Rows L2
/-- {k: v}, k a tuple of ints and texts -/
def tDisp1T (tk tv : TE) : TE := fun σ H Q => ∀ p, H p = none → tk σ (upd H p (.dT [])) fun x H1 => tv σ H1 fun y H2 => H2 p = some (.dT []) ∧ ∃ (b : Addr) (k : List Key), x = .ref b ∧ H2 b = some (.tup (k.map kV)) ∧ Q (.ref p) (upd H2 p (.dT [(k, y)]))
theorem pe_disp1T {X : Cx} {pos : Pos} {k v : Expr} {tk tv : TE} (hu : X.A.units + 64 < cLine) (hk : PE X k tk) (hv : PE X v tv) : PE X (.Dict [some k] [v] pos) (tDisp1T tk tv) := by
  refine ⟨fun pins s σ H Q I q => ?_⟩
  have hn := I.hok.fresh (Nat.le_refl s.heap.objs.size)
  have I1 := I.laid (a := s.heap.objs.size) (o := .dT []) (h' := s.heap.push { cls := .type "dict", data := .dict #[] }) (t' := s.toks) (fun _ _ q => Heap.get?_push_of_some _ q) (Nat.le_refl _) (dt_empty s.heap I.big)
  have hl : (pairTrees [some k] [v] X.env pos).length = 1 := rfl
  rw [arm_eval_Dict, zip_pairTrees [some k] [v] X.env pos rfl rfl, dictDisplay_pairs (pairTrees [some k] [v] X.env pos) (by intro z; cases z) (by rw [hl]; decide)]
  refine wpAny_bind (wpAny_standAt (wpAny_bind (wpAny_subDictH (knd := tupleKind (mixKind X.prog X.w)) (Q := fun d s' => wpAny (model X.prog X.w) X.A (pure (Value.ref d)) (EP X pins σ Q) X.xe s') (show X.A.units < cLine by omega) (by rw [hl]; decide) ?_)))
  have P := pps_cons (X := X) (pos := pos) hk hv pps_nil
  refine thn (P.run pins _ σ _ (fun ps H2 => match ps with
    | [(x, y)] => H2 s.heap.objs.size = some (.dT []) ∧ ∃ (b : Addr) (k : List Key), x = .ref b ∧ H2 b = some (.tup (k.map kV)) ∧ Q (.ref s.heap.objs.size) (upd H2 s.heap.objs.size (.dT [(k, y)]))
    | _ => False) I1 (q _ hn)) fun ws s2 ⟨ps, H2, I2, rel, qq⟩ => ?_
  match ps, rel, qq with
  | [], _, qq => exact False.elim qq
  | _ :: _ :: _, _, qq => exact False.elim qq
  | [(x, y)], rel, qq =>
    obtain ⟨e, b, kk, ex, eb, q2⟩ := qq
    subst ex
    cases rel with
    | @cons a qv as bs r rr =>
      cases rr
      obtain ⟨u, v'⟩ := qv
      obtain ⟨ru, rv⟩ := r
      have ru' : u = Value.ref b := ru
      subst ru'
      obtain ⟨z, hd, xs, rel, dd⟩ := dt_of I2.hok e
      cases rel
      refine ⟨[(kk, b, v')], ⟨rfl, rfl, key_of I2.hok eb, trivial⟩, dd, fun h' tk dd' hs => ?_⟩
      obtain ⟨o, es, ep, hq, h2, h3, h4, _, h5⟩ := dd'
      refine wpAny_pure ⟨.ref s.heap.objs.size, _, ?_, rfl, q2⟩
      refine d_write I2 (by rw [e]; exact True.intro) hs ⟨o, hq⟩ ⟨by show 1 ≤ sizeLine; decide, hd, _, .cons ⟨rfl, ?_, rv⟩ .nil, o, es, ep, hq, h2, h3, h4, h5⟩
      rw [upd_ne (ne_of eb e (fun z => nomatch z))]
      exact eb
end Gk
namespace Gk
open PySem PySem.Spec PyProof.Rows L2
section
variable {K : PySem.W.Frag} {σ : L2.St} {H : Hp} {Q : VK} {td ty te : TE} {a b : Addr} {kvs : List (List Key × V)} {k : List Key} {v : V} {R : Hp → Prop}
theorem k_disp1T {tk tv : TE} (h : ∀ p H1, H p = none → Same H H1 → H1 p = some (.dT []) → tk σ H1 fun x H2 => tv σ H2 fun y H3 => H3 p = some (.dT []) ∧ ∃ (b : Addr) (k : List Key), x = .ref b ∧ H3 b = some (.tup (k.map kV)) ∧ Q (.ref p) (upd H3 p (.dT [(k, y)]))) : tDisp1T tk tv σ H Q := fun p hp => h p _ hp (sm_new hp) upd_same
theorem k_nDgT (hp : H a = some (.dT kvs)) (hb : H b = some (.tup (k.map kV))) (hl : valV kvs k = some v) (h : Q v H) : nDg (.ref a) (.ref b) H Q := ⟨a, v, rfl, by rw [← hl]; exact DGet.t hp hb, h⟩
def nDi (neg : Bool) (x y : V) (H : Hp) (Q : VK) : Prop := ∃ a o, x = .ref a ∧ DGet H a y o ∧ Q (.bl (if neg then !o.isSome else o.isSome)) H
theorem k_din (h : ty σ H fun y H1 => td σ H1 fun x H2 => nDi false x y H2 Q) : tDIn ty td σ H Q := h
theorem k_dni (h : ty σ H fun y H1 => td σ H1 fun x H2 => nDi true x y H2 Q) : tDNotIn ty td σ H Q := h
theorem k_nDiT {neg : Bool} (hp : H a = some (.dT kvs)) (hb : H b = some (.tup (k.map kV))) (h : Q (.bl (if neg then !(valV kvs k).isSome else (valV kvs k).isSome)) H) : nDi neg (.ref a) (.ref b) H Q := ⟨a, _, rfl, DGet.t hp hb, h⟩
end
/-! ### list(text) -/
end Gk
set_option Elab.async false
set_option autoImplicit false
set_option linter.all false
set_option maxRecDepth 100000
set_option maxHeartbeats 4000000
/-! # sorted(xs, key=f), f a def of the module or a lambda, over the reading layer; keys may hold lists -/
namespace Gk
open PySem PySem.Spec PyProof.Rows L2 LamX NdefX
open PySem.W (EachIs AllAlike Sortable dataLe KeyedOut KeepsBut sortVals dataKind SortsAt)
section
variable {X : Cx} {pins : List (Addr × Obj)} {σ : L2.St} {H H' : Hp} {s : Shared} {a : Addr}
end
section
variable {X : Cx} {pins : List (Addr × Obj)} {σ : L2.St} {H : Hp} {s : Shared} {a kS : Addr} {f : Value} {n : Nat} {C : Hp → Shared → Prop} {sp : V → Hp → VK → Prop} {xs : List V} {vs : List Value} {kz : List PyData} {E : Value → Shared → Prop}
end
/-! ## x(lambda: ..) where several tables are known -/
/-! ## the rules -/
section
variable {X : Cx} {k j : Nat} {sp : Sp} {x : Str} {e : Expr} {te : TE} {p p2 p3 pos : Pos}
end
/-! ### a lambda with one parameter as the key -/
section
variable {X : Cx} {k j n : Nat} {e body : Expr} {te tb : TE} {p p3 lpos pos : Pos} {c Pt : Addr} {T : List (Addr × Str)} {params : Arguments} {scope : Scope} {a : Str} {N fr : List Str} {js : List Nat}
end
/-! ## steps -/
section
variable {K : PySem.W.Frag} {T : List (Addr × Str)} {σ : L2.St} {H : Hp} {Q : VK} {te tb : TE} {sp : Sp} {spk : V → Hp → VK → Prop} {N : List Str} {js : List Nat}
end
/-! ## dicts with tuple keys: len, list; long lists and dicts -/
section
variable {K : PySem.W.Frag} {H : Hp} {Q : VK} {a b : Addr} {kvs : List (List Key × V)} {k : List Key} {v : V} {R : Hp → Prop} {xs : List V}
theorem k_nDpTz (hp : H a = some (.dT kvs)) (hb : H b = some (.tup (k.map kV))) (hl : kvs.length < 16000000) (h : R (upd H a (.dT (putK kvs k v)))) : nDp (.ref a) (.ref b) v H R := ⟨a, _, rfl, DPut.t hp hb (Nat.lt_trans hl (by decide)), h⟩
theorem k_appendZ {y : V} (hp : H a = some (.lst xs)) (hl : xs.length < 16000000) (h : Q .non (upd H a (.lst (xs ++ [y])))) : rAppend (.ref a) [y] H Q := ⟨a, xs, y, rfl, rfl, hp, Nat.lt_trans hl (by decide), h⟩
end
end Gk
set_option Elab.async false
set_option autoImplicit false
set_option linter.all false
set_option maxRecDepth 100000
set_option maxHeartbeats 4000000
/-! # {k: v for ..} whose keys are tuples of ints and texts -/
namespace Gk
open PySem PySem.Spec PyProof.Rows L2
section
variable {X : Cx}
theorem dT_put {pins : List (Addr × Obj)} {σ : L2.St} {H : Hp} {s : Shared} {E : Value → Shared → Prop} {D b : Addr} {kvs : List (List Key × V)} {k : List Key} {v : V} {u r : Value} {Q : Unit → Shared → Prop} (hu : X.A.units + 64 < cLine) (I : Inv X pins σ H s) (hD : H D = some (.dT kvs)) (hb : H b = some (.tup (k.map kV))) (hz : kvs.length < sizeLine) (ru : RelV (.ref b) u) (rv : RelV v r)
    (h : ∀ s', Inv X pins σ (upd H D (.dT (putK kvs k v))) s' → Q () s') : wpAny (model X.prog X.w) X.A (dictSet D u r) Q E s := by
  cases (show u = Value.ref b from ru)
  obtain ⟨z, ns, xs, rel, dd⟩ := dt_of I.hok hD
  have l1 : xs.length ≤ sizeLine := by rw [← Paired.length rel]; exact z
  have l2 : (putK kvs k v).length ≤ sizeLine := Nat.le_trans (length_putK kvs k v) hz
  refine wpAny_dictSet_heap (knd := tupleKind (mixKind X.prog X.w)) (hsz := l1) (show X.A.units < cLine by omega) (key_of I.hok hb) dd fun h2 d2 same => h _ ?_
  obtain ⟨o, es, ep, x1, x2, x3, x4, _, x6⟩ := d2
  refine d_write I (by rw [hD]; exact True.intro) same ⟨o, x1⟩ ⟨l2, ns, _, (rel.put k hb rv).keeps fun c ys ec => ?_, o, es, ep, x1, x2, x3, x4, x6⟩
  rw [upd_ne (ne_of ec hD (fun z => nomatch z)), ec]
/-- the comprehension; D is the new dict -/
def tDcT (wi : TI) (g : TG) (tt : TT) (tk tv : TE) (vs : List Nat) : TE := fun σ H Q => wi σ H fun J H1 => ∀ D, H1 D = none → ∃ W : Nat → Nat → Hp → Prop, (∃ m, W 0 m (upd H1 D (.dT []))) ∧ ∀ i m H, W i m H →
  (J.stop i H ∧ Q (.ref D) H) ∨ (J.go i H ∧ ∃ Nx : Hp → Prop, (∀ H', Nx H' → ∃ m', m' < m ∧ W (i + 1) m' H') ∧ ∀ x H', J.yld i H x H' → g x (wipe σ vs) H' fun σ2 H2 => wipe σ2 vs = wipe σ vs ∧ tt σ2 H2 fun b H3 =>
    nIte b (tk σ2 H3 fun y H4 => tv σ2 H4 fun z H5 => ∃ kvs k c, y = .ref c ∧ H5 c = some (.tup (k.map kV)) ∧ H5 D = some (.dT kvs) ∧ kvs.length < sizeLine ∧ Nx (upd H5 D (.dT (putK kvs k z)))) (Nx H3))
theorem pe_dcT {kx vx tg it0 : Expr} {ifs : List Expr} {sc : Scope} {own : List (PySem.Str × Nat)} {pos : Pos} {wi : TI} {g : TG} {tt : TT} {tk tv : TE}
    (hu : X.A.units + 64 < cLine) (hN : X.N.Nodup) (hi : PI X tg it0 wi) (ok : BlkOk X.N X.env.scope sc own)
    (hg : ∀ s H C cl fp, PG (bx X sc s H C cl fp) tg g) (ht : ∀ s H C cl fp, PTs (bx X sc s H C cl fp) ifs tt) (hk : ∀ s H C cl fp, PE (bx X sc s H C cl fp) kx tk) (he : ∀ s H C cl fp, PE (bx X sc s H C cl fp) vx tv) (hc : X.calm = true := by rfl) (hs : ∀ x, foldedSetIterable it0 X.env x = pure x := by intro _; rfl) :
    PE X (.DictComp kx vx [⟨tg, it0, ifs, 0⟩] sc pos) (tDcT wi g tt tk tv (own.map (·.2))) := by
  refine ⟨fun pins s σ H Q I h => ?_⟩
  rw [arm_eval_DictComp]
  have frees : ∀ y ∈ sc.names, y.2 = .free → ∃ c, X.env.cells.lookup y.1 = some c := fun y hy e => (ok.free y hy e).elim (fun k => I.ok.has _ (.inl k)) fun k => I.ok.has _ (.inr k)
  refine wpAny_comprehension_free (use := none) rfl hs (closure_ok frees) ok.kind (fun y hy e => by rw [ok.uniq y hy, e]) (thn (hi.run pins s σ H _ I h) fun xv s1 h1 => thn h1 fun iv s2 h2 => ?_)
  obtain ⟨it, fp, tn, J, H2, rfl, I2, T, u2, f2, q⟩ := h2
  refine wpAny_newObj_type (newEnv_comp ?_)
  generalize eD : s2.heap.objs.size = D
  obtain ⟨W, ⟨m0, w0⟩, turn⟩ := q D (I2.hok.fresh (Nat.le_of_eq eD))
  obtain ⟨s3, es3⟩ : ∃ s3 : Shared, s3 = { s2 with heap := s2.heap.push { cls := .type "dict", data := .dict #[] } } := ⟨_, rfl⟩
  obtain ⟨H3, eH3⟩ : ∃ H3, H3 = upd H2 D (.dT []) := ⟨_, rfl⟩
  have hp3 : s3.heap = s2.heap.push { cls := .type "dict", data := .dict #[] } := by rw [es3]
  have I3 : Inv X pins σ H3 s3 := by
    rw [es3, eH3]
    refine I2.laid (t' := s2.toks) (fun b o e => Heap.get?_push_of_some _ e) (Nat.le_of_eq eD) ?_
    rw [← eD]
    exact dt_empty _ I2.big
  have old3 : ∀ b o, s2.heap.get? b = some o → s3.heap.get? b = some o := fun b o e => by rw [hp3]; exact Heap.get?_push_of_some _ e
  have f3 : ∀ b ∈ fp, FpOk X pins H3 b ∧ b < s3.heap.objs.size := fun b hb => by
    obtain ⟨o, e, _⟩ := T.obj _ _ u2 b hb
    have lt : b < s2.heap.objs.size := Heap.lt_size e
    refine ⟨⟨?_, (f2 b hb).2⟩, by rw [hp3, Heap.size_push]; exact Nat.lt_succ_of_lt lt⟩
    rw [eH3, upd_ne (by rw [← eD]; exact Nat.ne_of_lt lt)]
    exact (f2 b hb).1
  have I4 := block_start I3 ok hN f3
  rw [← eH3] at w0
  rw [← es3]
  show codeAny _ _ (.compStart (.DictComp kx vx [⟨tg, it0, ifs, 0⟩] sc pos) 0 (.ref it) (.ref D) (compEnvC sc (cellsFrom (s3.heap.objs.size + 1) sc.names (cloFrom X.env.cells sc.names [])) s3.heap.objs.size X.env))
    (compPost (model X.prog X.w) X.A X.xe none (EP X pins σ Q) (.ref D) s3.heap.objs.size) { s3 with heap := pushCells (s3.heap.push { cls := .type "dict", data := .dict #[] }) sc.names }
  have pg := hg s3 H3 s3.heap.objs.size (cellsFrom (s3.heap.objs.size + 1) sc.names (cloFrom X.env.cells sc.names [])) fp
  have pt := ht s3 H3 s3.heap.objs.size (cellsFrom (s3.heap.objs.size + 1) sc.names (cloFrom X.env.cells sc.names [])) fp
  have pk := hk s3 H3 s3.heap.objs.size (cellsFrom (s3.heap.objs.size + 1) sc.names (cloFrom X.env.cells sc.names [])) fp
  have pe := he s3 H3 s3.heap.objs.size (cellsFrom (s3.heap.objs.size + 1) sc.names (cloFrom X.env.cells sc.names [])) fp
  generalize ece : compEnvC sc (cellsFrom (s3.heap.objs.size + 1) sc.names (cloFrom X.env.cells sc.names [])) s3.heap.objs.size X.env = ce at I4 ⊢
  have lce : ce.locals = s3.heap.objs.size := by rw [← ece]; rfl
  obtain ⟨s4, es4⟩ : ∃ s4 : Shared, s4 = { s3 with heap := pushCells (s3.heap.push { cls := .type "dict", data := .dict #[] }) sc.names } := ⟨_, rfl⟩
  rw [← es4] at I4 ⊢
  have u3 : tn 0 s3.heap := T.keep _ _ _ u2 fun b _ o e => old3 b o e
  have u4 : tn 0 s4.heap := T.keep _ _ _ u3 fun b _ o e => by rw [es4]; exact pushCells_keeps _ _ _ _ (Heap.get?_push_of_some _ e)
  unfold bx at pg pt pe pk
  rw [ece] at pg pt pe pk
  have out : ∀ {σ' : L2.St} {H' : Hp} {z : Shared}, Inv (X.blk s3 H3 sc ce fp) [] σ' H' z → (∀ b ∈ fp, H' b = none) → ∀ b ∈ fp, FpOk (X.blk s3 H3 sc ce fp) [] H' b := fun Iz hn b hb =>
    ⟨hn b hb, (Iz.ok.exf b hb).1, Iz.ok.exfs b hb, .inl hb, fun x c e => (Iz.ok.exf b hb).2 x c e, fun p hp => by simp [show p ∈ ([] : List (Addr × Obj)) ++ [] ↔ False by simp] at hp⟩
  have lp : codeAny (model X.prog X.w) X.A (.compLoop (.DictComp kx vx [⟨tg, it0, ifs, 0⟩] sc pos) 0 (.ref it) (.ref D) ce) (compPost (model X.prog X.w) X.A X.xe none (EP X pins σ Q) (.ref D) s3.heap.objs.size) s4 := by
    refine compLoop_anyD (fun n z => ∃ i H', Inv (X.blk s3 H3 sc ce fp) [] (wipe σ (own.map (·.2))) H' z ∧ tn i z.heap ∧ (∀ b ∈ fp, H' b = none) ∧ W i n H') (fun n z hz => ?_) m0 ⟨0, H3, I4, u4, fun b hb => (f3 b hb).1.1, w0⟩
    obtain ⟨i, Hz, Iz, uz, nz, wz⟩ := hz
    rcases turn i n Hz wz with ⟨st, qe⟩ | ⟨go, Nx, hNx, step⟩
    · refine thnF (T.done (X.blk s3 H3 sc ce fp) rfl rfl rfl hc i [] z _ Hz (fun _ _ => False) Iz (out Iz nz) uz st) fun rr z2 ⟨er, I6⟩ => ?_
      subst er
      have I7 : Inv X pins σ Hz z2 := I3.call' (ch := fp) I6.os I6.base I6.hok I6.bare fun b hb => ⟨(f3 b hb).1.2.2.2.1, (f3 b hb).1.2.1, (f3 b hb).1.2.2.2.2.1, (f3 b hb).1.2.2.2.2.2⟩
      have nC : Hz s3.heap.objs.size = none := by
        have h0 : Hz ce.locals = none := I6.free
        rw [lce] at h0
        exact h0
      obtain ⟨mm, hm, _⟩ := I6.loc
      have hm : z2.heap.Ns ce.locals mm := hm
      rw [lce] at hm
      obtain ⟨g0, g1, g2, g3, g4, g5⟩ := I3.fpOk (Nat.le_refl _) nC
      exact ⟨mm, hm, fun h'' sb => ⟨.ref D, Hz, I7.turned (t' := z2.toks) (fun b o hb e => (sb.2 b hb).trans e) g0 g1 g3 g4 g5, rfl, qe⟩⟩
    · refine thnF (T.item (X.blk s3 H3 sc ce fp) rfl rfl rfl hc i [] z _ Hz (fun _ _ => False) Iz (out Iz nz) uz go) fun rr z6 ⟨u, er, h6⟩ => ?_
      subst er
      refine thnF h6 fun _ z7 ⟨x, H7, I7, r7, y7, u7, n7⟩ => ?_
      refine thnF (pg.run _ z7 _ H7 x u _ (I7.pinned (out I7 n7) (T.obj _ _ u7)) r7 (step x H7 y7)) fun _ z8 ⟨σ8, H8, I8, ew, q8⟩ => ?_
      refine thnF (pt.run _ z8 σ8 H8 _ I8 q8) fun b z9 ⟨H9, I9, q9⟩ => ?_
      have fin : ∀ {z' : Shared} {H' : Hp}, Inv (X.blk s3 H3 sc ce fp) ([] ++ pinsAt fp z7.heap) σ8 H' z' → Nx H' → ∃ m, m < n ∧ ∃ i H', Inv (X.blk s3 H3 sc ce fp) [] (wipe σ (own.map (·.2))) H' z' ∧ tn i z'.heap ∧ (∀ b ∈ fp, H' b = none) ∧ W i m H' := fun {z' H'} I' nx => by
        obtain ⟨m', lt, w'⟩ := hNx H' nx
        have pin : ∀ b ∈ fp, ∀ o, z7.heap.get? b = some o → z'.heap.get? b = some o ∧ H' b = none := fun b hb o e =>
          ⟨(I'.pin (b, o) (List.mem_append_right _ (List.mem_append_right _ (mem_pinsAt hb e)))).1, (I'.pin (b, o) (List.mem_append_right _ (List.mem_append_right _ (mem_pinsAt hb e)))).2.1⟩
        refine ⟨m', lt, i + 1, H', (I'.unpinned (pins := [])).weak (by rw [← ew, wipe_length]) (fun j v e => ?_), T.keep _ _ _ u7 fun b hb o e => (pin b hb o e).1, fun b hb => ?_, w'⟩
        · rw [← ew] at e
          exact (wipe_some e).1
        · obtain ⟨o, e, _⟩ := T.obj _ _ u7 b hb
          exact (pin b hb o e).2
      cases b with
      | false =>
        simp only [nIte, Bool.false_eq_true, if_false] at q9 ⊢
        exact fin I9 q9
      | true =>
        simp only [nIte, if_true] at q9 ⊢
        refine thnF (pk.run _ z9 σ8 H9 _ I9 q9) fun kv z10 ⟨yk, H10, I10, r10, q10⟩ => ?_
        refine thnF (pe.run _ z10 σ8 H10 _ I10 q10) fun vv z11 ⟨yv, H11, I11, r11, kvs, k, c, ey, ec, eD2, hz11, nx⟩ => ?_
        subst ey
        exact dT_put (X := X.blk s3 H3 sc ce fp) hu I11 eD2 ec hz11 r10 r11 fun z12 I12 => fin I12 nx
  exact codeAny_compStart_dict lp (T.self X.A 0 _ _ _ u4 lp)
end
section
variable {K : PySem.W.Frag} {σ : L2.St} {H : Hp} {Q : VK}
def nDcT (J : It) (g : TG) (tt : TT) (tk tv : TE) (vs : List Nat) (σ : L2.St) (H1 : Hp) (Q : VK) : Prop := ∀ D, H1 D = none → ∃ W : Nat → Nat → Hp → Prop, (∃ m, W 0 m (upd H1 D (.dT []))) ∧ ∀ i m H, W i m H →
  (J.stop i H ∧ Q (.ref D) H) ∨ (J.go i H ∧ ∃ Nx : Hp → Prop, (∀ H', Nx H' → ∃ m', m' < m ∧ W (i + 1) m' H') ∧ ∀ x H', J.yld i H x H' → g x (wipe σ vs) H' fun σ2 H2 => wipe σ2 vs = wipe σ vs ∧ tt σ2 H2 fun b H3 =>
    nIte b (tk σ2 H3 fun y H4 => tv σ2 H4 fun z H5 => ∃ kvs k c, y = .ref c ∧ H5 c = some (.tup (k.map kV)) ∧ H5 D = some (.dT kvs) ∧ kvs.length < sizeLine ∧ Nx (upd H5 D (.dT (putK kvs k z)))) (Nx H3))
theorem k_dcT {wi : TI} {g : TG} {tt : TT} {tk tv : TE} {vs : List Nat} (h : wi σ H fun J H1 => nDcT J g tt tk tv vs σ H1 Q) : tDcT wi g tt tk tv vs σ H Q := h
/-- Pv tells the turn and the entries so far, without the heap -/
theorem k_nDcT {J : It} {n : Nat} {G : Hp → Prop} {Y : Nat → Hp → V → Hp → Prop} {g : TG} {tt : TT} {tk tv : TE} {vs : List Nat} (w : Walk J n G Y) (hG : ∀ H', Same H H' → G H') (Pv : Nat → List (List Key × V) → Prop) (h0 : Pv 0 []) (hz : ∀ i kvs, i ≤ n → Pv i kvs → kvs.length ≤ 50000)
    (hs : ∀ (i : Nat) (x : V) (H1 H2 : Hp) (kvs : List (List Key × V)) (Kp : V → VK) (Ks : Hp → Prop), i < n → Same H H1 → Pv i kvs → Y i H1 x H2 → (∀ c k z H5, Same H1 H5 → H5 c = some (.tup (k.map kV)) → Pv (i + 1) (putK kvs k z) → Kp (.ref c) z H5) → (∀ H5, Same H1 H5 → Pv (i + 1) kvs → Ks H5) →
      g x (wipe σ vs) H2 fun σ2 H3 => wipe σ2 vs = wipe σ vs ∧ tt σ2 H3 fun b H4 => nIte b (tk σ2 H4 fun y H5 => tv σ2 H5 fun z H6 => Kp y z H6) (Ks H4))
    (hd : ∀ (p : Addr) (H' : Hp) (kvs : List (List Key × V)), H p = none → Same H H' → H' p = some (.dT kvs) → Pv n kvs → Q (.ref p) H') : nDcT J g tt tk tv vs σ H Q := by
  intro D hD
  refine ⟨fun i m H' => m = n - i ∧ i ≤ n ∧ ∃ kvs : List (List Key × V), Same H H' ∧ H' D = some (.dT kvs) ∧ Pv i kvs, ⟨n, by simp, Nat.zero_le _, [], sm_new hD, upd_same, h0⟩, ?_⟩
  rintro i m H' ⟨rfl, hi, kvs, s1, e1, q1⟩
  by_cases hlt : i < n
  · refine .inr ⟨w.goes i H' hlt (hG _ s1), fun H2 => i + 1 ≤ n ∧ ∃ kvs : List (List Key × V), Same H H2 ∧ H2 D = some (.dT kvs) ∧ Pv (i + 1) kvs, fun H2 p' => ⟨n - (i + 1), by omega, rfl, p'.1, p'.2⟩, fun x H2 y => ?_⟩
    exact hs i x H' H2 kvs _ _ hlt s1 q1 (w.yields i H' x H2 hlt (hG _ s1) y) (fun c k z H5 s5 ec q5 => ⟨kvs, k, c, rfl, ec, s5 D _ e1, sz_lt (by have := hz i kvs (by omega) q1; omega), hlt, putK kvs k z, sm_mut (s1.trans s5) hD, upd_same, q5⟩) (fun H5 s5 q5 => ⟨hlt, kvs, s1.trans s5, s5 D _ e1, q5⟩)
  · have e : i = n := by omega
    subst e
    exact .inl ⟨w.stops H' (hG _ s1), hd D H' kvs hD s1 e1 q1⟩
end
/-! ## a new dict sealed for good: gone through where it was made -/
def tSealE (t : TE) : TE := fun σ H Q => t σ H fun x H1 => ∃ d u, x = .ref d ∧ H1 d = some u ∧ Mut (some u) ∧ ∀ od, Q x (upd H1 d (.frz od u))
theorem pe_seal {X : Cx} {e : Expr} {t : TE} (h : PE X e t) : PE X e (tSealE t) := ⟨fun pins s σ H Q I hw => thn (h.run pins s σ H _ I hw) fun v s1 ⟨x, H1, I1, r, d, u, _, hd, mu, q⟩ => by
  obtain ⟨od, I2⟩ := I1.lock hd mu
  exact ⟨x, _, I2, r, q od⟩⟩
section
variable {K : PySem.W.Frag} {σ : L2.St} {H : Hp} {Q : VK}
theorem k_seal {t : TE} (h : t σ H fun x H1 => ∃ d u, x = .ref d ∧ H1 d = some u ∧ Mut (some u) ∧ ∀ od, Q x (upd H1 d (.frz od u))) : tSealE t σ H Q := h
def rIns : V → List V → Hp → VK → Prop := fun x vs H Q => ∃ (l : Addr) (xs : List V) (i : Int) (y : V), x = .ref l ∧ vs = [.int i, y] ∧ H l = some (.lst xs) ∧ xs.length < sizeLine ∧ 0 ≤ i ∧ i < 2 ^ 63 ∧ Q .non (upd H l (.lst (xs.take i.toNat ++ [y] ++ xs.drop i.toNat)))
theorem mt_ins {X : Cx} : MtR X "list.insert" rIns := mt_insert
theorem k_ins {l : Addr} {xs : List V} {i : Int} {y : V} (hH : H l = some (.lst xs)) (hz : xs.length ≤ 90000) (h0 : 0 ≤ i) (h1 : i ≤ 100000) (h : Q .non (upd H l (.lst (xs.take i.toNat ++ [y] ++ xs.drop i.toNat)))) : rIns (.ref l) [.int i, y] H Q := ⟨l, xs, i, y, rfl, rfl, hH, sz_lt (by omega), h0, by omega, h⟩
end
end Gk
set_option autoImplicit true
set_option pp.maxSteps 1200
set_option Elab.async false
set_option linter.all false
set_option maxRecDepth 100000
set_option maxHeartbeats 1000000
namespace Lw
open PySem PySem.Spec PyProof.Rows L2 Gk

abbrev FnP (K : PySem.W.Frag) (x : Str) (st : Stmt) (f : Addr) (fd : FuncData) : Prop := FunD K x x (defArgs st) (defBody st) (defScope st) [] [] f fd

local macro_rules | `(tactic| walk_at "hp") => `(tactic| first | assumption | exact upd_same | (refine' (upd_ne ?n).trans ?h; (case n => assumption); (case h => walk_at "hp")) | (refine' sm_get ?s ?h; (case s => assumption); (case h => walk_at "hp")))
local macro_rules | `(tactic| walk_at "sq") => `(tactic| first | assumption | (refine' sq_l ?h; (case h => walk_at "hp")) | (refine' sm_l ?s ?h; (case s => assumption); (case h => walk_at "sq")))
local macro_rules | `(tactic| walk_at "st") => `(tactic| first | assumption | (refine' sq_t ?h; (case h => walk_at "hp")) | (refine' sm_t ?s ?h; (case s => assumption); (case h => walk_at "st")))
local macro_rules | `(tactic| walk_at "bg") => `(tactic| first | assumption | (refine' BagOk.sm ?s ?h; (case s => assumption); (case h => walk_at "bg")))
local macro_rules | `(tactic| walk_at "sm") => `(tactic| first | assumption | exact Same.refl _ | (refine' Same.trans ?h ?s; (case s => assumption); (case h => walk_at "sm")))
local macro_rules | `(tactic| walk_at "hs") => `(tactic| first | assumption | (refine' HsAt.sm ?s ?h; (case s => assumption); (case h => walk_at "hs")))
local macro_rules | `(tactic| walk_at "ms") => `(tactic| first | assumption | (refine' MAt.sm ?s ?h; (case s => assumption); (case h => walk_at "ms")))
local macro_rules | `(tactic| walk_at "dp") => `(tactic| first | assumption | (refine' dp_sm ?s ?h; (case s => assumption); (case h => walk_at "dp")))
local macro_rules | `(tactic| walk_at "sz") => `(tactic| first | decide | assumption | omega | (simp only [List.length_cons, List.length_nil, List.length_map, List.length_append]; omega))
local macro_rules | `(tactic| walk_at "g1") => `(tactic| first
  | with_reducible refine k_seq ?_
  | with_reducible refine k_itB ?_
  | with_reducible refine k_next ?_
  | with_reducible refine k_asg ?_
  | with_reducible refine k_name ?_
  | with_reducible refine k_ret ?_
  | with_reducible refine k_retN ?_
  | with_reducible refine k_drop ?_
  | with_reducible refine k_ifs ?_
  | with_reducible refine k_brk ?_
  | with_reducible refine k_cont ?_
  | with_reducible refine k_ipI ?_
  | with_reducible refine k_test ?_
  | with_reducible refine k_tB ?_
  | with_reducible refine k_bl ?_
  | with_reducible refine k_not ?_
  | with_reducible refine k_and ?_
  | with_reducible refine k_or ?_
  | with_reducible refine k_yes ?_
  | with_reducible refine k_true ?_
  | with_reducible refine k_false ?_
  | with_reducible refine k_nt ?_
  | with_reducible refine k_c ?_
  | with_reducible refine k_op ?_
  | with_reducible refine k_un ?_
  | with_reducible refine k_if ?_
  | with_reducible refine k_chain ?_
  | with_reducible refine k_nil ?_
  | with_reducible refine k_cons ?_
  | with_reducible refine k_cb ?_
  | with_reducible refine k_call ?_
  | with_reducible refine k_callS ?_
  | with_reducible refine k_andV ?_
  | with_reducible refine k_orV ?_
  | with_reducible refine k_notV ?_
  | with_reducible refine k_lst ?_
  | with_reducible refine k_tup ?_
  | with_reducible refine k_nopart ?_
  | with_reducible refine k_part ?_
  | with_reducible refine k_nInt ?_
  | with_reducible refine k_sl ?_
  | with_reducible refine k_bm ?_
  | with_reducible refine k_bm0 ?_
  | with_reducible refine k_nTyS ?_
  | with_reducible refine k_m1 ?_
  | with_reducible refine k_m0 ?_
  | with_reducible refine k_nStr ?_
  | with_reducible refine k_I0 ?_
  | with_reducible refine k_U ?_
  | with_reducible refine k_add_i ?_
  | with_reducible refine k_eq_i ?_
  | with_reducible refine k_eq_s ?_
  | with_reducible refine k_eq_b ?_
  | with_reducible refine k_ne_i ?_
  | with_reducible refine k_ne_s ?_
  | with_reducible refine k_ne_b ?_
  | with_reducible refine k_le_i ?_
  | with_reducible refine k_le_s ?_
  | with_reducible refine k_gnil ?_
  | with_reducible refine k_gcons ?_
  | with_reducible refine k_gsub ?_
  | with_reducible refine k_for ?_
  | with_reducible refine k_lc ?_
  | with_reducible refine k_rng1 ?_
  | with_reducible refine k_rng2 ?_
  | with_reducible refine k_itl ?_
  | with_reducible refine k_itt ?_
  | with_reducible refine k_its ?_
  | with_reducible refine k_ite ?_
  | with_reducible refine k_iteB ?_
  | with_reducible refine k_lrg2 ?_
  | with_reducible refine k_itz ?_
  | with_reducible refine k_nIts ?_
  | with_reducible refine k_inS ?_
  | with_reducible refine k_niS ?_
  | with_reducible refine k_mk ?_
  | with_reducible refine k_meth ?_
  | with_reducible refine k_fld ?_
  | with_reducible refine k_sfld ?_
  | with_reducible refine k_dg ?_
  | with_reducible refine k_dp ?_
  | with_reducible refine k_pr ?_
  | with_reducible refine k_pr0 ?_
  | with_reducible refine k_sg ?_
  | with_reducible refine k_lc2 ?_
  | with_reducible refine k_callN ?_
  | with_reducible refine k_callNS ?_
  | with_reducible refine k_par ?_
  | with_reducible refine k_nPar ?_
  | with_reducible refine k_isNn ?_
  | with_reducible refine k_isNr ?_
  | with_reducible refine k_ntNn ?_
  | with_reducible refine k_ntNr ?_
  | with_reducible refine k_min2 ?_
  | with_reducible refine k_max2 ?_
  | with_reducible refine k_intB ?_
  | with_reducible refine k_intI ?_
  | with_reducible refine k_isBl ?_
  | with_reducible refine k_ntBl ?_
  | ((with_reducible refine' k_var ?kv ?_); (case kv => exact rfl))
  | ((with_reducible refine' k_aug ?kv ?_); (case kv => exact rfl))
  | ((with_reducible refine' k_ix_l ?ks ?ki ?_); (case ks => walk_at "sq"); (case ki => exact rfl))
  | ((with_reducible refine' k_ix_t ?ks ?ki ?_); (case ks => walk_at "st"); (case ki => exact rfl))
  | ((with_reducible refine' k_len_l ?ks ?_); (case ks => walk_at "sq"))
  | ((with_reducible refine' k_len_t ?ks ?_); (case ks => walk_at "st"))
  | ((with_reducible refine' k_setL ?ks ?ki ?_); (case ks => walk_at "hp"); (case ki => exact rfl))
  | ((with_reducible refine' k_nTyL ?ks ?_); (case ks => walk_at "sq"))
  | ((with_reducible refine' k_nItl ?ks ?_); (case ks => walk_at "sq"))
  | ((with_reducible refine' k_nItt ?ks ?_); (case ks => walk_at "st"))
  | ((with_reducible refine' k_nIte ?ks ?_); (case ks => walk_at "sq"))
  | ((with_reducible refine' k_mul ?km ?_); (case km => first | exact Or.inr ⟨by decide, by decide⟩ | exact Or.inl ⟨by decide, by decide⟩))
  | ((with_reducible refine' k_I ?km ?_); (case km => first | assumption | decide | exact ⟨by decide, by decide +kernel⟩ | exact ⟨by decide, by decide, by decide⟩))
  | ((with_reducible refine' k_nMeth ?kp ?kl ?_); (case kp => walk_at "hp"); (case kl => exact rfl))
  | ((with_reducible refine' k_nFld ?kp ?kc ?kn ?kl ?_); (case kp => walk_at "hp"); (case kc => assumption); (case kn => assumption); (case kl => exact rfl))
  | ((with_reducible refine' k_nSFld ?kp ?kc ?kn ?kl ?_); (case kp => walk_at "hp"); (case kc => assumption); (case kn => assumption); (case kl => exact of_decide_eq_true rfl))
  | ((with_reducible refine' k_nDg ?kp ?kl ?_); (case kp => walk_at "hp"); (case kl => exact rfl))
  | ((with_reducible refine' k_nRng1 ?k1 ?k2 ?_); (case k1 => omega); (case k2 => omega))
  | ((with_reducible refine' k_nKw ?k1 ?k2 ?_); (case k1 => exact rfl); (case k2 => exact rfl))
  | ((with_reducible refine' k_hsm ?kh ?_); (case kh => walk_at "hs"))
  | ((with_reducible refine' k_nMethH ?kh ?kl ?_); (case kh => walk_at "hs"); (case kl => exact fun _ _ => rfl))
  | ((with_reducible refine' k_mLet ?kh ?_); (case kh => walk_at "ms"))
  | ((with_reducible refine' k_mChew ?kh ?_); (case kh => walk_at "ms"))
  | ((with_reducible refine' k_mPut ?kh ?_); (case kh => walk_at "ms"))
  | ((with_reducible refine' k_mMost ?kh ?_); (case kh => walk_at "ms"))
  | ((with_reducible refine' k_mCut ?kh ?_); (case kh => walk_at "ms"))
  | ((with_reducible refine' k_gtup ?ks ?kl ?_); (case ks => walk_at "st"); (case kl => exact rfl)))
local macro_rules | `(tactic| walk_at "g") => `(tactic| repeat (walk_at "g1"))
local macro_rules | `(tactic| walk_at "w1") => `(tactic| first
  | walk_at "g1"
  | ((with_reducible refine' k_decT ?kp ?_); (case kp => omega))
  | ((with_reducible refine' k_decF ?kp ?_); (case kp => omega))
  | ((with_reducible refine' k_decNT ?kp ?_); (case kp => omega))
  | ((with_reducible refine' k_decNF ?kp ?_); (case kp => omega)))
local macro_rules | `(tactic| walk_at "w") => `(tactic| repeat (walk_at "w1"))


section
variable {P : Program} {w : World} {K : PySem.W.Frag} {mg : Str → Option Value} {base : Heap} {f : Addr} {fd : FuncData}
/-! ### the bag is made -/
def spBag (K : PySem.W.Frag) : Sp := fun vs H Q _ => ∃ (a : Addr) (ns : List Int), vs = [.ref a] ∧ SqL K H a (ns.map V.int) ∧ ns.length ≤ 63 ∧ ∀ b H', Same H H' → BagOk H' b → Q (.ref b) H'
theorem cut_int (ns : List Int) (lo hi : Option Int) : ∃ ms : List Int, cutV (ns.map V.int) lo hi = ms.map V.int ∧ ms.length ≤ ns.length := by
  refine ⟨(ns.drop (HT.sIx (ns.map V.int).length 0 lo)).take (HT.sIx (ns.map V.int).length (ns.map V.int).length hi - HT.sIx (ns.map V.int).length 0 lo), ?_, ?_⟩
  · unfold cutV
    rw [List.map_take, List.map_drop]
  · rw [List.length_take, List.length_drop]
    omega
theorem ok_Lbag (F : FnP K "_law_bag" s_Lbag f fd) (hm : mg "_law_bag" = some (.ref f)) (f_len : mg "len" = none) (f_list : mg "list" = none) : Callee P w K mg base CX0 "_law_bag" 1 [] (spBag K) := by
  refine ⟨f, fd, _, [], F.ok sc_Lbag (fun vs H Q E h => ?hl) (fun cdv A outer s H vs Q E hr h => ⟨_, PSs.nox (pss_seal (pss_cons (ps_set (i := 1) sc_Lbag.nd rfl (by first | exact Or.inl rfl | exact Or.inr rfl) (pe_callTy (call_listK K) (by rfl) f_list (by decide +kernel) (pa_cons (pe_slice (sl_k K) (pv 0) po_none (po_some pe_int)) pa_nil)))
      (pss_cons (ps_set (i := 2) sc_Lbag.nd rfl (by first | exact Or.inl rfl | exact Or.inr rfl) (pe_op (op_addK K) pe_int (pe_callB (call_lenK K) (by rfl) f_len PySem.boot_len (pa_cons (pv 1) pa_nil))))
      (pss_cons (ps_for PassesOwn.never rfl (pi_listK K (pv 1)) (pg_name (i := 3) sc_Lbag.nd rfl (by first | exact Or.inl rfl | exact Or.inr rfl)) (pss_one (ps_set (i := 2) sc_Lbag.nd rfl (by first | exact Or.inl rfl | exact Or.inr rfl) (pe_op op_mod (pe_op (op_addK K) (pe_op op_mul (pv 2) pe_int) (pv 3)) pe_int))))
      (pss_one (ps_ret (pe_lst (pa_cons (pv 1) (pa_cons pe_int (pa_cons pe_int (pa_cons (pv 2) pa_nil))))))))))), ?rd⟩), hm, F.kp, F.bindsN fun _ _ _ _ _ _ us hl => match us, hl with | [_], _ => rfl, .nil⟩
  case hl =>
    obtain ⟨b, u, rfl, _⟩ := h
    rfl
  case rd =>
    obtain ⟨a, ns, rfl, hS, hn, q⟩ := h
    refine k_start (σ' := [some _, none, none, none]) rfl ?_
    unfold tSeal
    walk_at "g"
    obtain ⟨ms, em, lm⟩ := cut_int ns none (some 63)
    refine k_sl_l hS (fun p1 H1 n1 s1 e1 => ?_)
    rw [em] at e1
    walk_at "g"
    refine k_list_l (sq_l e1) (fun p2 H2 n2 s2 e2 => ?_)
    walk_at "g"
    refine k_nFor (walk_list (xs := ms.map V.int)) (fun i σ H' => ∃ (k : Int) (y : Option V), σ = [some (.ref a), some (.ref p2), some (.int k), y] ∧ H' = H2) ⟨_, none, rfl, rfl⟩ (fun i σ H' _ h => ?_) (fun i x σ Ha Hb hi h hy => ?_) (fun σ H' h => ?_)
    · obtain ⟨k, y, rfl, rfl⟩ := h
      exact sq_l e2
    · obtain ⟨k, y, rfl, rfl⟩ := h
      obtain ⟨rfl, hx⟩ := hy
      obtain ⟨m, rfl⟩ : ∃ m, x = V.int m := by
        rw [List.getElem?_map] at hx
        cases e : ms[i]? with
        | none => rw [e] at hx; cases hx
        | some m => rw [e] at hx; exact ⟨m, (Option.some.inj hx).symm⟩
      walk_at "g"
      exact ⟨_, _, rfl, rfl⟩
    · obtain ⟨k, y, rfl, rfl⟩ := h
      walk_at "g"
      refine k_nLst (by walk_at "sz") (fun p3 H3 n3 s3 e3 => ?_)
      refine ⟨p3, p2, 0, 0, k, rfl, by decide, e3, q p3 _ (sm_mut (s1.trans (s2.trans s3)) ((s1.trans s2).free n3)) ⟨p2, ms, upd_same, ?_⟩⟩
      rw [upd_ne (ne_of_none e2 n3)]
      exact s3 _ _ e2
/-! ### a draw -/
def spPull : Sp := fun vs H Q _ => ∃ (b : Addr) (u : Int), vs = [.ref b, .int u] ∧ BagOk H b ∧ 0 < u ∧ u.natAbs.log2 < 9000 ∧ ∀ n, 0 ≤ n → n < u → Q (.int n) H
theorem ok_Lpull (F : FnP K "_law_pull" s_Lpull f fd) (hm : mg "_law_pull" = some (.ref f)) (f_len : mg "len" = none) : Callee P w K mg base CX0 "_law_pull" 1 [] spPull := by
  refine ⟨f, fd, _, [], F.ok sc_Lpull (fun vs H Q E h => ?hl) (fun cdv A outer s H vs Q E hr h => ⟨_, PSs.nox (pss_bag (pss_cons (ps_if (pt_cmpR op_lt (pe_ix (ix_k K) (pv 0) pe_int (fun _ _ => rfl)) pe_int (nomark _)) (pss_cons (ps_asg (pe_op (op_addK K) (pe_ix (ix_k K) (pv 0) pe_int (fun _ _ => rfl)) pe_int) (pg_sub (pv 0) pe_int set_list))
      (pss_cons (ps_set (i := 3) sc_Lpull.nd rfl (by first | exact Or.inl rfl | exact Or.inr rfl) (pe_op (op_addK K) (pe_ix (ix_k K) (pv 0) pe_int (fun _ _ => rfl)) (pe_op op_mul (pe_ix (ix_k K) (pv 0) pe_int (fun _ _ => rfl)) pe_int)))
      (pss_cons (ps_if (pt_cmpR op_leU (pe_ix (ix_k K) (pv 0) pe_int (fun _ _ => rfl)) (pe_callB (call_lenK K) (by rfl) f_len PySem.boot_len (pa_cons (pe_ix (ix_k K) (pv 0) pe_int (fun _ _ => rfl)) pa_nil)) (nomark _)) (pss_one (ps_set (i := 3) sc_Lpull.nd rfl (by first | exact Or.inl rfl | exact Or.inr rfl) (pe_ix (ix_k K) (pe_ix (ix_k K) (pv 0) pe_int (fun _ _ => rfl)) (pe_op op_sub (pe_ix (ix_k K) (pv 0) pe_int (fun _ _ => rfl)) pe_int) (fun _ _ => rfl)))) pss_nil)
      (pss_cons (ps_if (PW.pt (pw_or (pt_cmpR op_gt (pe_ix (ix_k K) (pv 0) pe_int (fun _ _ => rfl)) (pe_callB (call_lenK K) (by rfl) f_len PySem.boot_len (pa_cons (pe_ix (ix_k K) (pv 0) pe_int (fun _ _ => rfl)) pa_nil)) (nomark _)) (pw_or1 (pt_cmpR op_lt (pv 3) (pe_op op_pow pe_int pe_int) (nomark _))))) (pss_cons (ps_set (i := 4) sc_Lpull.nd rfl (by first | exact Or.inl rfl | exact Or.inr rfl) (pe_op op_mod (pe_op (op_addK K) (pe_op (op_addK K) (pe_op op_mul (pv 3) pe_int) (pe_op op_mul (pe_ix (ix_k K) (pv 0) pe_int (fun _ _ => rfl)) pe_int)) (pe_ix (ix_k K) (pv 0) pe_int (fun _ _ => rfl))) pe_int))
      (pss_cons (ps_set (i := 5) sc_Lpull.nd rfl (by first | exact Or.inl rfl | exact Or.inr rfl) (pe_op op_mod (pe_op (op_addK K) (pe_op op_mul (pv 4) (pv 4)) (pe_ix (ix_k K) (pv 0) pe_int (fun _ _ => rfl))) pe_int))
      (pss_one (ps_ret (pe_op op_mod (pe_op op_fdivW (pe_op op_mod (pe_op (op_addK K) (pe_op op_mul (pv 5) pe_int) (pv 4)) pe_int) pe_int) (pv 1)))))) pss_nil)
      (pss_one (ps_asg (pv 3) (pg_sub (pv 0) pe_int set_list))))))) pss_nil)
      (pss_cons (ps_set (i := 2) sc_Lpull.nd rfl (by first | exact Or.inl rfl | exact Or.inr rfl) (pe_op op_mod (pe_ix (ix_k K) (pv 0) pe_int (fun _ _ => rfl)) (pv 1)))
      (pss_cons (ps_asg (pe_op op_fdivW (pe_ix (ix_k K) (pv 0) pe_int (fun _ _ => rfl)) (pv 1)) (pg_sub (pv 0) pe_int set_list))
      (pss_one (ps_ret (pv 2))))))), ?rd⟩), hm, F.kp, F.bindsN fun _ _ _ _ _ _ us hl => match us, hl with | [_, _], _ => rfl, .nil⟩
  case hl =>
    obtain ⟨b, u, rfl, _⟩ := h
    rfl
  case rd =>
    obtain ⟨b, u, rfl, ⟨c, ns, hb, hc⟩, hu, hu2, q⟩ := h
    refine ⟨b, c, hb, fun i1 i2 i3 hi => ?_⟩
    have hcb : c ≠ b := ne_of hc hb (fun z => by cases z)
    refine k_start (σ' := [some _, some _, none, none, none, none]) rfl ?_
    walk_at "g"
    have m0 : ∀ n : Int, 0 ≤ n % u := fun n => Int.emod_nonneg n (by omega)
    have m1 : ∀ n : Int, n % u < u := fun n => Int.emod_lt_of_pos n hu
    have hdv : ∀ n : Int, CDivW n u := fun n => ⟨hu, hu2⟩
    have fin : ∀ (j1 j2 j3 n : Int) (Hx : Hp), 0 ≤ j1 → 0 ≤ n → n < u → Hx b = some (.lst (bagL c j1 j2 j3)) → upd Hx b (bagO b c) = H → ∃ j1 j2 j3, 0 ≤ j1 ∧ Hx b = some (.lst (bagL c j1 j2 j3)) ∧ Q (.int n) (upd Hx b (bagO b c)) := by
      intro j1 j2 j3 n Hx hj hn0 hn1 hx hh
      refine ⟨j1, j2, j3, hj, hx, ?_⟩
      rw [hh]
      exact q n hn0 hn1
    refine k_dec (fun h2 => ?_) (fun h2 => ?_)
    · walk_at "g"
      refine k_dec (fun h3 => ?_) (fun h3 => ?_)
      · walk_at "g"
        have hl : (ns.map V.int).length = ns.length := List.length_map _
        rw [hl] at h3
        have hk : (i1 + 1 - 1).toNat < ns.length := by omega
        refine k_ix_l (xs := ns.map V.int) (v := .int (ns[(i1 + 1 - 1).toNat])) (by walk_at "sq") (at_of (j := (i1 + 1 - 1).toNat) (by omega) (by rw [List.getElem?_map, List.getElem?_eq_getElem hk]; rfl)) ?_
        walk_at "g"
        refine k_dec (fun h4 => absurd h4 (by rw [hl]; omega)) (fun h4 => ?_)
        walk_at "g"
        refine k_dec (fun h5 => ?_) (fun h5 => ?_)
        · walk_at "g"
          refine k_mul (.inl ⟨by omega, by omega⟩) ?_
          walk_at "g"
          exact fin (i1 + 1) i2 i3 _ _ (by omega) (m0 _) (m1 _) upd_same (by simp only [upd_upd, upd_id hb])
        · walk_at "g"
          refine k_I (hdv _) ?_
          walk_at "g"
          exact fin (i1 + 1) _ i3 _ _ (by omega) (m0 _) (m1 _) upd_same (by simp only [upd_upd, upd_id hb])
      · walk_at "g"
        refine k_dec (fun h4 => ?_) (fun h4 => absurd h4 (by omega))
        walk_at "g"
        refine k_mul (.inl ⟨by omega, by omega⟩) ?_
        walk_at "g"
        exact fin (i1 + 1) i2 i3 _ _ (by omega) (m0 _) (m1 _) upd_same (by simp only [upd_upd, upd_id hb])
    · walk_at "g"
      refine k_I (hdv _) ?_
      walk_at "g"
      exact fin i1 _ i3 _ _ hi (m0 _) (m1 _) upd_same (by simp only [upd_upd, upd_id hb])
theorem log_lt {u : Int} (h : u < 2 ^ 250) (h0 : 0 < u) : u.natAbs.log2 < 9000 := by
  have h1 : u.natAbs < 2 ^ 250 := by
    have e : ((u.natAbs : Nat) : Int) = u := Int.natAbs_of_nonneg (by omega)
    have h2 : ((u.natAbs : Nat) : Int) < ((2 ^ 250 : Nat) : Int) := by
      rw [e]
      exact h
    exact Int.ofNat_lt.mp h2
  exact Nat.lt_of_lt_of_le ((Nat.log2_lt (by omega)).mpr h1) (by decide)
theorem k_pull {H : Hp} {Q : VK} {E : XK} {b : Addr} {u : Int} (hb : BagOk H b) (h0 : 0 < u) (h1 : u < 2 ^ 250) (q : ∀ n, 0 ≤ n → n < u → Q (.int n) H) : spPull ([.ref b, .int u] ++ []) H Q E := ⟨b, u, rfl, hb, h0, log_lt h1 h0, q⟩
/-! ### one of a row -/
def spOne (K : PySem.W.Frag) : Sp := fun vs H Q _ => ∃ (b : Addr) (r : V), vs = [.ref b, r] ∧ BagOk H b ∧
  ((∃ a xs, r = .ref a ∧ SqL K H a xs ∧ 0 < xs.length ∧ xs.length ≤ 100000 ∧ ∀ x ∈ xs, Q x H) ∨ (∃ z : Str, r = .str z ∧ 0 < z.length ∧ z.length ≤ 100000 ∧ ∀ c ∈ z.cps.toList, Q (.str ⟨#[c]⟩) H))
theorem ok_Lone (F : FnP K "_law_one" s_Lone f fd) (hm : mg "_law_one" = some (.ref f)) (f_len : mg "len" = none) (c_Lpull : Callee P w K mg base CX0 "_law_pull" 1 [] spPull) : Callee P w K mg base CX0 "_law_one" 2 [] (spOne K) := by
  refine ⟨f, fd, _, [], F.ok sc_Lone (fun vs H Q E h => ?hl) (fun cdv A outer s H vs Q E hr h => ⟨_, PSs.nox (pss_one (ps_ret (pe_ix (ix_k K) (pv 1) (pe_cl c_Lpull hr (pa_cons (pv 0) (pa_cons (pe_callB (call_lenK K) (by rfl) f_len PySem.boot_len (pa_cons (pv 1) pa_nil)) pa_nil)) pass0) (fun _ _ => rfl)))), ?rd⟩), hm, F.kp, F.bindsN fun _ _ _ _ _ _ us hl => match us, hl with | [_, _], _ => rfl, .nil⟩
  case hl =>
    obtain ⟨b, u, rfl, _⟩ := h
    rfl
  case rd =>
    obtain ⟨b, r, rfl, hb, h⟩ := h
    refine k_start (σ' := [some _, some _]) rfl ?_
    rcases h with ⟨a, xs, rfl, hx, h0, h1, q⟩ | ⟨z, rfl, h0, h1, q⟩
    · walk_at "g"
      refine k_pull hb (by omega) (by omega) (fun n n0 n1 => ?_)
      have hk : n.toNat < xs.length := by omega
      exact k_ix_l hx (at_of (j := n.toNat) (by omega) (List.getElem?_eq_getElem hk)) (q _ (List.getElem_mem hk))
    · walk_at "g"
      refine k_len_s h1 ?_
      walk_at "g"
      have hz : z.length = z.cps.toList.length := by
        show z.cps.size = _
        simp
      refine k_pull hb (by omega) (by omega) (fun n n0 n1 => ?_)
      have hk : n.toNat < z.cps.toList.length := by omega
      refine k_ix_s h1 (c := z.cps.toList[n.toNat]) ?_ (q _ (List.getElem_mem hk))
      unfold atI ixN
      rw [if_pos n0, if_pos (by omega)]
      exact List.getElem?_eq_getElem hk
/-! ### told alike -/
def spSame (K : PySem.W.Frag) (j : Nat) : Sp := fun vs H Q _ => ∃ (x y : V) (d : PyData), vs = [x, y] ∧ Dp K H x d ∧ Dp K H y d ∧ Fit j d ∧ ∀ H', Same H H' → Q (.bl true) H'
theorem step_Lsame {j : Nat} (F : FnP K "_law_same" s_Lsame f fd) (hm : mg "_law_same" = some (.ref f)) (f_len : mg "len" = none) (f_isinstance : mg "isinstance" = none) (f_list : mg "list" = none) (f_tuple : mg "tuple" = none) (f_repr : mg "repr" = none) (f_zip : mg "zip" = none) (f_all : mg "all" = none)
    (c_Lsame : Callee P w K mg base CX0 "_law_same" j [] (spSame K j)) : Callee P w K mg base CX0 "_law_same" (j + 1) [] (spSame K (j + 1)) := by
  refine ⟨f, fd, _, [], F.ok sc_Lsame (fun vs H Q E h => ?hl) (fun cdv A outer s H vs Q E hr h => ⟨_, PSs.nox (pss_cons (ps_if (pt_not (pt_val (pe_callB (call_isiK K) (by rfl) f_isinstance (by decide +kernel) (pa_cons (pv 1) (pa_cons (pe_tup (pa_cons (pe_bltn (v := .ty "list") (by rfl) f_list (by decide +kernel) rfl) (pa_cons (pe_bltn (v := .ty "tuple") (by rfl) f_tuple (by decide +kernel) rfl) pa_nil))) pa_nil))))) (pss_one (ps_ret (pe_cmpR (op_eqK K hr.units) (pe_callB call_reprU (by rfl) f_repr (by decide +kernel) (pa_cons (pv 0) pa_nil)) (pe_callB call_reprU (by rfl) f_repr (by decide +kernel) (pa_cons (pv 1) pa_nil)) (nomark _)))) pss_nil)
      (pss_cons (ps_if (PW.pt (pw_or (pt_cmpR (op_neK K hr.units) (pe_callB (call_isiK K) (by rfl) f_isinstance (by decide +kernel) (pa_cons (pv 1) (pa_cons (pe_bltn (v := .ty "list") (by rfl) f_list (by decide +kernel) rfl) pa_nil))) (pe_callB (call_isiK K) (by rfl) f_isinstance (by decide +kernel) (pa_cons (pv 0) (pa_cons (pe_bltn (v := .ty "list") (by rfl) f_list (by decide +kernel) rfl) pa_nil))) (nomark _)) (pw_or1 (pt_cmpR (op_neK K hr.units) (pe_callB (call_isiK K) (by rfl) f_isinstance (by decide +kernel) (pa_cons (pv 1) (pa_cons (pe_bltn (v := .ty "tuple") (by rfl) f_tuple (by decide +kernel) rfl) pa_nil))) (pe_callB (call_isiK K) (by rfl) f_isinstance (by decide +kernel) (pa_cons (pv 0) (pa_cons (pe_bltn (v := .ty "tuple") (by rfl) f_tuple (by decide +kernel) rfl) pa_nil))) (nomark _))))) (pss_one (ps_ret pe_bl)) pss_nil)
      (pss_cons (ps_setLc (i := 2) (own := [("_law_one_here", 3), ("_law_other", 4)]) rfl sc_Lsame.nd rfl rfl (sw_true rfl rfl rfl (by decide +kernel)) (pi_zipK K (by rfl) f_zip (pa_cons (pv 0) (pa_cons (pv 1) pa_nil))) (blkOk_by (N := ["_law_found", "_law_due", "_law_same_here", "_law_one_here", "_law_other"]) (sc := defScope s_Lsame) (by decide +kernel)) (fun _ _ _ _ _ => (pg_tupK K 2 (by rfl) (pgs_cons (pg_name (i := 3) sc_Lsame.nd rfl (by first | exact Or.inl rfl | exact Or.inr rfl)) (pgs_cons (pg_name (i := 4) sc_Lsame.nd rfl (by first | exact Or.inl rfl | exact Or.inr rfl)) pgs_nil)))) (fun _ _ _ _ _ => pts_nil) (fun _ _ _ _ _ => (pe_cl c_Lsame hr (pa_cons (pv 3) (pa_cons (pv 4) pa_nil)) pass0)))
      (pss_one (ps_ret (pe_and (pe_cmpR (op_eqK K hr.units) (pe_callB (call_lenK K) (by rfl) f_len PySem.boot_len (pa_cons (pv 0) pa_nil)) (pe_callB (call_lenK K) (by rfl) f_len PySem.boot_len (pa_cons (pv 1) pa_nil)) (nomark _)) (pe_one (pe_callB (cr_allK K) (by rfl) f_all (by decide +kernel) (pa_cons (pv 2) pa_nil))))))))), ?rd⟩), hm, F.kp, F.bindsN fun _ _ _ _ _ _ us hl => match us, hl with | [_, _], _ => rfl, .nil⟩
  case hl =>
    obtain ⟨b, u, d, rfl, _⟩ := h
    rfl
  case rd =>
    obtain ⟨x, y, d, rfl, hx, hy, fit, q⟩ := h
    refine k_start (σ' := [some _, some _, none, none, none]) rfl ?_
    walk_at "g"
    refine k_nTup (by walk_at "sz") (fun p1 H1 n1 s1 e1 => ?_)
    refine k_isiLT (dp_sm s1 hy) e1 ?_
    walk_at "g"
    cases hs : isSeqD d with
    | false =>
      refine k_false ?_
      obtain ⟨z, hz⟩ := repr_of_dp hx fit hs
      have exy := dp_scal hx hy hs
      subst exy
      walk_at "g"
      refine k_repr hz ?_
      walk_at "g"
      refine k_repr hz ?_
      walk_at "g"
      rw [decide_eq_true rfl]
      exact q _ s1
    | true =>
      refine k_true ?_
      walk_at "g"
      refine k_isiL (dp_sm s1 hy) ?_
      walk_at "g"
      refine k_isiL (dp_sm s1 hx) ?_
      walk_at "g"
      rw [decide_eq_true rfl]
      refine k_true ?_
      walk_at "g"
      refine k_isiTu (dp_sm s1 hy) ?_
      walk_at "g"
      refine k_isiTu (dp_sm s1 hx) ?_
      walk_at "g"
      rw [decide_eq_true rfl]
      refine k_true ?_
      walk_at "g"
      cases hx with
      | non => cases hs
      | bl b => cases hs
      | int i => cases hs
      | str z => cases hs
      | @lst a xs ds hxs rx =>
        cases hy with
        | @lst b ys _ hys ry =>
        refine k_nItzL (sm_l s1 hxs) (sm_l s1 hys) ?_
        refine k_nLc (walk_zip (xs := xs) (ys := ys) rfl) (fun H' s2 => ⟨sm_l (s1.trans s2) hxs, sm_l (s1.trans s2) hys⟩) (fun i ws => ws = List.replicate i (.bl true)) rfl (fun i ws hi hw => ?hz) (fun i v Ha Hb ws Kp Ks hi sa hws hy2 hKp hKs => ?ht) (fun p Hp ws np sp ep hws => ?he)
        case hz =>
          rw [hw, List.length_replicate]
          have := dpall_len rx
          have := fit.1
          omega
        case ht =>
          obtain ⟨T, xi, yi, rfl, nT, rfl, ex, ey⟩ := hy2
          have sT : Same Ha (upd Ha T (.tup [xi, yi])) := sm_new nT
          have eT : (upd Ha T (.tup [xi, yi])) T = some (.tup [xi, yi]) := upd_same
          generalize upd Ha T (.tup [xi, yi]) = Hb at sT eT
          obtain ⟨di, e1, h1⟩ := dpall_get rx ex
          obtain ⟨dj, e2, h2⟩ := dpall_get ry ey
          rw [e1] at e2
          cases e2
          walk_at "g"
          refine ⟨rfl, ?_⟩
          walk_at "g"
          exact ⟨xi, yi, di, rfl, dp_sm ((s1.trans sa).trans sT) h1, dp_sm ((s1.trans sa).trans sT) h2, fit.2 _ (List.mem_of_getElem? e1), fun H' s' => hKp _ _ (sT.trans s') (by rw [hws, List.replicate_succ'])⟩
        case he =>
          walk_at "g"
          rw [dpall_len rx, dpall_len ry, decide_eq_true rfl]
          walk_at "g"
          rw [hws] at ep
          refine k_all (bs := List.replicate (min xs.length ys.length) true) (sq_l (by rw [ep, List.map_replicate])) ?_
          have et : (List.replicate (min xs.length ys.length) true).all id = true := by simp
          rw [et]
          walk_at "g"
          exact q _ (s1.trans sp)
      | @tup a xs ds hxs rx =>
        cases hy with
        | @tup b ys _ hys ry =>
        refine k_nItzT (sm_t s1 hxs) (sm_t s1 hys) ?_
        refine k_nLc (walk_zipT (xs := xs) (ys := ys) rfl) (fun H' s2 => ⟨sm_t (s1.trans s2) hxs, sm_t (s1.trans s2) hys⟩) (fun i ws => ws = List.replicate i (.bl true)) rfl (fun i ws hi hw => ?hz) (fun i v Ha Hb ws Kp Ks hi sa hws hy2 hKp hKs => ?ht) (fun p Hp ws np sp ep hws => ?he)
        case hz =>
          rw [hw, List.length_replicate]
          have := dpall_len rx
          have := fit.1
          omega
        case ht =>
          obtain ⟨T, xi, yi, rfl, nT, rfl, ex, ey⟩ := hy2
          have sT : Same Ha (upd Ha T (.tup [xi, yi])) := sm_new nT
          have eT : (upd Ha T (.tup [xi, yi])) T = some (.tup [xi, yi]) := upd_same
          generalize upd Ha T (.tup [xi, yi]) = Hb at sT eT
          obtain ⟨di, e1, h1⟩ := dpall_get rx ex
          obtain ⟨dj, e2, h2⟩ := dpall_get ry ey
          rw [e1] at e2
          cases e2
          walk_at "g"
          refine ⟨rfl, ?_⟩
          walk_at "g"
          exact ⟨xi, yi, di, rfl, dp_sm ((s1.trans sa).trans sT) h1, dp_sm ((s1.trans sa).trans sT) h2, fit.2 _ (List.mem_of_getElem? e1), fun H' s' => hKp _ _ (sT.trans s') (by rw [hws, List.replicate_succ'])⟩
        case he =>
          walk_at "g"
          rw [dpall_len rx, dpall_len ry, decide_eq_true rfl]
          walk_at "g"
          rw [hws] at ep
          refine k_all (bs := List.replicate (min xs.length ys.length) true) (sq_l (by rw [ep, List.map_replicate])) ?_
          have et : (List.replicate (min xs.length ys.length) true).all id = true := by simp
          rw [et]
          walk_at "g"
          exact q _ (s1.trans sp)
theorem base_Lsame (F : FnP K "_law_same" s_Lsame f fd) (hm : mg "_law_same" = some (.ref f)) : Callee P w K mg base CX0 "_law_same" 0 [] (spSame K 0) := by
  refine ⟨f, fd, ["_law_found", "_law_due"], [], ⟨fun vs H Q E h => ?_, fun A outer s H args us vs Q E hr e0 hb r h => ?_⟩, hm, F.kp, F.bindsN fun _ _ _ _ _ _ us hl => match us, hl with | [_, _], _ => rfl, .nil⟩
  · obtain ⟨x, y, d, _, _, _, fit, _⟩ := h
    exact fit.elim
  · obtain ⟨x, y, d, _, _, _, fit, _⟩ := h
    exact fit.elim
theorem ok_Lsame (F : FnP K "_law_same" s_Lsame f fd) (hm : mg "_law_same" = some (.ref f)) (f_len : mg "len" = none) (f_isinstance : mg "isinstance" = none) (f_list : mg "list" = none) (f_tuple : mg "tuple" = none) (f_repr : mg "repr" = none) (f_zip : mg "zip" = none) (f_all : mg "all" = none) :
    ∀ j, Callee P w K mg base CX0 "_law_same" j [] (spSame K j)
  | 0 => base_Lsame F hm
  | j + 1 => step_Lsame F hm f_len f_isinstance f_list f_tuple f_repr f_zip f_all (ok_Lsame F hm f_len f_isinstance f_list f_tuple f_repr f_zip f_all j)
/-! ### letters -/
def small (c : Nat) : Prop := 97 ≤ c ∧ c ≤ 122
/-- a rising text of small letters -/
def Rise (cs : List Nat) : Prop := cs.Pairwise (· < ·) ∧ ∀ c ∈ cs, small c
def spLetters : Sp := fun vs H Q _ => ∃ (b : Addr) (m : Nat), vs = [.ref b, .int (m : Nat)] ∧ BagOk H b ∧ m ≤ 3 ∧ ∀ (cs : List Nat) H', Rise cs → cs.length = m → Same H H' → Q (.str (tx cs)) H'
theorem abc_at : ∀ n : Fin 26, (Str.ofString "abcdefghijklmnopqrstuvwxyz").cps.toList[n.val]? = some (97 + n.val) := by decide +kernel
theorem abc_len : (Str.ofString "abcdefghijklmnopqrstuvwxyz").length = 26 := by decide +kernel
def lcode (sp st : Int) (k : Nat) : Nat := 97 + ((sp + st * (k : Int)) % 26).toNat
theorem lcode_inj {sp st : Int} {i j : Nat} (h0 : 1 ≤ st) (h1 : st ≤ 8) (hi : i < j) (hj : j < 3) : lcode sp st i ≠ lcode sp st j := by
  unfold lcode
  have : (i = 0 ∧ j = 1) ∨ (i = 0 ∧ j = 2) ∨ (i = 1 ∧ j = 2) := by omega
  rcases this with ⟨rfl, rfl⟩ | ⟨rfl, rfl⟩ | ⟨rfl, rfl⟩ <;> omega
theorem lcodes_nodup {sp st : Int} {m : Nat} (h0 : 1 ≤ st) (h1 : st ≤ 8) (hm : m ≤ 3) : ((List.range m).map (lcode sp st)).Nodup := by
  have : m = 0 ∨ m = 1 ∨ m = 2 ∨ m = 3 := by omega
  have e01 := lcode_inj (sp := sp) h0 h1 (i := 0) (j := 1) (by omega) (by omega)
  have e02 := lcode_inj (sp := sp) h0 h1 (i := 0) (j := 2) (by omega) (by omega)
  have e12 := lcode_inj (sp := sp) h0 h1 (i := 1) (j := 2) (by omega) (by omega)
  rcases this with rfl | rfl | rfl | rfl
  · simp
  · simp [List.range_succ]
  · simp [List.range_succ, e01]
  · simp [List.range_succ, e01, e02, e12]
theorem ok_Lletters (F : FnP K "_law_letters" s_Lletters f fd) (hm : mg "_law_letters" = some (.ref f)) (f_range : mg "range" = none) (f_sorted : mg "sorted" = none) (c_Lpull : Callee P w K mg base CX0 "_law_pull" 1 [] spPull) : Callee P w K mg base CX0 "_law_letters" 2 [] spLetters := by
  refine ⟨f, fd, _, [], F.ok sc_Lletters (fun vs H Q E h => ?hl) (fun cdv A outer s H vs Q E hr h => ⟨_, PSs.nox (pss_cons (ps_set (i := 2) sc_Lletters.nd rfl (by first | exact Or.inl rfl | exact Or.inr rfl) (pe_cl c_Lpull hr (pa_cons (pv 0) (pa_cons pe_int pa_nil)) pass0))
      (pss_cons (ps_set (i := 3) sc_Lletters.nd rfl (by first | exact Or.inl rfl | exact Or.inr rfl) (pe_op (op_addK K) pe_int (pe_cl c_Lpull hr (pa_cons (pv 0) (pa_cons pe_int pa_nil)) pass0)))
      (pss_one (ps_ret (pe_joinK K pe_str (pe_callB (cr_sortedSK K) (by rfl) f_sorted (by decide +kernel) (pa_cons (pe_lc (own := [("_law_k", 4)]) rfl sc_Lletters.nd (pi_range1 (by rfl) f_range (pa_cons (pv 1) pa_nil)) (blkOk_by (N := ["_law_bag_here", "_law_many", "_law_spot", "_law_step", "_law_k"]) (sc := defScope s_Lletters) (by decide +kernel)) (fun _ _ _ _ _ => (pg_name (i := 4) sc_Lletters.nd rfl (by first | exact Or.inl rfl | exact Or.inr rfl))) (fun _ _ _ _ _ => pts_nil) (fun _ _ _ _ _ => (pe_ix (ix_k K) pe_str (pe_op op_mod (pe_op (op_addK K) (pv 2) (pe_op op_mul (pv 3) (pv 4))) pe_int) (fun _ _ => rfl)))) pa_nil))))))), ?rd⟩), hm, F.kp, F.bindsN fun _ _ _ _ _ _ us hl => match us, hl with | [_, _], _ => rfl, .nil⟩
  case hl =>
    obtain ⟨b, u, rfl, _⟩ := h
    rfl
  case rd =>
    obtain ⟨b, m, rfl, hb, hm3, q⟩ := h
    refine k_start (σ' := [some _, some _, none, none, none]) rfl ?_
    walk_at "g"
    refine k_pull hb (by omega) (by omega) (fun s0 p0 p1 => ?_)
    walk_at "g"
    refine k_pull hb (by omega) (by omega) (fun st q0 q1 => ?_)
    walk_at "g"
    refine k_nLc walk_range (fun _ _ => trivial) (fun i ws => ws = (List.range i).map fun k => V.str (sg (lcode s0 (1 + st) k))) rfl (fun i ws hi hw => ?hz) (fun i v Ha Hb ws Kp Ks hi sa hws hy2 hKp hKs => ?ht) (fun p Hp ws np sp ep hws => ?he)
    case hz =>
      rw [hw, List.length_map, List.length_range]
      omega
    case ht =>
      obtain ⟨rfl, rfl⟩ := hy2
      walk_at "g"
      refine ⟨rfl, ?_⟩
      walk_at "g"
      refine k_mul (.inl ⟨by omega, by omega⟩) ?_
      walk_at "g"
      have m0 : 0 ≤ (s0 + (1 + st) * (0 + (i : Int))) % 26 := Int.emod_nonneg _ (by decide)
      have m1 : (s0 + (1 + st) * (0 + (i : Int))) % 26 < 26 := Int.emod_lt_of_pos _ (by decide)
      refine k_ix_s (c := lcode s0 (1 + st) i) (by rw [abc_len]; decide) ?_ (hKp _ _ (Same.refl _) ?_)
      · have h26 := abc_at ⟨((s0 + (1 + st) * (0 + (i : Int))) % 26).toNat, by omega⟩
        refine at_n (j := ((s0 + (1 + st) * (0 + (i : Int))) % 26).toNat) (by omega) ?_
        rw [h26]
        show some (97 + ((s0 + (1 + st) * (0 + (i : Int))) % 26).toNat) = some (97 + ((s0 + (1 + st) * (i : Int)) % 26).toNat)
        rw [Int.zero_add]
      · rw [hws, List.range_succ, List.map_append]
        rfl
    case he =>
      walk_at "g"
      refine k_sortedS (xs := (List.range m).map fun k => sg (lcode s0 (1 + st) k)) (sq_l (by rw [ep, hws, List.map_map]; rfl)) (by rw [List.length_map, List.length_range]; omega) (fun ys p2 H2 pe so n2 s2 e2 => ?_)
      have pe2 : ys.Perm (((List.range m).map (lcode s0 (1 + st))).map sg) := by
        rw [List.map_map]
        exact pe
      obtain ⟨ds, rfl, pd⟩ := perm_sgs pe2
      have le := pd.length_eq
      rw [List.length_map, List.length_range] at le
      have nd := pd.nodup_iff.mpr (lcodes_nodup (sp := s0) (st := 1 + st) (by omega) (by omega) hm3)
      walk_at "g"
      refine k_join (ys := ds.map sg) (sq_l e2) ?_ ?_
      · rw [List.map_map, List.length_map, show (Str.length ∘ sg) = fun _ => 1 from rfl, show (Str.ofString "").length = 0 by decide +kernel]
        have : (ds.map fun _ => 1).sum = ds.length := by
          clear pd nd so e2 pe pe2 le
          induction ds with
          | nil => rfl
          | cons c r ih => rw [List.map_cons, List.sum_cons, ih, List.length_cons]; omega
        rw [this]
        omega
      · rw [join_sgs]
        refine q ds _ ⟨lt_of_le_nodup (sortedS_sgs so) nd, fun c hc => ?_⟩ le (sp.trans s2)
        obtain ⟨k, _, rfl⟩ := List.mem_map.mp (pd.mem_iff.mp hc)
        unfold small lcode
        omega
end
end Lw
set_option autoImplicit true
set_option pp.maxSteps 1200
set_option Elab.async false
set_option linter.all false
set_option maxRecDepth 100000
set_option maxHeartbeats 1000000
namespace Lw
open PySem PySem.Spec PyProof.Rows L2 Gk
open PySem.W (EachIs AllAlike Sortable dataLe dataLt alike keyToks)

local macro_rules | `(tactic| walk_at "hp") => `(tactic| first | assumption | exact upd_same | (refine' (upd_ne ?n).trans ?h; (case n => assumption); (case h => walk_at "hp")) | (refine' sm_get ?s ?h; (case s => assumption); (case h => walk_at "hp")))
local macro_rules | `(tactic| walk_at "sq") => `(tactic| first | assumption | (refine' sq_l ?h; (case h => walk_at "hp")) | (refine' sm_l ?s ?h; (case s => assumption); (case h => walk_at "sq")))
local macro_rules | `(tactic| walk_at "st") => `(tactic| first | assumption | (refine' sq_t ?h; (case h => walk_at "hp")) | (refine' sm_t ?s ?h; (case s => assumption); (case h => walk_at "st")))
local macro_rules | `(tactic| walk_at "bg") => `(tactic| first | assumption | (refine' BagOk.sm ?s ?h; (case s => assumption); (case h => walk_at "bg")))
local macro_rules | `(tactic| walk_at "sm") => `(tactic| first | assumption | exact Same.refl _ | (refine' Same.trans ?h ?s; (case s => assumption); (case h => walk_at "sm")))
local macro_rules | `(tactic| walk_at "hs") => `(tactic| first | assumption | (refine' HsAt.sm ?s ?h; (case s => assumption); (case h => walk_at "hs")))
local macro_rules | `(tactic| walk_at "ms") => `(tactic| first | assumption | (refine' MAt.sm ?s ?h; (case s => assumption); (case h => walk_at "ms")))
local macro_rules | `(tactic| walk_at "dp") => `(tactic| first | assumption | (refine' dp_sm ?s ?h; (case s => assumption); (case h => walk_at "dp")))
local macro_rules | `(tactic| walk_at "sz") => `(tactic| first | decide | assumption | omega | (simp only [List.length_cons, List.length_nil, List.length_map, List.length_append]; omega))
local macro_rules | `(tactic| walk_at "g1") => `(tactic| first
  | with_reducible refine k_seq ?_
  | with_reducible refine k_itB ?_
  | with_reducible refine k_next ?_
  | with_reducible refine k_asg ?_
  | with_reducible refine k_name ?_
  | with_reducible refine k_ret ?_
  | with_reducible refine k_retN ?_
  | with_reducible refine k_drop ?_
  | with_reducible refine k_ifs ?_
  | with_reducible refine k_brk ?_
  | with_reducible refine k_cont ?_
  | with_reducible refine k_ipI ?_
  | with_reducible refine k_test ?_
  | with_reducible refine k_tB ?_
  | with_reducible refine k_bl ?_
  | with_reducible refine k_not ?_
  | with_reducible refine k_and ?_
  | with_reducible refine k_or ?_
  | with_reducible refine k_yes ?_
  | with_reducible refine k_true ?_
  | with_reducible refine k_false ?_
  | with_reducible refine k_nt ?_
  | with_reducible refine k_c ?_
  | with_reducible refine k_op ?_
  | with_reducible refine k_un ?_
  | with_reducible refine k_if ?_
  | with_reducible refine k_chain ?_
  | with_reducible refine k_nil ?_
  | with_reducible refine k_cons ?_
  | with_reducible refine k_cb ?_
  | with_reducible refine k_call ?_
  | with_reducible refine k_callS ?_
  | with_reducible refine k_andV ?_
  | with_reducible refine k_orV ?_
  | with_reducible refine k_notV ?_
  | with_reducible refine k_lst ?_
  | with_reducible refine k_tup ?_
  | with_reducible refine k_nopart ?_
  | with_reducible refine k_part ?_
  | with_reducible refine k_nInt ?_
  | with_reducible refine k_sl ?_
  | with_reducible refine k_bm ?_
  | with_reducible refine k_bm0 ?_
  | with_reducible refine k_nTyS ?_
  | with_reducible refine k_m1 ?_
  | with_reducible refine k_m0 ?_
  | with_reducible refine k_nStr ?_
  | with_reducible refine k_I0 ?_
  | with_reducible refine k_U ?_
  | with_reducible refine k_add_i ?_
  | with_reducible refine k_eq_i ?_
  | with_reducible refine k_eq_s ?_
  | with_reducible refine k_eq_b ?_
  | with_reducible refine k_ne_i ?_
  | with_reducible refine k_ne_s ?_
  | with_reducible refine k_ne_b ?_
  | with_reducible refine k_le_i ?_
  | with_reducible refine k_le_s ?_
  | with_reducible refine k_gnil ?_
  | with_reducible refine k_gcons ?_
  | with_reducible refine k_gsub ?_
  | with_reducible refine k_for ?_
  | with_reducible refine k_lc ?_
  | with_reducible refine k_rng1 ?_
  | with_reducible refine k_rng2 ?_
  | with_reducible refine k_itl ?_
  | with_reducible refine k_itt ?_
  | with_reducible refine k_its ?_
  | with_reducible refine k_ite ?_
  | with_reducible refine k_iteB ?_
  | with_reducible refine k_lrg2 ?_
  | with_reducible refine k_itz ?_
  | with_reducible refine k_nIts ?_
  | with_reducible refine k_inS ?_
  | with_reducible refine k_niS ?_
  | with_reducible refine k_mk ?_
  | with_reducible refine k_meth ?_
  | with_reducible refine k_fld ?_
  | with_reducible refine k_sfld ?_
  | with_reducible refine k_dg ?_
  | with_reducible refine k_dp ?_
  | with_reducible refine k_pr ?_
  | with_reducible refine k_pr0 ?_
  | with_reducible refine k_sg ?_
  | with_reducible refine k_lc2 ?_
  | with_reducible refine k_callN ?_
  | with_reducible refine k_callNS ?_
  | with_reducible refine k_par ?_
  | with_reducible refine k_nPar ?_
  | with_reducible refine k_isNn ?_
  | with_reducible refine k_isNr ?_
  | with_reducible refine k_ntNn ?_
  | with_reducible refine k_ntNr ?_
  | with_reducible refine k_min2 ?_
  | with_reducible refine k_max2 ?_
  | with_reducible refine k_intB ?_
  | with_reducible refine k_intI ?_
  | with_reducible refine k_isBl ?_
  | with_reducible refine k_ntBl ?_
  | ((with_reducible refine' k_var ?kv ?_); (case kv => exact rfl))
  | ((with_reducible refine' k_aug ?kv ?_); (case kv => exact rfl))
  | ((with_reducible refine' k_ix_l ?ks ?ki ?_); (case ks => walk_at "sq"); (case ki => exact rfl))
  | ((with_reducible refine' k_ix_t ?ks ?ki ?_); (case ks => walk_at "st"); (case ki => exact rfl))
  | ((with_reducible refine' k_len_l ?ks ?_); (case ks => walk_at "sq"))
  | ((with_reducible refine' k_len_t ?ks ?_); (case ks => walk_at "st"))
  | ((with_reducible refine' k_setL ?ks ?ki ?_); (case ks => walk_at "hp"); (case ki => exact rfl))
  | ((with_reducible refine' k_nTyL ?ks ?_); (case ks => walk_at "sq"))
  | ((with_reducible refine' k_nItl ?ks ?_); (case ks => walk_at "sq"))
  | ((with_reducible refine' k_nItt ?ks ?_); (case ks => walk_at "st"))
  | ((with_reducible refine' k_nIte ?ks ?_); (case ks => walk_at "sq"))
  | ((with_reducible refine' k_mul ?km ?_); (case km => first | exact Or.inr ⟨by decide, by decide⟩ | exact Or.inl ⟨by decide, by decide⟩))
  | ((with_reducible refine' k_I ?km ?_); (case km => first | assumption | decide | exact ⟨by decide, by decide +kernel⟩ | exact ⟨by decide, by decide, by decide⟩))
  | ((with_reducible refine' k_nMeth ?kp ?kl ?_); (case kp => walk_at "hp"); (case kl => exact rfl))
  | ((with_reducible refine' k_nFld ?kp ?kc ?kn ?kl ?_); (case kp => walk_at "hp"); (case kc => assumption); (case kn => assumption); (case kl => exact rfl))
  | ((with_reducible refine' k_nSFld ?kp ?kc ?kn ?kl ?_); (case kp => walk_at "hp"); (case kc => assumption); (case kn => assumption); (case kl => exact of_decide_eq_true rfl))
  | ((with_reducible refine' k_nDg ?kp ?kl ?_); (case kp => walk_at "hp"); (case kl => exact rfl))
  | ((with_reducible refine' k_nRng1 ?k1 ?k2 ?_); (case k1 => omega); (case k2 => omega))
  | ((with_reducible refine' k_nKw ?k1 ?k2 ?_); (case k1 => exact rfl); (case k2 => exact rfl))
  | ((with_reducible refine' k_hsm ?kh ?_); (case kh => walk_at "hs"))
  | ((with_reducible refine' k_nMethH ?kh ?kl ?_); (case kh => walk_at "hs"); (case kl => exact fun _ _ => rfl))
  | ((with_reducible refine' k_mLet ?kh ?_); (case kh => walk_at "ms"))
  | ((with_reducible refine' k_mChew ?kh ?_); (case kh => walk_at "ms"))
  | ((with_reducible refine' k_mPut ?kh ?_); (case kh => walk_at "ms"))
  | ((with_reducible refine' k_mMost ?kh ?_); (case kh => walk_at "ms"))
  | ((with_reducible refine' k_mCut ?kh ?_); (case kh => walk_at "ms"))
  | ((with_reducible refine' k_gtup ?ks ?kl ?_); (case ks => walk_at "st"); (case kl => exact rfl)))
local macro_rules | `(tactic| walk_at "g") => `(tactic| repeat (walk_at "g1"))
local macro_rules | `(tactic| walk_at "w1") => `(tactic| first
  | walk_at "g1"
  | ((with_reducible refine' k_decT ?kp ?_); (case kp => omega))
  | ((with_reducible refine' k_decF ?kp ?_); (case kp => omega))
  | ((with_reducible refine' k_decNT ?kp ?_); (case kp => omega))
  | ((with_reducible refine' k_decNF ?kp ?_); (case kp => omega)))
local macro_rules | `(tactic| walk_at "w") => `(tactic| repeat (walk_at "w1"))

--! have hC : HsC K := ⟨He.cls_ok a_House, He.noat_ok n1, He.noat_ok n2, He.noat_ok n3, He.noat_ok n4, He.noat_ok n5, He.noat_ok n6, He.noat_ok n7⟩

abbrev FnM (K : PySem.W.Frag) (x q : Str) (st : Stmt) (f : Addr) (fd : FuncData) : Prop := FunD K x q (defArgs st) (defBody st) (defScope st) [] [] f fd
section
variable {P : Program} {w : World} {K : PySem.W.Frag} {mg : Str → Option Value} {base : Heap} {f : Addr} {fd : FuncData}
/-! ### houses as data -/
structure HsD where
  ls : List Nat
  tb : List (List Int)
  tr : List (List Key)
  ch : Int
  pt : List Nat
  mo : Int
  cu : Int
def kEat (side : Bool) (a b : Int) : List Key := [.inr (if side = true then Str.ofString "right" else Str.ofString "left"), .inl a, .inl b]
def wcount (n m : Nat) : Int := (([(n : Int) ^ 1, (n : Int) ^ 2, (n : Int) ^ 3].take m)).sum
structure HsOk (S : HsD) : Prop where
  rise : Rise S.ls
  l1 : 1 ≤ S.ls.length
  l3 : S.ls.length ≤ 3
  t1 : 1 ≤ S.tb.length
  t4 : S.tb.length ≤ 4
  tw : ∀ r ∈ S.tb, r.length = S.ls.length ∧ ∀ x ∈ r, 0 ≤ x ∧ x < S.tb.length
  e7 : S.tr.length ≤ 7
  ev : ∀ k ∈ S.tr, ∃ s a b, k = kEat s a b ∧ 0 ≤ a ∧ a < S.tb.length ∧ 0 ≤ b ∧ b < S.tb.length
  c0 : 0 ≤ S.ch
  c2 : S.ch ≤ 2
  p2 : S.pt.length ≤ 2
  pl : ∀ c ∈ S.pt, c ∈ S.ls
  m1 : 1 ≤ S.mo
  m3 : S.mo ≤ 3
  mw : wcount S.ls.length S.mo.toNat ≤ 14
  k1 : 1 ≤ S.cu
  km : S.cu ≤ S.mo
/-! ### what a house must be -/
def spWc : Sp := fun vs H Q _ => ∃ (n m : Nat), vs = [.int n, .int m] ∧ 1 ≤ n ∧ n ≤ 3 ∧ 1 ≤ m ∧ m ≤ 3 ∧ ∀ H', Same H H' → Q (.int (wcount n m)) H'
theorem ok_word_count (F : FnP K "word_count" s_word_count f fd) (hm : mg "word_count" = some (.ref f)) (f_sum : mg "sum" = none) : Callee P w K mg base CX0 "word_count" 1 [] spWc := by
  refine ⟨f, fd, _, [], F.ok sc_word_count (fun vs H Q E h => ?hl) (fun cdv A outer s H vs Q E hr h => ⟨_, PSs.nox (pss_one (ps_ret (pe_callB (cr_sumK K) (by rfl) f_sum (by decide +kernel) (pa_cons (pe_slice (sl_k K) (pe_lst (pa_cons (pe_op op_pow (pv 0) pe_int) (pa_cons (pe_op op_pow (pv 0) pe_int) (pa_cons (pe_op op_pow (pv 0) pe_int) pa_nil)))) po_none (po_some (pv 1))) pa_nil)))), ?rd⟩), hm, F.kp, F.bindsN fun _ _ _ _ _ _ us hl => match us, hl with | [_, _], _ => rfl, .nil⟩
  case hl =>
    obtain ⟨n, m, rfl, _⟩ := h
    rfl
  case rd =>
    obtain ⟨n, m, rfl, h1, h2, h3, h4, q⟩ := h
    refine k_start (σ' := [some _, some _]) rfl ?_
    have hb : ∀ j : Int, 0 ≤ j → j ≤ 3 → CPow n j := fun j a b => ⟨a, by omega, by omega⟩
    walk_at "g"
    refine k_I (hb 1 (by decide) (by decide)) ?_
    walk_at "g"
    refine k_I (hb 2 (by decide) (by decide)) ?_
    walk_at "g"
    refine k_I (hb 3 (by decide) (by decide)) ?_
    walk_at "g"
    refine k_nLst (by walk_at "sz") (fun p1 H1 n1 s1 e1 => ?_)
    walk_at "g"
    refine k_sl_l (sq_l e1) (fun p2 H2 n2 s2 e2 => ?_)
    rw [cutV_to] at e2
    walk_at "g"
    refine k_sum (ns := [(n : Int) ^ 1, (n : Int) ^ 2, (n : Int) ^ 3].take m) (sq_l (by rw [e2, List.map_take]; rfl)) (q _ (s1.trans s2))
theorem mem_abc (c : Nat) (h : small c) : decide (c ∈ (Str.ofString "abcdefghijklmnopqrstuvwxyz").cps.toList) = true := by
  have e : (Str.ofString "abcdefghijklmnopqrstuvwxyz").cps.toList = (List.range 26).map (97 + ·) := by decide +kernel
  rw [e, decide_eq_true_eq]
  unfold small at h
  exact List.mem_map.mpr ⟨c - 97, List.mem_range.mpr (by omega), by omega⟩
/-- all([test of each sign]), the tests all true -/
theorem rise_pl2 {cs : List Nat} (h : Rise cs) : Pl (tx cs) := fun c hc => by
  have := h.2 c hc
  unfold small at this
  omega
theorem sum_one : ∀ cs : List Nat, (cs.map fun _ => 1).sum = cs.length
  | [] => rfl
  | c :: r => by rw [List.map_cons, List.sum_cons, sum_one r, List.length_cons]; omega
def spNl : Sp := fun vs H Q _ => ∃ cs : List Nat, vs = [.str (tx cs)] ∧ Rise cs ∧ 1 ≤ cs.length ∧ cs.length ≤ 3 ∧ ∀ H', Same H H' → Q .non H'
theorem ok_need_letters (F : FnP K "need_letters" s_need_letters f fd) (hm : mg "need_letters" = some (.ref f)) (f_len : mg "len" = none) (f_all : mg "all" = none) (f_sorted : mg "sorted" = none) (f_set : mg "set" = none) (c_SMALL : ∃ t, mg "SMALL" = some (.str (Str.ofString "abcdefghijklmnopqrstuvwxyz") t)) : Callee P w K mg base CX0 "need_letters" 1 [] spNl := by
  refine ⟨f, fd, _, [], F.ok sc_need_letters (fun vs H Q E h => ?hl) (fun cdv A outer s H vs Q E hr h => ⟨_, PSs.nox (pss_cons (ps_if (PW.pt (pw_or (pt_not (pt_chain op_leU op_leU pe_int (pe_callB (call_lenK K) (by rfl) f_len PySem.boot_len (pa_cons (pv 0) pa_nil)) pe_int)) (pw_or1 (pt_not (pt_val (pe_callB (cr_allK K) (by rfl) f_all (by decide +kernel) (pa_cons (pe_lc (own := [("sign", 1)]) rfl sc_need_letters.nd (pi_str (pv 0)) (blkOk_by (N := ["letters", "sign"]) (sc := defScope s_need_letters) (by decide +kernel)) (fun _ _ _ _ _ => (pg_name (i := 1) sc_need_letters.nd rfl (by first | exact Or.inl rfl | exact Or.inr rfl))) (fun _ _ _ _ _ => pts_nil) (fun _ _ _ _ _ => (pe_cmpR op_inS (pv 1) (pe_gs c_SMALL) (by rfl)))) pa_nil))))))) (pss_one ps_never) pss_nil)
      (pss_one (ps_if (pt_cmpR (op_neK K hr.units) (pv 0) (pe_joinK K pe_str (pe_callB (cr_sortedA K P w hr.units) (by rfl) f_sorted (by decide +kernel) (pa_cons (pe_callTy (cr_setA K P w) (by rfl) f_set (by decide +kernel) (pa_cons (pv 0) pa_nil)) pa_nil))) (nomark _)) (pss_one ps_never) pss_nil))), ?rd⟩), hm, F.kp, F.bindsN fun _ _ _ _ _ _ us hl => match us, hl with | [_], _ => rfl, .nil⟩
  case hl =>
    obtain ⟨n, rfl, _⟩ := h
    rfl
  case rd =>
    obtain ⟨cs, rfl, rise, h1, h3, q⟩ := h
    refine k_start (σ' := [some _, none]) rfl ?_
    have ll := len_tx cs
    walk_at "g"
    refine k_len_s (by omega) ?_
    rw [ll]
    walk_at "w"
    have sz : (tx cs).cps.size = cs.length := ll
    refine k_nLcT (walk_str (z := tx cs)) (by omega) (fun _ _ => trivial) (fun i v Ha Hb Kp hi sa hy hKp => ?ht) (fun p Hp np sp ep => ?he)
    case ht =>
      obtain ⟨rfl, c, hc, rfl⟩ := hy
      walk_at "g"
      refine ⟨rfl, ?_⟩
      walk_at "g"
      rw [mem_abc c (rise.2 c (by
        have h : cs[i]? = some c := by
          rw [← hc]
          exact Array.getElem?_toList (xs := cs.toArray)
        exact List.mem_of_getElem? h))]
      exact hKp _ (Same.refl _)
    case he =>
      walk_at "g"
      refine k_allT _ rfl ep ?_
      walk_at "g"
      have nd : cs.Nodup := rise.1.imp fun h => Nat.ne_of_lt h
      refine k_setX (rise_pl2 rise) nd (by omega) (fun p2 H2 n2 s2 e2 => ?_)
      walk_at "g"
      refine k_sortX e2 ?_ ?_ (fun ys p3 H3 pm so n3 s3 e3 => ?_)
      · exact (List.reverse_perm _).nodup_iff.mpr (List.pairwise_map.mpr (nd.imp fun h e => h (by injection e with e; injection e with e; injection e)))
      · rw [List.length_reverse, List.length_map]
        exact Nat.le_trans h3 (by decide)
      have ey := sorted_sgs pm so rise.1
      subst ey
      walk_at "g"
      refine k_join (ys := cs.map sg) (sq_l e3) ?_ ?_
      · rw [show (Str.ofString "").length = 0 by decide +kernel, List.map_map, show (Str.length ∘ sg) = fun _ => 1 from rfl, List.length_map, sum_one]
        omega
      rw [join_sgs]
      walk_at "g"
      rw [decide_eq_true rfl]
      walk_at "g"
      exact q _ ((sp.trans s2).trans s3)
abbrev RwI : Type := Addr × List Int
def spNt (K : PySem.W.Frag) : Sp := fun vs H Q _ => ∃ (a : Addr) (n : Nat) (R : List RwI), vs = [.ref a, .int n] ∧ SqL K H a (R.map fun r => V.ref r.1) ∧ (∀ r ∈ R, SqL K H r.1 (r.2.map V.int) ∧ r.2.length = n ∧ ∀ x ∈ r.2, 0 ≤ x ∧ x < R.length) ∧ n ≤ 3 ∧ 1 ≤ R.length ∧ R.length ≤ 4 ∧ ∀ H', Same H H' → Q .non H'
theorem ok_need_table (F : FnP K "need_table" s_need_table f fd) (hm : mg "need_table" = some (.ref f)) (f_len : mg "len" = none) (f_all : mg "all" = none) (f_enumerate : mg "enumerate" = none) (c_MOST_TASTES : ∃ t, mg "MOST_TASTES" = some (.int 4 t)) : Callee P w K mg base CX0 "need_table" 1 [] (spNt K) := by
  refine ⟨f, fd, _, [], F.ok sc_need_table (fun vs H Q E h => ?hl) (fun cdv A outer s H vs Q E hr h => ⟨_, PSs.nox (pss_cons (ps_if (pt_not (pt_chain op_leU op_leU pe_int (pe_callB (call_lenK K) (by rfl) f_len PySem.boot_len (pa_cons (pv 0) pa_nil)) (pe_gi c_MOST_TASTES))) (pss_one ps_never) pss_nil)
      (pss_one (ps_for PassesOwn.never rfl (pi_enumK K (by rfl) f_enumerate (pa_cons (pv 0) pa_nil)) (pg_tupK K 2 (by rfl) (pgs_cons (pg_name (i := 2) sc_need_table.nd rfl (by first | exact Or.inl rfl | exact Or.inr rfl)) (pgs_cons (pg_name (i := 3) sc_need_table.nd rfl (by first | exact Or.inl rfl | exact Or.inr rfl)) pgs_nil))) (pss_one (ps_if (PW.pt (pw_or (pt_cmpR (op_neK K hr.units) (pe_callB (call_lenK K) (by rfl) f_len PySem.boot_len (pa_cons (pv 3) pa_nil)) (pv 1) (nomark _)) (pw_or1 (pt_not (pt_val (pe_callB (cr_allK K) (by rfl) f_all (by decide +kernel) (pa_cons (pe_lc (own := [("to", 4)]) rfl sc_need_table.nd (pi_listK K (pv 3)) (blkOk_by (N := ["table", "many", "at", "row", "to"]) (sc := defScope s_need_table) (by decide +kernel)) (fun _ _ _ _ _ => (pg_name (i := 4) sc_need_table.nd rfl (by first | exact Or.inl rfl | exact Or.inr rfl))) (fun _ _ _ _ _ => pts_nil) (fun _ _ _ _ _ => (pe_chain op_leU op_lt pe_int (pv 4) (pe_callB (call_lenK K) (by rfl) f_len PySem.boot_len (pa_cons (pv 0) pa_nil))))) pa_nil))))))) (pss_one ps_never) pss_nil))))), ?rd⟩), hm, F.kp, F.bindsN fun _ _ _ _ _ _ us hl => match us, hl with | [_, _], _ => rfl, .nil⟩
  case hl =>
    obtain ⟨a, n, R, rfl, _⟩ := h
    rfl
  case rd =>
    obtain ⟨a, n, R, rfl, hx, hR, h3, l1, l4, q⟩ := h
    refine k_start (σ' := [some _, some _, none, none, none]) rfl ?_
    have lR : (R.map fun r => V.ref r.1).length = R.length := List.length_map _
    walk_at "g"
    rw [lR]
    walk_at "w"
    refine k_nFor (walk_enum (xs := R.map fun r => V.ref r.1)) (fun i σ H' => (∃ y2 y3, σ = [some (.ref a), some (.int n), y2, y3, none]) ∧ Same H H') ⟨⟨_, _, rfl⟩, Same.refl _⟩ (fun i σ H' _ h => sm_l h.2 hx) (fun i x σ Ha Hb hi h hy => ?ht) (fun σ H' h => ?he)
    case he =>
      obtain ⟨⟨y2, y3, rfl⟩, sa⟩ := h
      walk_at "g"
      exact q _ sa
    case ht =>
      obtain ⟨⟨y2, y3, rfl⟩, sa⟩ := h
      obtain ⟨T, xi, yi, rfl, nT, rfl, ex, ey⟩ := hy
      have sT : Same Ha (upd Ha T (.tup [xi, yi])) := sm_new nT
      have eT : (upd Ha T (.tup [xi, yi])) T = some (.tup [xi, yi]) := upd_same
      generalize upd Ha T (.tup [xi, yi]) = Hb at sT eT
      cases ex
      obtain ⟨r, hr0, rfl⟩ := map_get ey
      obtain ⟨hr1, hr2, hr3⟩ := hR r (List.mem_of_getElem? hr0)
      have sx := sa.trans sT
      have hrL := sm_l sx hr1
      have hxL := sm_l sx hx
      have lr : (r.2.map V.int).length = r.2.length := List.length_map _
      walk_at "g"
      rw [lr]
      walk_at "w"
      refine k_nLcT (walk_list (xs := r.2.map V.int)) (by rw [lr]; omega) (fun H' s2 => sm_l s2 hrL) (fun j v Hc Hd Kp hj sc hy hKp => ?ht2) (fun p Hp np sp ep => ?he2)
      case ht2 =>
        obtain ⟨rfl, hv⟩ := hy
        obtain ⟨x, hx0, rfl⟩ := map_get hv
        obtain ⟨b1, b2⟩ := hr3 x (List.mem_of_getElem? hx0)
        have hxM := sm_l sc hxL
        walk_at "g"
        refine ⟨rfl, ?_⟩
        walk_at "w"
        rw [lR]
        walk_at "w"
        rw [decide_eq_true b2]
        exact hKp _ (Same.refl _)
      case he2 =>
        walk_at "g"
        refine k_allT _ rfl ep ?_
        walk_at "g"
        exact ⟨⟨_, _, rfl⟩, sx.trans sp⟩
theorem sides_in (s : Bool) : inV (V.str (if s = true then Str.ofString "right" else Str.ofString "left")) [V.str (Str.ofString "left"), V.str (Str.ofString "right")] = true := by
  cases s <;> decide +kernel
/-- three in a tuple: side, eater, eaten -/
def spNe (K : PySem.W.Frag) : Sp := fun vs H Q _ => ∃ (a : Addr) (n : Nat) (R : List RwM), vs = [.ref a, .int n] ∧ SqL K H a (R.map fun r => V.ref r.1) ∧ (∀ r ∈ R, SqT K H r.1 (r.2.map kV) ∧ ∃ s x y, r.2 = kEat s x y ∧ 0 ≤ x ∧ x < n ∧ 0 ≤ y ∧ y < n) ∧ R.length ≤ 100 ∧ ∀ H', Same H H' → Q .non H'
theorem ok_need_eats (F : FnP K "need_eats" s_need_eats f fd) (hm : mg "need_eats" = some (.ref f)) (f_enumerate : mg "enumerate" = none) (c_SIDES : GloT K mg "SIDES" [V.str (Str.ofString "left"), V.str (Str.ofString "right")]) : Callee P w K mg base CX0 "need_eats" 1 [] (spNe K) := by
  refine ⟨f, fd, _, [], F.ok sc_need_eats (fun vs H Q E h => ?hl) (fun cdv A outer s H vs Q E hr h => ⟨_, PSs.nox (pss_one (ps_for PassesOwn.never rfl (pi_enumK K (by rfl) f_enumerate (pa_cons (pv 0) pa_nil)) (pg_tupK K 2 (by rfl) (pgs_cons (pg_name (i := 2) sc_need_eats.nd rfl (by first | exact Or.inl rfl | exact Or.inr rfl)) (pgs_cons (pg_tupK K 3 (by rfl) (pgs_cons (pg_name (i := 3) sc_need_eats.nd rfl (by first | exact Or.inl rfl | exact Or.inr rfl)) (pgs_cons (pg_name (i := 4) sc_need_eats.nd rfl (by first | exact Or.inl rfl | exact Or.inr rfl)) (pgs_cons (pg_name (i := 5) sc_need_eats.nd rfl (by first | exact Or.inl rfl | exact Or.inr rfl)) pgs_nil)))) pgs_nil))) (pss_one (ps_if (PW.pt (pw_or (pt_cmpR (op_niK K) (pv 3) (pe_gt c_SIDES) (by rfl)) (pw_or (pt_not (pt_chain op_leU op_lt pe_int (pv 4) (pv 1))) (pw_or1 (pt_not (pt_chain op_leU op_lt pe_int (pv 5) (pv 1))))))) (pss_one ps_never) pss_nil)))), ?rd⟩), hm, F.kp, F.bindsN fun _ _ _ _ _ _ us hl => match us, hl with | [_, _], _ => rfl, .nil⟩
  case hl =>
    obtain ⟨a, n, R, rfl, _⟩ := h
    rfl
  case rd =>
    obtain ⟨a, n, R, rfl, hx, hR, h3, q⟩ := h
    refine k_start (σ' := [some _, some _, none, none, none, none]) rfl ?_
    walk_at "g"
    refine k_nFor (walk_enum (xs := R.map fun r => V.ref r.1)) (fun i σ H' => (∃ y2 y3 y4 y5, σ = [some (.ref a), some (.int n), y2, y3, y4, y5]) ∧ Same H H') ⟨⟨_, _, _, _, rfl⟩, Same.refl _⟩ (fun i σ H' _ h => sm_l h.2 hx) (fun i x σ Ha Hb hi h hy => ?ht) (fun σ H' h => ?he)
    case he =>
      obtain ⟨⟨y2, y3, y4, y5, rfl⟩, sa⟩ := h
      walk_at "g"
      exact q _ sa
    case ht =>
      obtain ⟨⟨y2, y3, y4, y5, rfl⟩, sa⟩ := h
      obtain ⟨T, xi, yi, rfl, nT, rfl, ex, ey⟩ := hy
      have sT : Same Ha (upd Ha T (.tup [xi, yi])) := sm_new nT
      have eT : (upd Ha T (.tup [xi, yi])) T = some (.tup [xi, yi]) := upd_same
      generalize upd Ha T (.tup [xi, yi]) = Hb at sT eT
      cases ex
      obtain ⟨r, hr0, rfl⟩ := map_get ey
      obtain ⟨hr1, s, x, y, er, b1, b2, b3, b4⟩ := hR r (List.mem_of_getElem? hr0)
      have sx := sa.trans sT
      have hrT : SqT K Hb r.1 [V.str (if s = true then Str.ofString "right" else Str.ofString "left"), .int x, .int y] := by
        have h := sm_t sx hr1
        rw [er] at h
        exact h
      walk_at "g"
      refine k_niT (c_SIDES.t _) rfl rfl (b := false) (by rw [sides_in]; rfl) ?_
      walk_at "w"
      exact ⟨⟨_, _, _, _, rfl⟩, sx⟩
/-! ### a house as it stands -/
def HsAt (K : PySem.W.Frag) (H : Hp) (a : Addr) (S : HsD) : Prop := ∃ (dx r t : Addr) (R : List RwI) (L : List RwM),
  H a = some (.ins (He.ga K "House") dx [("signs", .str (tx S.ls)), ("rooms", .ref r), ("triples", .ref t), ("chewed", .int S.ch), ("putting", .str (tx S.pt)), ("span", .int S.mo), ("cutting", .int S.cu)]) ∧
  SqT K H r (R.map fun q => V.ref q.1) ∧ (∀ q ∈ R, SqT K H q.1 (q.2.map V.int)) ∧ R.map (·.2) = S.tb ∧
  SqT K H t (L.map fun q => V.ref q.1) ∧ (∀ q ∈ L, SqT K H q.1 (q.2.map kV)) ∧ (L.map (·.2)).Nodup ∧ (∀ k, k ∈ L.map (·.2) ↔ k ∈ S.tr) ∧ L.Pairwise fun x y => dataLe false encM x y = true
theorem HsAt.sm {H H' : Hp} {a : Addr} {S : HsD} (s : Same H H') (h : HsAt K H a S) : HsAt K H' a S := by
  obtain ⟨dx, r, t, R, L, h1, h2, h3, h4, h5, h6, h7, h8, h9⟩ := h
  exact ⟨dx, r, t, R, L, s _ _ h1, sm_t s h2, fun q hq => sm_t s (h3 q hq), h4, sm_t s h5, fun q hq => sm_t s (h6 q hq), h7, h8, h9⟩
def spInit (K : PySem.W.Frag) : Sp := fun vs H Q _ => ∃ (S : HsD) (a dx tb ev : Addr) (R : List RwI) (L : List RwM), vs = [.ref a, .str (tx S.ls), .ref tb, .ref ev, .int S.ch, .str (tx S.pt), .int S.mo, .int S.cu] ∧ HsOk S ∧
  H a = some (.ins (He.ga K "House") dx []) ∧ SqL K H tb (R.map fun q => V.ref q.1) ∧ (∀ q ∈ R, SqL K H q.1 (q.2.map V.int)) ∧ R.map (·.2) = S.tb ∧ SqL K H ev (L.map fun q => V.ref q.1) ∧ (∀ q ∈ L, SqT K H q.1 (q.2.map kV)) ∧ L.map (·.2) = S.tr ∧
  ∀ H', (∀ b u, b ≠ a → H b = some u → H' b = some u) → HsAt K H' a S → Q .non H'
structure HsC (K : PySem.W.Frag) : Prop where
  c : Cls K (He.ga K "House")
  n1 : NoAttr K (He.ga K "House") "signs"
  n2 : NoAttr K (He.ga K "House") "rooms"
  n3 : NoAttr K (He.ga K "House") "triples"
  n4 : NoAttr K (He.ga K "House") "chewed"
  n5 : NoAttr K (He.ga K "House") "putting"
  n6 : NoAttr K (He.ga K "House") "span"
  n7 : NoAttr K (He.ga K "House") "cutting"
theorem ok_House_init {f : Addr} (F : FunD K "__init__" "House.__init__" (defArgs s_House_init) (defBody s_House_init) (defScope s_House_init) [] [("chew", .int 0)] f fd) (hC : HsC K) (f_tuple : mg "tuple" = none) (f_sorted : mg "sorted" = none) (f_all : mg "all" = none) (f_len : mg "len" = none) (c_MOST_WORDS : ∃ t, mg "MOST_WORDS" = some (.int 14 t))
    (c_need_eats : Callee P w K mg base CX0 "need_eats" 1 [] (spNe K)) (c_need_table : Callee P w K mg base CX0 "need_table" 1 [] (spNt K)) (c_word_count : Callee P w K mg base CX0 "word_count" 1 [] spWc) (c_need_letters : Callee P w K mg base CX0 "need_letters" 1 [] spNl) :
    FnOk P w K mg base CX0 2 f fd ["self", "letters", "table", "eats", "chew", "put", "most", "cut"] (spInit K) := by
  refine F.ok sc_House_init (fun vs H Q E h => ?hl) (fun cdv A outer s H vs Q E hr h => ⟨_, PSs.nox (pss_cons (ps_expr (pe_cl c_need_letters hr (pa_cons (pv 1) pa_nil) pass0))
      (pss_cons (ps_if (PW.pt (pw_or (pt_not (pt_chain op_leU op_leU pe_int (pv 6) pe_int)) (pw_or1 (pt_cmpR op_gt (pe_cl c_word_count hr (pa_cons (pe_callB (call_lenK K) (by rfl) f_len PySem.boot_len (pa_cons (pv 1) pa_nil)) (pa_cons (pv 6) pa_nil)) pass0) (pe_gi c_MOST_WORDS) (nomark _))))) (pss_one ps_never) pss_nil)
      (pss_cons (ps_expr (pe_cl c_need_table hr (pa_cons (pv 2) (pa_cons (pe_callB (call_lenK K) (by rfl) f_len PySem.boot_len (pa_cons (pv 1) pa_nil)) pa_nil)) pass0))
      (pss_cons (ps_expr (pe_cl c_need_eats hr (pa_cons (pv 3) (pa_cons (pe_callB (call_lenK K) (by rfl) f_len PySem.boot_len (pa_cons (pv 2) pa_nil)) pa_nil)) pass0))
      (pss_cons (ps_if (pt_not (pt_chain op_leU op_leU pe_int (pv 4) pe_int)) (pss_one ps_never) pss_nil)
      (pss_cons (ps_if (PW.pt (pw_or (pt_cmpR op_gt (pe_callB (call_lenK K) (by rfl) f_len PySem.boot_len (pa_cons (pv 5) pa_nil)) pe_int (nomark _)) (pw_or1 (pt_not (pt_val (pe_callB (cr_allK K) (by rfl) f_all (by decide +kernel) (pa_cons (pe_lc (own := [("sign", 12)]) rfl sc_House_init.nd (pi_str (pv 5)) (blkOk_by (N := ["self", "letters", "table", "eats", "chew", "put", "most", "cut", "row", "side", "one", "other", "sign"]) (sc := defScope s_House_init) (by decide +kernel)) (fun _ _ _ _ _ => (pg_name (i := 12) sc_House_init.nd rfl (by first | exact Or.inl rfl | exact Or.inr rfl))) (fun _ _ _ _ _ => pts_nil) (fun _ _ _ _ _ => (pe_cmpR op_inS (pv 12) (pv 1) (by rfl)))) pa_nil))))))) (pss_one ps_never) pss_nil)
      (pss_cons (ps_if (pt_not (pt_chain op_leU op_leU pe_int (pv 7) (pv 6))) (pss_one ps_never) pss_nil)
      (pss_cons (ps_fld (pv 0) (pv 1) rfl)
      (pss_cons (ps_fld (pv 0) (pe_callTy (call_tupK K) (by rfl) f_tuple (by decide +kernel) (pa_cons (pe_lc (own := [("row", 8)]) rfl sc_House_init.nd (pi_listK K (pv 2)) (blkOk_by (N := ["self", "letters", "table", "eats", "chew", "put", "most", "cut", "row", "side", "one", "other", "sign"]) (sc := defScope s_House_init) (by decide +kernel)) (fun _ _ _ _ _ => (pg_name (i := 8) sc_House_init.nd rfl (by first | exact Or.inl rfl | exact Or.inr rfl))) (fun _ _ _ _ _ => pts_nil) (fun _ _ _ _ _ => (pe_callTy (call_tupK K) (by rfl) f_tuple (by decide +kernel) (pa_cons (pv 8) pa_nil)))) pa_nil)) rfl)
      (pss_cons (ps_fld (pv 0) (pe_callTy (call_tupK K) (by rfl) f_tuple (by decide +kernel) (pa_cons (pe_callB (cr_sortedA K P w hr.units) (by rfl) f_sorted (by decide +kernel) (pa_cons (pe_sgM K P w hr.units (own := [("side", 9), ("one", 10), ("other", 11)]) sc_House_init.nd (pi_listK K (pv 3)) (blkOk_by (N := ["self", "letters", "table", "eats", "chew", "put", "most", "cut", "row", "side", "one", "other", "sign"]) (sc := defScope s_House_init) (by decide +kernel)) (fun _ _ _ _ _ => (pg_tupK K 3 (by rfl) (pgs_cons (pg_name (i := 9) sc_House_init.nd rfl (by first | exact Or.inl rfl | exact Or.inr rfl)) (pgs_cons (pg_name (i := 10) sc_House_init.nd rfl (by first | exact Or.inl rfl | exact Or.inr rfl)) (pgs_cons (pg_name (i := 11) sc_House_init.nd rfl (by first | exact Or.inl rfl | exact Or.inr rfl)) pgs_nil))))) (fun _ _ _ _ _ => pts_nil) (fun _ _ _ _ _ => (pe_tup (pa_cons (pv 9) (pa_cons (pv 10) (pa_cons (pv 11) pa_nil)))))) pa_nil)) pa_nil)) rfl)
      (pss_cons (ps_fld (pv 0) (pv 4) rfl)
      (pss_cons (ps_fld (pv 0) (pv 5) rfl)
      (pss_cons (ps_fld (pv 0) (pv 6) rfl)
      (pss_one (ps_fld (pv 0) (pv 7) rfl))))))))))))))), ?rd⟩)
  case hl =>
    obtain ⟨S, a, dx, tb, ev, R, L, rfl, _⟩ := h
    rfl
  case rd =>
    obtain ⟨S, a, dx, tb, ev, R, L, rfl, ok, ha, hT, hR, eR, hE, hL, eL, q⟩ := h
    obtain ⟨hc, n1, n2, n3, n4, n5, n6, n7⟩ := hC
    refine k_start (σ' := [some _, some _, some _, some _, some _, some _, some _, some _, none, none, none, none, none]) rfl ?_
    have l1 := ok.l1
    have l3 := ok.l3
    have t1 := ok.t1
    have t4 := ok.t4
    have m1 := ok.m1
    have m3 := ok.m3
    have c0 := ok.c0
    have c2 := ok.c2
    have p2 := ok.p2
    have k1 := ok.k1
    have km := ok.km
    have lls := len_tx S.ls
    have lpt := len_tx S.pt
    walk_at "w"
    refine ⟨S.ls, rfl, ok.rise, l1, l3, fun H1 s1 => ?_⟩
    walk_at "w"
    refine k_len_s (by omega) ?_
    walk_at "g"
    have hmo : S.mo = ((S.mo.toNat : Nat) : Int) := by omega
    refine ⟨S.ls.length, S.mo.toNat, by rw [lls, ← hmo]; rfl, l1, l3, by omega, by omega, fun H2 s2 => ?_⟩
    have mw := ok.mw
    walk_at "w"
    refine k_len_s (by omega) ?_
    rw [lls]
    walk_at "g"
    have lR : R.length = S.tb.length := by rw [← eR, List.length_map]
    refine ⟨tb, S.ls.length, R, rfl, sm_l (s1.trans s2) hT, fun r hr0 => ?_, l3, by omega, by omega, fun H3 s3 => ?_⟩
    · obtain ⟨w1, w2⟩ := ok.tw r.2 (by rw [← eR]; exact List.mem_map.mpr ⟨r, hr0, rfl⟩)
      exact ⟨sm_l (s1.trans s2) (hR r hr0), w1, fun x hx => by rw [lR]; exact w2 x hx⟩
    have s03 := (s1.trans s2).trans s3
    have hT3 := sm_l s03 hT
    have lRV : (R.map fun q => V.ref q.1).length = S.tb.length := by rw [List.length_map, lR]
    walk_at "g"
    rw [lRV]
    have e7 := ok.e7
    have lL : L.length = S.tr.length := by rw [← eL, List.length_map]
    refine ⟨ev, S.tb.length, L, rfl, sm_l s03 hE, fun r hr0 => ?_, by omega, fun H4 s4 => ?_⟩
    · obtain ⟨s, x, y, e, b1, b2, b3, b4⟩ := ok.ev r.2 (by rw [← eL]; exact List.mem_map.mpr ⟨r, hr0, rfl⟩)
      exact ⟨sm_t s03 (hL r hr0), s, x, y, e, b1, b2, b3, b4⟩
    walk_at "w"
    refine k_len_s (by omega) ?_
    rw [lpt]
    walk_at "w"
    have szp : (tx S.pt).cps.size = S.pt.length := lpt
    refine k_nLcT (walk_str (z := tx S.pt)) (by omega) (fun _ _ => trivial) (fun i v Ha Hb Kp hi sa hy hKp => ?ht) (fun p Hp np sp ep => ?he)
    case ht =>
      obtain ⟨rfl, c, hc', rfl⟩ := hy
      walk_at "g"
      refine ⟨rfl, ?_⟩
      walk_at "g"
      have hm : c ∈ S.pt := List.mem_of_getElem? (show S.pt[i]? = some c by rw [← hc']; exact Array.getElem?_toList (xs := S.pt.toArray))
      rw [show decide (c ∈ (tx S.ls).cps.toList) = true from decide_eq_true (ok.pl c hm)]
      exact hKp _ (Same.refl _)
    case he =>
      walk_at "g"
      refine k_allT _ rfl ep ?_
      have s05 := (s03.trans s4).trans sp
      have ha5 := s05 _ _ ha
      walk_at "w"
      -- the rooms
      have hT5 := l_ins (o := .ins (He.ga K "House") dx (putF "signs" (.str (tx S.ls)) [])) ha5 (sm_l ((s4.trans sp)) hT3)
      have hR5 : ∀ r ∈ R, SqL K (upd Hp a (.ins (He.ga K "House") dx (putF "signs" (.str (tx S.ls)) []))) r.1 (r.2.map V.int) := fun r hr0 => l_ins ha5 (sm_l s05 (hR r hr0))
      have hE5 := l_ins (o := .ins (He.ga K "House") dx (putF "signs" (.str (tx S.ls)) [])) ha5 (sm_l s05 hE)
      have hL5 : ∀ r ∈ L, SqT K (upd Hp a (.ins (He.ga K "House") dx (putF "signs" (.str (tx S.ls)) []))) r.1 (r.2.map kV) := fun r hr0 => t_ins ha5 (sm_t s05 (hL r hr0))
      have hb5 : ∀ b u, b ≠ a → H b = some u → (upd Hp a (.ins (He.ga K "House") dx (putF "signs" (.str (tx S.ls)) []))) b = some u := fun b u hb e => by rw [upd_ne hb]; exact s05 b u e
      have haA : (upd Hp a (.ins (He.ga K "House") dx (putF "signs" (.str (tx S.ls)) []))) a = some (.ins (He.ga K "House") dx (putF "signs" (.str (tx S.ls)) [])) := upd_same
      generalize upd Hp a (.ins (He.ga K "House") dx (putF "signs" (.str (tx S.ls)) [])) = G at *
      walk_at "g"
      refine k_nLcD (walk_list (xs := R.map fun q => V.ref q.1)) (fun H' s2 => sm_l s2 hT5) (fun i ws H1 => ∃ R' : List RwI, ws = R'.map (fun q => V.ref q.1) ∧ R'.map (·.2) = (R.take i).map (·.2) ∧ ∀ q ∈ R', SqT K H1 q.1 (q.2.map V.int)) (fun i ws H1 H2 s h => ?hm) ⟨[], rfl, rfl, fun q hq => nomatch hq⟩ (fun i ws H1 hi h => ?hz) (fun i v p H1 H2 ws Kp Ks hi hp s1 e1 hws hy hKp hKs => ?ht2) (fun pr Hr ws nr sr er hws => ?he2)
      case hm =>
        obtain ⟨R', e1, e2, h3⟩ := h
        exact ⟨R', e1, e2, fun q hq => sm_t s (h3 q hq)⟩
      case hz =>
        obtain ⟨R', e1, e2, h3⟩ := h
        have := congrArg List.length e2
        rw [List.length_map, List.length_map, List.length_take] at this
        rw [e1, List.length_map]
        omega
      case ht2 =>
        obtain ⟨rfl, hv⟩ := hy
        obtain ⟨r, hr0, rfl⟩ := map_get hv
        obtain ⟨R', e2, e3, h3⟩ := hws
        have hr1 := sm_l s1 (hR5 r (List.mem_of_getElem? hr0))
        walk_at "g"
        refine ⟨rfl, ?_⟩
        walk_at "g"
        refine k_tup_l hr1 (fun t H6 n6 s6 e6 => hKp _ _ s6 ⟨R' ++ [(t, r.2)], by rw [e2, List.map_append]; rfl, by rw [List.map_append, e3, take_more hr0, List.map_append]; rfl, fun q hq => ?_⟩)
        rcases List.mem_append.mp hq with hq | hq
        · exact sm_t (del_mono s6) (h3 q hq)
        · cases List.mem_singleton.mp hq
          exact del_t (s6 _ _ e1) (sq_t e6)
      case he2 =>
        obtain ⟨R', e2, e3, h3⟩ := hws
        subst e2
        have lRm : (R.map fun q => V.ref q.1).length = R.length := List.length_map _
        rw [lRm, List.take_length, eR] at e3
        have haR := sr _ _ haA
        walk_at "g"
        refine k_tup_l (sq_l er) (fun tr H6 n6 s6 e6 => ?_)
        have ha6 := s6 _ _ haR
        walk_at "g"
        have sR6 := sr.trans s6
        have hE6 := l_ins (o := .ins (He.ga K "House") dx (putF "rooms" (.ref tr) (putF "signs" (.str (tx S.ls)) []))) ha6 (sm_l sR6 hE5)
        have hL6 : ∀ r ∈ L, SqT K (upd H6 a (.ins (He.ga K "House") dx (putF "rooms" (.ref tr) (putF "signs" (.str (tx S.ls)) [])))) r.1 (r.2.map kV) := fun r hr0 => t_ins ha6 (sm_t sR6 (hL5 r hr0))
        have hb6 : ∀ b u, b ≠ a → H b = some u → (upd H6 a (.ins (He.ga K "House") dx (putF "rooms" (.ref tr) (putF "signs" (.str (tx S.ls)) [])))) b = some u := fun b u hb e => by rw [upd_ne hb]; exact sR6 b u (hb5 b u hb e)
        have hA6 : (upd H6 a (.ins (He.ga K "House") dx (putF "rooms" (.ref tr) (putF "signs" (.str (tx S.ls)) [])))) a = some (.ins (He.ga K "House") dx (putF "rooms" (.ref tr) (putF "signs" (.str (tx S.ls)) []))) := upd_same
        have hr6 : SqT K (upd H6 a (.ins (He.ga K "House") dx (putF "rooms" (.ref tr) (putF "signs" (.str (tx S.ls)) [])))) tr (R'.map fun q => V.ref q.1) := t_ins ha6 (sq_t e6)
        have hq6 : ∀ q ∈ R', SqT K (upd H6 a (.ins (He.ga K "House") dx (putF "rooms" (.ref tr) (putF "signs" (.str (tx S.ls)) [])))) q.1 (q.2.map V.int) := fun q hq => t_ins ha6 (sm_t s6 (h3 q hq))
        generalize upd H6 a (.ins (He.ga K "House") dx (putF "rooms" (.ref tr) (putF "signs" (.str (tx S.ls)) []))) = G2 at *
        walk_at "g"
        refine k_nSgM (walk_list (xs := L.map fun q => V.ref q.1)) (fun H' s2 => sm_l s2 hE6) (by rw [List.length_map]; omega) (fun i ms => ms = (L.take i).map (·.2)) rfl (fun i v H1 H2 ms Kp Ks hi s1 hms hy hKp hKs => ?ht3) (fun ps Hs ms L' ns ss es tL iL lL' hms => ?he3)
        case ht3 =>
          obtain ⟨rfl, hv⟩ := hy
          obtain ⟨r, hr0, rfl⟩ := map_get hv
          have hm0 := List.mem_of_getElem? hr0
          obtain ⟨s, x, y, ek, b1, b2, b3, b4⟩ := ok.ev r.2 (by rw [← eL]; exact List.mem_map.mpr ⟨r, hm0, rfl⟩)
          have hrT : SqT K H2 r.1 [V.str (if s = true then Str.ofString "right" else Str.ofString "left"), .int x, .int y] := by
            have h := sm_t s1 (hL6 r hm0)
            rw [ek] at h
            exact h
          walk_at "g"
          refine ⟨rfl, ?_⟩
          walk_at "g"
          refine k_nTup (by walk_at "sz") (fun T H5 n5 s5 e5 => hKp (kEat s x y) T H5 s5 (sq_t e5) ?_)
          rw [hms, take_more hr0, List.map_append, ← ek]
          rfl
        case he3 =>
          have lLm : (L.map fun q => V.ref q.1).length = L.length := List.length_map _
          rw [lLm, List.take_length, eL] at hms
          subst hms
          have kn : ∀ q ∈ L', ∃ s x y, q.2 = kEat s x y := fun q hq => by
            obtain ⟨s, x, y, e, _⟩ := ok.ev q.2 ((iL q.2).mp (List.mem_map.mpr ⟨q, hq, rfl⟩))
            exact ⟨s, x, y, e⟩
          walk_at "g"
          refine k_sortM es tL (fun d hd d' hd' => ?_) (fun q hq => ?_) (fun L2 p2 H7 pm nd pw n7 s7 e7' => ?_)
          · obtain ⟨q, hq, rfl⟩ := List.mem_map.mp hd
            obtain ⟨q', hq', rfl⟩ := List.mem_map.mp hd'
            obtain ⟨s, x, y, e⟩ := kn q hq
            obtain ⟨s', x', y', e'⟩ := kn q' hq'
            unfold Gk.encM
            rw [e, e']
            rfl
          · obtain ⟨s, x, y, e⟩ := kn q hq
            rw [e]
            exact fun z => by cases z
          walk_at "g"
          refine k_tup_l (sq_l e7') (fun p8 H8 n8 s8 e8 => ?_)
          have s68 := (ss.trans s7).trans s8
          have ha8 := s68 _ _ hA6
          have hr8 := sm_t s68 hr6
          have hq8 : ∀ q ∈ R', SqT K H8 q.1 (q.2.map V.int) := fun q hq => sm_t s68 (hq6 q hq)
          have hL8 : ∀ q ∈ L2, SqT K H8 q.1 (q.2.map kV) := fun q hq => sm_t (s7.trans s8) (tL q (pm.mem_iff.mp hq))
          walk_at "g"
          simp only [upd_upd]
          refine q _ (fun b u hb e => by rw [upd_ne hb]; exact s68 b u (hb6 b u hb e)) ⟨dx, tr, p8, R', L2, upd_same, t_ins ha8 hr8, fun q hq => t_ins ha8 (hq8 q hq), e3, t_ins ha8 (sq_t e8), fun q hq => t_ins ha8 (hL8 q hq), (pm.map _).nodup_iff.mpr nd, fun k => ?_, pw⟩
          rw [(pm.map (·.2)).mem_iff]
          exact iL k
/-! ### what a house tells -/
def spHsM (K : PySem.W.Frag) (g : HsD → V) : Sp := fun vs H Q _ => ∃ (a : Addr) (S : HsD), vs = [.ref a] ∧ HsAt K H a S ∧ Q (g S) H
theorem ok_House_letters (F : FnM K "letters" "House.letters" s_House_letters (He.ma K (He.ga K "House") "letters") fd) (hC : HsC K) (me : Meth K (He.ga K "House") "letters" (He.ma K (He.ga K "House") "letters")) : CalleeM P w K mg base CX0 "House" "letters" 1 (spHsM K fun S => .str (tx S.ls)) := by
  refine ⟨hC.c, me, fd, ["self"], F.ok sc_House_letters (fun vs H Q E h => ?hl) (fun cdv A outer s H vs Q E hr h => ⟨_, PSs.nox (pss_one (ps_ret (pe_fld (pv 0) rfl))), ?rd⟩), F.bindsN fun _ _ _ _ _ _ us hl => match us, hl with | [_], _ => rfl⟩
  case hl =>
    obtain ⟨a, S, rfl, _⟩ := h
    rfl
  case rd =>
    obtain ⟨a, S, rfl, ⟨dx, r, t, R, L, h1, h2⟩, q⟩ := h
    obtain ⟨hc, n1, n2, n3, n4, n5, n6, n7⟩ := hC
    refine k_start (σ' := [some _]) rfl ?_
    walk_at "g"
    exact q
theorem ok_House_most (F : FnM K "most" "House.most" s_House_most (He.ma K (He.ga K "House") "most") fd) (hC : HsC K) (me : Meth K (He.ga K "House") "most" (He.ma K (He.ga K "House") "most")) : CalleeM P w K mg base CX0 "House" "most" 1 (spHsM K fun S => .int S.mo) := by
  refine ⟨hC.c, me, fd, ["self"], F.ok sc_House_most (fun vs H Q E h => ?hl) (fun cdv A outer s H vs Q E hr h => ⟨_, PSs.nox (pss_one (ps_ret (pe_fld (pv 0) rfl))), ?rd⟩), F.bindsN fun _ _ _ _ _ _ us hl => match us, hl with | [_], _ => rfl⟩
  case hl =>
    obtain ⟨a, S, rfl, _⟩ := h
    rfl
  case rd =>
    obtain ⟨a, S, rfl, ⟨dx, r, t, R, L, h1, h2⟩, q⟩ := h
    obtain ⟨hc, n1, n2, n3, n4, n5, n6, n7⟩ := hC
    refine k_start (σ' := [some _]) rfl ?_
    walk_at "g"
    exact q
/-! ### tastes -/
def pos (c : Nat) : List Nat → Nat
  | [] => 0
  | x :: r => if x = c then 0 else pos c r + 1
theorem pos_ok {c : Nat} : ∀ {l : List Nat}, c ∈ l → l[pos c l]? = some c ∧ ∀ j, j < pos c l → l[j]? ≠ some c
  | x :: r, h => by
    unfold pos
    by_cases e : x = c
    · rw [if_pos e]
      exact ⟨by rw [e]; rfl, fun j hj => absurd hj (Nat.not_lt_zero j)⟩
    · rw [if_neg e]
      obtain ⟨h1, h2⟩ := pos_ok (c := c) (l := r) ((List.mem_cons.mp h).resolve_left fun z => e z.symm)
      refine ⟨h1, fun j hj => ?_⟩
      cases j with
      | zero => exact fun z => e (Option.some.inj z)
      | succ j => exact h2 j (by omega)
def stepT (S : HsD) (here : Int) (c : Nat) : Int := (S.tb.getD here.toNat []).getD (pos c S.ls) 0
def tasteF (S : HsD) (cs : List Nat) : Int := cs.foldl (stepT S) 0
theorem stepT_ok {S : HsD} (ok : HsOk S) {here : Int} {c : Nat} (h0 : 0 ≤ here) (h1 : here < S.tb.length) (hc : c ∈ S.ls) :
    ∃ r, S.tb[here.toNat]? = some r ∧ r[pos c S.ls]? = some (stepT S here c) ∧ 0 ≤ stepT S here c ∧ stepT S here c < S.tb.length := by
  have hk : here.toNat < S.tb.length := by omega
  have e : S.tb[here.toNat]? = some S.tb[here.toNat] := List.getElem?_eq_getElem hk
  obtain ⟨w1, w2⟩ := ok.tw S.tb[here.toNat] (List.getElem_mem hk)
  have hp : pos c S.ls < S.tb[here.toNat].length := by
    rw [w1]
    exact (List.getElem?_eq_some_iff.mp (pos_ok hc).1).1
  have g : S.tb.getD here.toNat [] = S.tb[here.toNat] := by
    rw [List.getD_eq_getElem?_getD, e]
    rfl
  have e2 : stepT S here c = S.tb[here.toNat][pos c S.ls] := by
    unfold stepT
    rw [g, List.getD_eq_getElem?_getD, List.getElem?_eq_getElem hp]
    rfl
  refine ⟨_, e, by rw [e2, List.getElem?_eq_getElem hp], ?_⟩
  rw [e2]
  exact w2 _ (List.getElem_mem hp)
theorem taste_in {S : HsD} (ok : HsOk S) : ∀ (cs : List Nat) (here : Int), 0 ≤ here → here < S.tb.length → (∀ c ∈ cs, c ∈ S.ls) → 0 ≤ cs.foldl (stepT S) here ∧ cs.foldl (stepT S) here < S.tb.length
  | [], _, h0, h1, _ => ⟨h0, h1⟩
  | c :: cs, here, h0, h1, hc => by
    obtain ⟨r, _, _, a, b⟩ := stepT_ok ok h0 h1 (hc c (List.mem_cons_self ..))
    exact taste_in ok cs _ a b fun d hd => hc d (List.mem_cons_of_mem _ hd)
theorem at_pos {α : Type} {xs : List α} {z : Int} {v : α} (h0 : 0 ≤ z) (h : xs[z.toNat]? = some v) : atI xs z = some v := at_n (j := z.toNat) (by omega) h
def spTasted (K : PySem.W.Frag) : Sp := fun vs H Q _ => ∃ (a : Addr) (S : HsD) (cs : List Nat), vs = [.ref a, .str (tx cs)] ∧ HsAt K H a S ∧ HsOk S ∧ (∀ c ∈ cs, c ∈ S.ls) ∧ Q (.int (tasteF S cs)) H
theorem ok_House_tasted (F : FnM K "tasted" "House.tasted" s_House_tasted (He.ma K (He.ga K "House") "tasted") fd) (hC : HsC K) (me : Meth K (He.ga K "House") "tasted" (He.ma K (He.ga K "House") "tasted")) : CalleeM P w K mg base CX0 "House" "tasted" 1 (spTasted K) := by
  refine ⟨hC.c, me, fd, ["self", "word"], F.ok sc_House_tasted (fun vs H Q E h => ?hl) (fun cdv A outer s H vs Q E hr h => ⟨_, PSs.nox (pss_cons (ps_set (i := 2) sc_House_tasted.nd rfl (by first | exact Or.inl rfl | exact Or.inr rfl) pe_int)
      (pss_cons (ps_for PassesOwn.never rfl (pi_str (pv 1)) (pg_name (i := 3) sc_House_tasted.nd rfl (by first | exact Or.inl rfl | exact Or.inr rfl)) (pss_one (ps_set (i := 2) sc_House_tasted.nd rfl (by first | exact Or.inl rfl | exact Or.inr rfl) (pe_ix (ix_k K) (pe_ix (ix_k K) (pe_fld (pv 0) rfl) (pv 2) (fun _ _ => rfl)) (pe_bmK K PySem.F.plainAttrs_str PySem.F.slot_str_index PySem.F.type_str_index mt_sindex (pe_fld (pv 0) rfl) (pa_cons (pv 3) pa_nil)) (fun _ _ => rfl)))))
      (pss_one (ps_ret (pv 2))))), ?rd⟩), F.bindsN fun _ _ _ _ _ _ us hl => match us, hl with | [_, _], _ => rfl⟩
  case hl =>
    obtain ⟨a, S, cs, rfl, _⟩ := h
    rfl
  case rd =>
    obtain ⟨a, S, cs, rfl, ⟨dx, r, t, R, L, h1, h2, h3, h4, _⟩, ok, hcs, q⟩ := h
    obtain ⟨hc, n1, n2, n3, n4, n5, n6, n7⟩ := hC
    refine k_start (σ' := [some _, some _, none, none]) rfl ?_
    have t1 := ok.t1
    walk_at "g"
    refine k_nFor (walk_str (z := tx cs)) (fun i σ H' => (∃ y3, σ = [some (.ref a), some (.str (tx cs)), some (.int ((cs.take i).foldl (stepT S) 0)), y3]) ∧ H' = H) ⟨⟨_, rfl⟩, rfl⟩ (fun _ _ _ _ _ => trivial) (fun i x σ Ha Hb hi h hy => ?ht) (fun σ H' h => ?he)
    case he =>
      obtain ⟨⟨y3, rfl⟩, rfl⟩ := h
      have e : (tx cs).cps.size = cs.length := len_tx cs
      rw [e, List.take_length]
      walk_at "g"
      exact q
    case ht =>
      obtain ⟨⟨y3, rfl⟩, rfl⟩ := h
      obtain ⟨rfl, c, hc', rfl⟩ := hy
      have hci : cs[i]? = some c := by rw [← hc']; exact Array.getElem?_toList (xs := cs.toArray)
      have hcl := hcs c (List.mem_of_getElem? hci)
      obtain ⟨b0, b1⟩ := taste_in ok (cs.take i) 0 (Int.le_refl _) (by omega) fun d hd => hcs d (List.mem_of_mem_take hd)
      obtain ⟨row, er, es, _, _⟩ := stepT_ok ok b0 b1 hcl
      rw [take_more hci, List.foldl_append]
      generalize (cs.take i).foldl (stepT S) 0 = here at *
      have er2 := er
      rw [← h4, List.getElem?_map] at er2
      obtain ⟨q0, hq0, rfl⟩ := Option.map_eq_some_iff.mp er2
      walk_at "g"
      refine k_ix_t h2 (v := .ref q0.1) (at_pos b0 (by rw [List.getElem?_map, hq0]; rfl)) ?_
      walk_at "g"
      obtain ⟨rest, eo⟩ := occ_one (pos_ok hcl).1 (pos_ok hcl).2
      refine ⟨tx S.ls, ⟨#[c]⟩, pos c S.ls, rest, rfl, rfl, eo, ?_⟩
      refine k_ix_t (h3 q0 (List.mem_of_getElem? hq0)) (v := .int (stepT S here c)) (at_n (j := pos c S.ls) rfl (by rw [List.getElem?_map, es]; rfl)) ?_
      walk_at "g"
      exact ⟨⟨_, rfl⟩, rfl⟩
theorem ok_House_chew (F : FnM K "chew" "House.chew" s_House_chew (He.ma K (He.ga K "House") "chew") fd) (hC : HsC K) (me : Meth K (He.ga K "House") "chew" (He.ma K (He.ga K "House") "chew")) : CalleeM P w K mg base CX0 "House" "chew" 1 (spHsM K fun S => .int S.ch) := by
  refine ⟨hC.c, me, fd, ["self"], F.ok sc_House_chew (fun vs H Q E h => ?hl) (fun cdv A outer s H vs Q E hr h => ⟨_, PSs.nox (pss_one (ps_ret (pe_fld (pv 0) rfl))), ?rd⟩), F.bindsN fun _ _ _ _ _ _ us hl => match us, hl with | [_], _ => rfl⟩
  case hl =>
    obtain ⟨a, S, rfl, _⟩ := h
    rfl
  case rd =>
    obtain ⟨a, S, rfl, ⟨dx, r, t, R, L, h1, h2⟩, q⟩ := h
    obtain ⟨hc, n1, n2, n3, n4, n5, n6, n7⟩ := hC
    refine k_start (σ' := [some _]) rfl ?_
    walk_at "g"
    exact q
theorem ok_House_put (F : FnM K "put" "House.put" s_House_put (He.ma K (He.ga K "House") "put") fd) (hC : HsC K) (me : Meth K (He.ga K "House") "put" (He.ma K (He.ga K "House") "put")) : CalleeM P w K mg base CX0 "House" "put" 1 (spHsM K fun S => .str (tx S.pt)) := by
  refine ⟨hC.c, me, fd, ["self"], F.ok sc_House_put (fun vs H Q E h => ?hl) (fun cdv A outer s H vs Q E hr h => ⟨_, PSs.nox (pss_one (ps_ret (pe_fld (pv 0) rfl))), ?rd⟩), F.bindsN fun _ _ _ _ _ _ us hl => match us, hl with | [_], _ => rfl⟩
  case hl =>
    obtain ⟨a, S, rfl, _⟩ := h
    rfl
  case rd =>
    obtain ⟨a, S, rfl, ⟨dx, r, t, R, L, h1, h2⟩, q⟩ := h
    obtain ⟨hc, n1, n2, n3, n4, n5, n6, n7⟩ := hC
    refine k_start (σ' := [some _]) rfl ?_
    walk_at "g"
    exact q
theorem ok_House_cut (F : FnM K "cut" "House.cut" s_House_cut (He.ma K (He.ga K "House") "cut") fd) (hC : HsC K) (me : Meth K (He.ga K "House") "cut" (He.ma K (He.ga K "House") "cut")) : CalleeM P w K mg base CX0 "House" "cut" 1 (spHsM K fun S => .int S.cu) := by
  refine ⟨hC.c, me, fd, ["self"], F.ok sc_House_cut (fun vs H Q E h => ?hl) (fun cdv A outer s H vs Q E hr h => ⟨_, PSs.nox (pss_one (ps_ret (pe_fld (pv 0) rfl))), ?rd⟩), F.bindsN fun _ _ _ _ _ _ us hl => match us, hl with | [_], _ => rfl⟩
  case hl =>
    obtain ⟨a, S, rfl, _⟩ := h
    rfl
  case rd =>
    obtain ⟨a, S, rfl, ⟨dx, r, t, R, L, h1, h2⟩, q⟩ := h
    obtain ⟨hc, n1, n2, n3, n4, n5, n6, n7⟩ := hC
    refine k_start (σ' := [some _]) rfl ?_
    walk_at "g"
    exact q
/-! ### steps over a house -/
section
variable {H : Hp} {Q : VK} {a : Addr} {S : HsD} {m : Str} {A : Prop} {E : XK}
def hFs (S : HsD) (r t : Addr) : List (Str × V) := [("signs", .str (tx S.ls)), ("rooms", .ref r), ("triples", .ref t), ("chewed", .int S.ch), ("putting", .str (tx S.pt)), ("span", .int S.mo), ("cutting", .int S.cu)]
theorem k_hsm {g : HsD → V} (hs : HsAt K H a S) (h : Q (g S) H) : spHsM K g (.ref a :: ([] ++ [])) H Q E := ⟨a, S, rfl, hs, h⟩
theorem k_nMethH (hs : HsAt K H a S) (hl : ∀ r t, (hFs S r t).lookup m = none) (h : A) : nMeth (He.ga K "House") m (.ref a) H A := by
  obtain ⟨dx, r, t, R, L, h1, _⟩ := hs
  exact ⟨a, dx, hFs S r t, rfl, h1, hl r t, h⟩
end
end
end Lw
set_option autoImplicit true
set_option pp.maxSteps 1200
set_option Elab.async false
set_option linter.all false
set_option maxRecDepth 100000
set_option maxHeartbeats 1000000
namespace Lw
open PySem PySem.Spec PyProof.Rows L2 Gk

local macro_rules | `(tactic| walk_at "hp") => `(tactic| first | assumption | exact upd_same | (refine' (upd_ne ?n).trans ?h; (case n => assumption); (case h => walk_at "hp")) | (refine' sm_get ?s ?h; (case s => assumption); (case h => walk_at "hp")))
local macro_rules | `(tactic| walk_at "sq") => `(tactic| first | assumption | (refine' sq_l ?h; (case h => walk_at "hp")) | (refine' sm_l ?s ?h; (case s => assumption); (case h => walk_at "sq")))
local macro_rules | `(tactic| walk_at "st") => `(tactic| first | assumption | (refine' sq_t ?h; (case h => walk_at "hp")) | (refine' sm_t ?s ?h; (case s => assumption); (case h => walk_at "st")))
local macro_rules | `(tactic| walk_at "bg") => `(tactic| first | assumption | (refine' BagOk.sm ?s ?h; (case s => assumption); (case h => walk_at "bg")))
local macro_rules | `(tactic| walk_at "sm") => `(tactic| first | assumption | exact Same.refl _ | (refine' Same.trans ?h ?s; (case s => assumption); (case h => walk_at "sm")))
local macro_rules | `(tactic| walk_at "hs") => `(tactic| first | assumption | (refine' HsAt.sm ?s ?h; (case s => assumption); (case h => walk_at "hs")))
local macro_rules | `(tactic| walk_at "ms") => `(tactic| first | assumption | (refine' MAt.sm ?s ?h; (case s => assumption); (case h => walk_at "ms")))
local macro_rules | `(tactic| walk_at "dp") => `(tactic| first | assumption | (refine' dp_sm ?s ?h; (case s => assumption); (case h => walk_at "dp")))
local macro_rules | `(tactic| walk_at "sz") => `(tactic| first | decide | assumption | omega | (simp only [List.length_cons, List.length_nil, List.length_map, List.length_append]; omega))
local macro_rules | `(tactic| walk_at "g1") => `(tactic| first
  | with_reducible refine k_seq ?_
  | with_reducible refine k_itB ?_
  | with_reducible refine k_next ?_
  | with_reducible refine k_asg ?_
  | with_reducible refine k_name ?_
  | with_reducible refine k_ret ?_
  | with_reducible refine k_retN ?_
  | with_reducible refine k_drop ?_
  | with_reducible refine k_ifs ?_
  | with_reducible refine k_brk ?_
  | with_reducible refine k_cont ?_
  | with_reducible refine k_ipI ?_
  | with_reducible refine k_test ?_
  | with_reducible refine k_tB ?_
  | with_reducible refine k_bl ?_
  | with_reducible refine k_not ?_
  | with_reducible refine k_and ?_
  | with_reducible refine k_or ?_
  | with_reducible refine k_yes ?_
  | with_reducible refine k_true ?_
  | with_reducible refine k_false ?_
  | with_reducible refine k_nt ?_
  | with_reducible refine k_c ?_
  | with_reducible refine k_op ?_
  | with_reducible refine k_un ?_
  | with_reducible refine k_if ?_
  | with_reducible refine k_chain ?_
  | with_reducible refine k_nil ?_
  | with_reducible refine k_cons ?_
  | with_reducible refine k_cb ?_
  | with_reducible refine k_call ?_
  | with_reducible refine k_callS ?_
  | with_reducible refine k_andV ?_
  | with_reducible refine k_orV ?_
  | with_reducible refine k_notV ?_
  | with_reducible refine k_lst ?_
  | with_reducible refine k_tup ?_
  | with_reducible refine k_nopart ?_
  | with_reducible refine k_part ?_
  | with_reducible refine k_nInt ?_
  | with_reducible refine k_sl ?_
  | with_reducible refine k_bm ?_
  | with_reducible refine k_bm0 ?_
  | with_reducible refine k_nTyS ?_
  | with_reducible refine k_m1 ?_
  | with_reducible refine k_m0 ?_
  | with_reducible refine k_nStr ?_
  | with_reducible refine k_I0 ?_
  | with_reducible refine k_U ?_
  | with_reducible refine k_add_i ?_
  | with_reducible refine k_eq_i ?_
  | with_reducible refine k_eq_s ?_
  | with_reducible refine k_eq_b ?_
  | with_reducible refine k_ne_i ?_
  | with_reducible refine k_ne_s ?_
  | with_reducible refine k_ne_b ?_
  | with_reducible refine k_le_i ?_
  | with_reducible refine k_le_s ?_
  | with_reducible refine k_gnil ?_
  | with_reducible refine k_gcons ?_
  | with_reducible refine k_gsub ?_
  | with_reducible refine k_for ?_
  | with_reducible refine k_lc ?_
  | with_reducible refine k_rng1 ?_
  | with_reducible refine k_rng2 ?_
  | with_reducible refine k_itl ?_
  | with_reducible refine k_itt ?_
  | with_reducible refine k_its ?_
  | with_reducible refine k_ite ?_
  | with_reducible refine k_iteB ?_
  | with_reducible refine k_lrg2 ?_
  | with_reducible refine k_itz ?_
  | with_reducible refine k_nIts ?_
  | with_reducible refine k_inS ?_
  | with_reducible refine k_niS ?_
  | with_reducible refine k_mk ?_
  | with_reducible refine k_meth ?_
  | with_reducible refine k_fld ?_
  | with_reducible refine k_sfld ?_
  | with_reducible refine k_dg ?_
  | with_reducible refine k_dp ?_
  | with_reducible refine k_pr ?_
  | with_reducible refine k_pr0 ?_
  | with_reducible refine k_sg ?_
  | with_reducible refine k_lc2 ?_
  | with_reducible refine k_callN ?_
  | with_reducible refine k_callNS ?_
  | with_reducible refine k_par ?_
  | with_reducible refine k_nPar ?_
  | with_reducible refine k_isNn ?_
  | with_reducible refine k_isNr ?_
  | with_reducible refine k_ntNn ?_
  | with_reducible refine k_ntNr ?_
  | with_reducible refine k_min2 ?_
  | with_reducible refine k_max2 ?_
  | with_reducible refine k_intB ?_
  | with_reducible refine k_intI ?_
  | with_reducible refine k_isBl ?_
  | with_reducible refine k_ntBl ?_
  | ((with_reducible refine' k_var ?kv ?_); (case kv => exact rfl))
  | ((with_reducible refine' k_aug ?kv ?_); (case kv => exact rfl))
  | ((with_reducible refine' k_ix_l ?ks ?ki ?_); (case ks => walk_at "sq"); (case ki => exact rfl))
  | ((with_reducible refine' k_ix_t ?ks ?ki ?_); (case ks => walk_at "st"); (case ki => exact rfl))
  | ((with_reducible refine' k_len_l ?ks ?_); (case ks => walk_at "sq"))
  | ((with_reducible refine' k_len_t ?ks ?_); (case ks => walk_at "st"))
  | ((with_reducible refine' k_setL ?ks ?ki ?_); (case ks => walk_at "hp"); (case ki => exact rfl))
  | ((with_reducible refine' k_nTyL ?ks ?_); (case ks => walk_at "sq"))
  | ((with_reducible refine' k_nItl ?ks ?_); (case ks => walk_at "sq"))
  | ((with_reducible refine' k_nItt ?ks ?_); (case ks => walk_at "st"))
  | ((with_reducible refine' k_nIte ?ks ?_); (case ks => walk_at "sq"))
  | ((with_reducible refine' k_mul ?km ?_); (case km => first | exact Or.inr ⟨by decide, by decide⟩ | exact Or.inl ⟨by decide, by decide⟩))
  | ((with_reducible refine' k_I ?km ?_); (case km => first | assumption | decide | exact ⟨by decide, by decide +kernel⟩ | exact ⟨by decide, by decide, by decide⟩))
  | ((with_reducible refine' k_nMeth ?kp ?kl ?_); (case kp => walk_at "hp"); (case kl => exact rfl))
  | ((with_reducible refine' k_nFld ?kp ?kc ?kn ?kl ?_); (case kp => walk_at "hp"); (case kc => assumption); (case kn => assumption); (case kl => exact rfl))
  | ((with_reducible refine' k_nSFld ?kp ?kc ?kn ?kl ?_); (case kp => walk_at "hp"); (case kc => assumption); (case kn => assumption); (case kl => exact of_decide_eq_true rfl))
  | ((with_reducible refine' k_nDg ?kp ?kl ?_); (case kp => walk_at "hp"); (case kl => exact rfl))
  | ((with_reducible refine' k_nRng1 ?k1 ?k2 ?_); (case k1 => omega); (case k2 => omega))
  | ((with_reducible refine' k_nKw ?k1 ?k2 ?_); (case k1 => exact rfl); (case k2 => exact rfl))
  | ((with_reducible refine' k_hsm ?kh ?_); (case kh => walk_at "hs"))
  | ((with_reducible refine' k_nMethH ?kh ?kl ?_); (case kh => walk_at "hs"); (case kl => exact fun _ _ => rfl))
  | ((with_reducible refine' k_mLet ?kh ?_); (case kh => walk_at "ms"))
  | ((with_reducible refine' k_mChew ?kh ?_); (case kh => walk_at "ms"))
  | ((with_reducible refine' k_mPut ?kh ?_); (case kh => walk_at "ms"))
  | ((with_reducible refine' k_mMost ?kh ?_); (case kh => walk_at "ms"))
  | ((with_reducible refine' k_mCut ?kh ?_); (case kh => walk_at "ms"))
  | ((with_reducible refine' k_gtup ?ks ?kl ?_); (case ks => walk_at "st"); (case kl => exact rfl)))
local macro_rules | `(tactic| walk_at "g") => `(tactic| repeat (walk_at "g1"))
local macro_rules | `(tactic| walk_at "w1") => `(tactic| first
  | walk_at "g1"
  | ((with_reducible refine' k_decT ?kp ?_); (case kp => omega))
  | ((with_reducible refine' k_decF ?kp ?_); (case kp => omega))
  | ((with_reducible refine' k_decNT ?kp ?_); (case kp => omega))
  | ((with_reducible refine' k_decNF ?kp ?_); (case kp => omega)))
local macro_rules | `(tactic| walk_at "w") => `(tactic| repeat (walk_at "w1"))


section
variable {P : Program} {w : World} {K : PySem.W.Frag} {mg : Str → Option Value} {base : Heap} {f : Addr} {fd : FuncData}
/-! ### words of a house -/
def isW (S : HsD) (z : Str) : Bool := decide (1 ≤ z.length) && (decide ((z.length : Int) ≤ S.mo) && (TL.tl z).all fun c => decide (c ∈ S.ls))
def spIsWord (K : PySem.W.Frag) : Sp := fun vs H Q _ => ∃ (a : Addr) (S : HsD) (z : Str), vs = [.ref a, .str z] ∧ HsAt K H a S ∧ z.length ≤ 1000 ∧ ∀ H', Same H H' → Q (.bl (isW S z)) H'
theorem ok_is_word (F : FnP K "is_word" s_is_word f fd) (hm : mg "is_word" = some (.ref f)) (f_len : mg "len" = none) (f_all : mg "all" = none) (c_House_letters : CalleeM P w K mg base CX0 "House" "letters" 1 (spHsM K fun S => .str (tx S.ls))) (c_House_most : CalleeM P w K mg base CX0 "House" "most" 1 (spHsM K fun S => .int S.mo)) : Callee P w K mg base CX0 "is_word" 2 [] (spIsWord K) := by
  refine ⟨f, fd, _, [], F.ok sc_is_word (fun vs H Q E h => ?hl) (fun cdv A outer s H vs Q E hr h => ⟨_, PSs.nox (pss_one (ps_ret (pe_and (pe_chain op_leU op_leU pe_int (pe_callB (call_lenK K) (by rfl) f_len PySem.boot_len (pa_cons (pv 1) pa_nil)) (pe_mt0 c_House_most hr (pv 0) pass0)) (pe_one (pe_callB (cr_allK K) (by rfl) f_all (by decide +kernel) (pa_cons (pe_lc (own := [("sign", 2)]) rfl sc_is_word.nd (pi_str (pv 1)) (blkOk_by (N := ["house", "text", "sign"]) (sc := defScope s_is_word) (by decide +kernel)) (fun _ _ _ _ _ => (pg_name (i := 2) sc_is_word.nd rfl (by first | exact Or.inl rfl | exact Or.inr rfl))) (fun _ _ _ _ _ => pts_nil) (fun _ _ _ _ _ => (pe_cmpR op_inS (pv 2) (pe_mt0 c_House_letters hr (pv 0) pass0) (by rfl)))) pa_nil)))))), ?rd⟩), hm, F.kp, F.bindsN fun _ _ _ _ _ _ us hl => match us, hl with | [_, _], _ => rfl, .nil⟩
  case hl =>
    obtain ⟨a, S, z, rfl, _⟩ := h
    rfl
  case rd =>
    obtain ⟨a, S, z, rfl, hs, lz, q⟩ := h
    have hs0 := hs
    obtain ⟨dx, r, t, R, L, h1, _⟩ := hs0
    refine k_start (σ' := [some _, some _, none]) rfl ?_
    unfold isW at q
    walk_at "g"
    refine k_len_s (by omega) ?_
    walk_at "g"
    refine k_dec (fun d1 => ?_) (fun d1 => ?_)
    · walk_at "g"
      rw [decide_eq_true (show 1 ≤ z.length by omega), Bool.true_and] at q
      refine k_dec (fun d2 => ?_) (fun d2 => ?_)
      · walk_at "g"
        rw [decide_eq_true d2, Bool.true_and] at q
        have sz : z.cps.size = z.length := rfl
        refine k_nLc (walk_str (z := z)) (fun _ _ => trivial) (fun i ws => ws = ((TL.tl z).take i).map fun c => V.bl (decide (c ∈ S.ls))) rfl (fun i vs hi hw => ?hz2) (fun i v Hc Hd vs Kp Ks hi sa2 hvs hy2 hKp hKs => ?ht2) (fun p Hp vs np sp ep hvs => ?he2)
        case hz2 =>
          rw [hw, List.length_map, List.length_take]
          omega
        case ht2 =>
          obtain ⟨rfl, c, hc, rfl⟩ := hy2
          have hsD := hs.sm sa2
          obtain ⟨dx2, r2, t2, R2, L2, h12, _⟩ := id hsD
          walk_at "g"
          refine ⟨rfl, ?_⟩
          walk_at "g"
          have hc' : (TL.tl z)[i]? = some c := by
            rw [← hc]
            exact Array.getElem?_toList
          exact hKp _ _ (Same.refl _) (by rw [hvs, take_more hc', List.map_append]; rfl)
        case he2 =>
          walk_at "g"
          have eu : (TL.tl z).take z.cps.size = TL.tl z := List.take_of_length_le (by simp)
          rw [hvs, eu] at ep
          refine k_all (bs := (TL.tl z).map fun c => decide (c ∈ S.ls)) (sq_l (by rw [ep, List.map_map]; rfl)) ?_
          rw [show ((TL.tl z).map fun c => decide (c ∈ S.ls)).all id = (TL.tl z).all fun c => decide (c ∈ S.ls) by rw [List.all_map]; rfl]
          walk_at "g"
          exact q _ sp
      · walk_at "g"
        rw [decide_eq_false d2, Bool.false_and] at q
        exact q _ (Same.refl _)
    · walk_at "g"
      rw [decide_eq_false (show ¬ 1 ≤ z.length by omega), Bool.false_and] at q
      exact q _ (Same.refl _)
/-! ### all words -/
def lv (ls : List Nat) : Nat → List (List Nat)
  | 0 => [[]]
  | n + 1 => (lv ls n).flatMap fun u => ls.map fun c => u ++ [c]
def wordsF (ls : List Nat) (m : Nat) : List (List Nat) := (List.range m).flatMap fun i => lv ls (i + 1)
theorem lv_len (ls : List Nat) : ∀ n, (lv ls n).length = ls.length ^ n
  | 0 => rfl
  | n + 1 => by
    show ((lv ls n).flatMap _).length = _
    rw [List.length_flatMap, show ((lv ls n).map fun u => (ls.map fun c => u ++ [c]).length) = (lv ls n).map fun _ => ls.length by simp, List.map_const', List.sum_replicate_nat, lv_len ls n, Nat.pow_succ]
theorem lv_ok (ls : List Nat) : ∀ n, ∀ u ∈ lv ls n, u.length = n ∧ ∀ c ∈ u, c ∈ ls
  | 0, u, h => by
    cases List.mem_singleton.mp h
    exact ⟨rfl, fun c hc => nomatch hc⟩
  | n + 1, u, h => by
    obtain ⟨v, hv, h2⟩ := List.mem_flatMap.mp h
    obtain ⟨c, hc, rfl⟩ := List.mem_map.mp h2
    obtain ⟨l1, l2⟩ := lv_ok ls n v hv
    refine ⟨by rw [List.length_append, l1]; rfl, fun d hd => ?_⟩
    rcases List.mem_append.mp hd with hd | hd
    · exact l2 d hd
    · rw [List.mem_singleton.mp hd]
      exact hc
def tS (us : List (List Nat)) : List V := us.map fun u => V.str (tx u)
theorem tx_one (u : List Nat) (c : Nat) : tx u ++ (⟨#[c]⟩ : Str) = tx (u ++ [c]) := by
  show (⟨u.toArray ++ #[c]⟩ : Str) = ⟨(u ++ [c]).toArray⟩
  congr 1
  simp
theorem wcount_le {n m : Nat} (hm : m ≤ 3) (hn : 1 ≤ n) (h : wcount n m ≤ 14) : ∀ i, i < m → n ^ (i + 1) ≤ 14 := by
  intro i hi
  have e : ∀ k : Nat, ((n : Int) ^ k) = ((n ^ k : Nat) : Int) := fun k => by rw [Int.natCast_pow]
  have p1 : 0 ≤ ((n : Int) ^ 1) := by rw [e]; omega
  have p2 : 0 ≤ ((n : Int) ^ 2) := by rw [e]; omega
  have p3 : 0 ≤ ((n : Int) ^ 3) := by rw [e]; omega
  have e1 := e 1
  have e2 := e 2
  have e3 := e 3
  unfold wcount at h
  have : m = 1 ∨ m = 2 ∨ m = 3 := by omega
  rcases this with rfl | rfl | rfl
  · have : i = 0 := by omega
    subst this
    simp only [List.take, List.sum_cons, List.sum_nil] at h
    show n ^ 1 ≤ 14
    omega
  · have : i = 0 ∨ i = 1 := by omega
    simp only [List.take, List.sum_cons, List.sum_nil] at h
    rcases this with rfl | rfl
    · show n ^ 1 ≤ 14
      omega
    · show n ^ 2 ≤ 14
      omega
  · have : i = 0 ∨ i = 1 ∨ i = 2 := by omega
    simp only [List.take, List.sum_cons, List.sum_nil] at h
    rcases this with rfl | rfl | rfl
    · show n ^ 1 ≤ 14
      omega
    · show n ^ 2 ≤ 14
      omega
    · show n ^ 3 ≤ 14
      omega
theorem lv_small {S : HsD} (ok : HsOk S) {i : Nat} (hi : i ≤ S.mo.toNat) : (lv S.ls i).length ≤ 14 := by
  rw [lv_len]
  cases i with
  | zero => show 1 ≤ 14; decide
  | succ i => exact wcount_le (by have := ok.m3; omega) ok.l1 ok.mw i (by omega)
theorem words_small {S : HsD} (ok : HsOk S) : ∀ m, m ≤ S.mo.toNat → (wordsF S.ls m).length ≤ 14 * m
  | 0, _ => by show 0 ≤ 0; decide
  | m + 1, h => by
    unfold wordsF
    rw [List.range_succ, List.flatMap_append, List.length_append]
    have h1 := words_small ok m (by omega)
    unfold wordsF at h1
    have h2 := lv_small ok h
    simp only [List.flatMap_cons, List.flatMap_nil, List.append_nil]
    omega
theorem words_ok {ls : List Nat} {m : Nat} : ∀ u ∈ wordsF ls m, 1 ≤ u.length ∧ u.length ≤ m ∧ ∀ c ∈ u, c ∈ ls := by
  intro u hu
  obtain ⟨i, hi, h⟩ := List.mem_flatMap.mp hu
  have := List.mem_range.mp hi
  obtain ⟨l1, l2⟩ := lv_ok ls (i + 1) u h
  exact ⟨by omega, by omega, l2⟩
/-- the words of the next length, two fors at once -/
theorem longer (ls : List Nat) (us : List (List Nat)) (i : Nat) (u : List Nat) (hu : us[i]? = some u) : (us.take (i + 1)).flatMap (fun u => ls.map fun c => u ++ [c]) = (us.take i).flatMap (fun u => ls.map fun c => u ++ [c]) ++ ls.map fun c => u ++ [c] := by
  rw [take_more hu, List.flatMap_append]
  simp
theorem made_BadWord (F : FunD K "__init__" "BadWord.__init__" (defArgs s_BadWord_init) (defBody s_BadWord_init) (defScope s_BadWord_init) [] [] (He.ma K (He.ga K "BadWord") "__init__") fd) (gC : mg "BadWord" = some (.ref (He.ga K "BadWord"))) (O : Oex K (He.ga K "BadWord") (He.ma K (He.ga K "BadWord") "__init__"))
    (nw : PySem.W.findIn K (.ref (He.ga K "BadWord")) "word" = some none) (nf : PySem.W.findIn K (.ref (He.ga K "BadWord")) "at" = some none) : XCls P w K mg base "BadWord" 1 "BadWord" "at" := by
  refine ⟨gC, O, nw, nf, fd, ["self", "at"], F.ok sc_BadWord_init (fun vs H Q E h => ?_) (fun cdv A outer s H vs Q E hr h => ⟨_, PSs.nox (pss_cons (ps_ost (pv 0) pe_str) (pss_one (ps_ost (pv 0) (pv 1)))), x1_read O.T nw nf h rfl⟩), F.bindsN fun _ _ _ _ _ _ us hl => match us, hl with | [_, _], _ => rfl⟩
  obtain ⟨a, v, rfl, _⟩ := h
  rfl

/-! ### all tastes -/
/-! ### word by word -/
theorem mem_lv (ls : List Nat) : ∀ n (u : List Nat), u.length = n → (∀ c ∈ u, c ∈ ls) → u ∈ lv ls n
  | 0, u, h, _ => by
    rw [List.length_eq_zero_iff.mp h]
    exact List.mem_singleton.mpr rfl
  | n + 1, u, h, hc => by
    have ne : u ≠ [] := fun e => by rw [e] at h; cases h
    have e := List.dropLast_concat_getLast ne
    refine List.mem_flatMap.mpr ⟨u.dropLast, mem_lv ls n _ (by rw [List.length_dropLast]; omega) fun c hc' => hc c (List.dropLast_subset u hc'), List.mem_map.mpr ⟨u.getLast ne, hc _ (List.getLast_mem ne), e⟩⟩
theorem isW_mem {S : HsD} (m0 : 0 ≤ S.mo) (z : Str) : isW S z = decide (TL.tl z ∈ wordsF S.ls S.mo.toNat) := by
  have lz : z.length = (TL.tl z).length := TL.len_tl z
  unfold isW
  rw [Bool.eq_iff_iff]
  simp only [Bool.and_eq_true, decide_eq_true_eq, List.all_eq_true]
  constructor
  · rintro ⟨a, b, c⟩
    exact List.mem_flatMap.mpr ⟨z.length - 1, List.mem_range.mpr (by omega), mem_lv _ _ _ (by omega) c⟩
  · intro h
    obtain ⟨a, b, c⟩ := words_ok _ h
    exact ⟨by omega, by omega, c⟩
theorem inV_tS (z : Str) : ∀ us : List (List Nat), inV (V.str z) (tS us) = decide (TL.tl z ∈ us)
  | [] => by simp [tS, inV]
  | u :: us => by
    have ih := inV_tS z us
    show ((tx u == z) || inV (V.str z) (tS us)) = _
    rw [ih, Bool.eq_iff_iff, Bool.or_eq_true, beq_iff_eq, decide_eq_true_eq, decide_eq_true_eq, List.mem_cons]
    constructor
    · rintro (e | e)
      · exact .inl (by rw [← e]; rfl)
      · exact .inr e
    · rintro (e | e)
      · exact .inl (by rw [← e]; exact tx_tl z)
      · exact .inr e
theorem len_le_of_nodup {α : Type} [DecidableEq α] : ∀ {l m : List α}, l.Nodup → (∀ x ∈ l, x ∈ m) → l.length ≤ m.length
  | [], m, _, _ => Nat.zero_le _
  | x :: l, m, nd, hs => by
    obtain ⟨n1, n2⟩ := List.nodup_cons.mp nd
    have pm : m.Perm (x :: m.erase x) := List.perm_cons_erase (hs x (List.mem_cons_self ..))
    have h := len_le_of_nodup (l := l) (m := m.erase x) n2 fun y hy => (List.mem_erase_of_ne (fun e => n1 (by rw [← e]; exact hy))).mpr (hs y (List.mem_cons_of_mem _ hy))
    rw [pm.length_eq, List.length_cons, List.length_cons]
    omega
theorem flat_tS : ∀ us : List (List Nat), (tS us).all flatV = true
  | [] => rfl
  | u :: us => flat_tS us
theorem dp_tS {K : PySem.W.Frag} {H : Hp} : ∀ us : List (List Nat), DpAll K H (tS us) (us.map fun u => PyData.str (tx u))
  | [] => .nil
  | u :: us => .cons (.str _) (dp_tS us)
/-! ### rows -/
def firstBad (S : HsD) (us : List (List Nat)) : Option Nat := us.findIdx? fun u => !isW S (tx u)
def badAt (S : HsD) (us : List (List Nat)) : Option Nat := match firstBad S (us.take 12) with
  | some i => some i
  | none => if 12 < us.length then some 12 else none
theorem firstBad_none {S : HsD} {us : List (List Nat)} (h : ∀ u ∈ us, isW S (tx u) = true) : firstBad S us = none := by
  unfold firstBad
  rw [List.findIdx?_eq_none_iff]
  intro u hu
  rw [h u hu]
  rfl
theorem badAt_good {S : HsD} {us : List (List Nat)} (h : ∀ u ∈ us, isW S (tx u) = true) (hl : us.length ≤ 12) : badAt S us = none := by
  unfold badAt
  rw [firstBad_none fun u hu => h u (List.mem_of_mem_take hu)]
  exact if_neg (by omega)
theorem isW_word {S : HsD} (ok : HsOk S) {u : List Nat} (h : u ∈ wordsF S.ls S.mo.toNat) : isW S (tx u) = true := by
  rw [isW_mem (by have := ok.m1; omega), tl_tx]
  exact decide_eq_true h
theorem word_isW {S : HsD} (ok : HsOk S) {u : List Nat} (h : isW S (tx u) = true) : u ∈ wordsF S.ls S.mo.toNat := by
  rw [isW_mem (by have := ok.m1; omega), tl_tx] at h
  exact of_decide_eq_true h
/-- words of the house -/
def AllW (S : HsD) (us : List (List Nat)) : Prop := ∀ u ∈ us, u ∈ wordsF S.ls S.mo.toNat
theorem AllW.bad {S : HsD} (ok : HsOk S) {us : List (List Nat)} (h : AllW S us) (hl : us.length ≤ 12) : badAt S us = none := badAt_good (fun u hu => isW_word ok (h u hu)) hl
theorem AllW.len {S : HsD} (ok : HsOk S) {us : List (List Nat)} (h : AllW S us) : ∀ u ∈ us, 1 ≤ u.length ∧ u.length ≤ 3 ∧ ∀ c ∈ u, c ∈ S.ls := fun u hu => by
  obtain ⟨a, b, c⟩ := words_ok u (h u hu)
  have := ok.m3
  exact ⟨a, by omega, c⟩
theorem getS {us : List (List Nat)} {i : Nat} {u : List Nat} (h : us[i]? = some u) : (tS us)[i]? = some (.str (tx u)) := by
  unfold tS
  rw [List.getElem?_map, h]
  rfl
theorem len_tS (us : List (List Nat)) : (tS us).length = us.length := List.length_map _
theorem tS_app (us vs : List (List Nat)) : tS (us ++ vs) = tS us ++ tS vs := List.map_append
theorem tS_take (us : List (List Nat)) (n : Nat) : (tS us).take n = tS (us.take n) := by
  unfold tS
  rw [List.map_take]
theorem tS_drop (us : List (List Nat)) (n : Nat) : (tS us).drop n = tS (us.drop n) := by
  unfold tS
  rw [List.map_drop]
def spNeedRow (K : PySem.W.Frag) : Sp := fun vs H Q E => ∃ (a r : Addr) (S : HsD) (us : List (List Nat)) (t : Bool), vs = [.ref a, .ref r] ∧ HsAt K H a S ∧ SqB K t H r (tS us) ∧ us.length ≤ 10000 ∧ (∀ u ∈ us, u.length ≤ 1000) ∧
  (badAt S us = none → ∀ H', Same H H' → Q .non H') ∧ (∀ i, badAt S us = some i → ∀ d H', H d = none → Same H H' → H' d = some (.xd (xfs "BadWord" "at" (.int (i : Nat)))) → E (.ref (He.ga K "BadWord")) (some d) H')
theorem ok_need_row (F : FnP K "need_row" s_need_row f fd) (hm : mg "need_row" = some (.ref f)) (f_len : mg "len" = none) (f_enumerate : mg "enumerate" = none) (c_MOST_ROW : ∃ t, mg "MOST_ROW" = some (.int 12 t)) (c_is_word : Callee P w K mg base CX0 "is_word" 2 [] (spIsWord K)) (c_BadWord : XCls P w K mg base "BadWord" 1 "BadWord" "at") : Callee P w K mg base (L2.CX P w) "need_row" 3 [] (spNeedRow K) := by
  refine ⟨f, fd, _, [], F.ok sc_need_row (fun vs H Q E h => ?hl) (fun cdv A outer s H vs Q E hr h => ⟨_, (pss_cons (ps_for (passes_of rfl) rfl (pi_enumB (K := K) (by rfl) f_enumerate (pa_cons (pe_slice (sl_k K) (pv 1) po_none (po_some (pe_gi c_MOST_ROW))) pa_nil)) (pg_tupK K 2 (by rfl) (pgs_cons (pg_name (i := 2) sc_need_row.nd rfl (by first | exact Or.inl rfl | exact Or.inr rfl)) (pgs_cons (pg_name (i := 3) sc_need_row.nd rfl (by first | exact Or.inl rfl | exact Or.inr rfl)) pgs_nil))) (pss_one (ps_if (pt_not (pt_val (pe_cl c_is_word hr (pa_cons (pv 0) (pa_cons (pv 3) pa_nil)) pass0))) (pss_one (ps_raise rfl (takes_of rfl rfl rfl rfl) (pmk_x1 c_BadWord hr (pa_cons (pv 2) pa_nil)))) pss_nil)))
      (pss_one (ps_if (pt_cmpR op_gt (pe_callB (call_lenK K) (by rfl) f_len PySem.boot_len (pa_cons (pv 1) pa_nil)) (pe_gi c_MOST_ROW) (nomark _)) (pss_one (ps_raise rfl (takes_of rfl rfl rfl rfl) (pmk_x1 c_BadWord hr (pa_cons (pe_gi c_MOST_ROW) pa_nil)))) pss_nil))), ?rd⟩), hm, F.kp, F.bindsN fun _ _ _ _ _ _ us hl => match us, hl with | [_, _], _ => rfl, .nil⟩
  case hl =>
    obtain ⟨a, r, S, us, t, rfl, _⟩ := h
    rfl
  case rd =>
    obtain ⟨a, r, S, us, t, rfl, hs, hx, lu, lw, q1, q2⟩ := h
    refine k_start (σ' := [some _, some _, none, none]) rfl ?_
    walk_at "g"
    refine k_sl_b hx (fun p1 H1 s1 e1 => ?_)
    rw [cutV_toI _ _ (by decide), tS_take] at e1
    have l12 : (us.take 12).length ≤ 12 := by
      rw [List.length_take]
      omega
    walk_at "g"
    refine k_nIteB e1 ?_
    refine k_nFor (walk_enumB (xs := tS (us.take 12))) (fun i σ H' => (∃ y2 y3, σ = [some (.ref a), some (.ref r), y2, y3]) ∧ Same H1 H' ∧ ∀ j, j < i → ∀ u, (us.take 12)[j]? = some u → isW S (tx u) = true) ⟨⟨_, _, rfl⟩, Same.refl _, fun j hj => absurd hj (Nat.not_lt_zero j)⟩ (fun i σ H' _ h => sm_b h.2.1 e1) (fun i x σ Ha Hb hi h hy => ?ht) (fun σ H' h => ?he)
    case he =>
      obtain ⟨⟨y2, y3, rfl⟩, sa, al⟩ := h
      have fb : firstBad S (us.take 12) = none := fidx_none fun k v hv => by
        rw [al k (by rw [len_tS]; exact (List.getElem?_eq_some_iff.mp hv).1) v hv]
        rfl
      have lx : (tS us).length = us.length := len_tS us
      walk_at "g"
      refine k_len_b (sm_b (s1.trans sa) hx) ?_
      walk_at "g"
      rw [lx]
      refine k_dec (fun d => ?_) (fun d => ?_)
      · walk_at "g"
        refine k_x1 fun d' H' nd sd ed => q2 12 ?_ d' H' ((s1.trans sa).free nd) ((s1.trans sa).trans sd) ed
        unfold badAt
        rw [fb]
        exact if_pos (by omega)
      · walk_at "g"
        refine q1 ?_ _ (s1.trans sa)
        unfold badAt
        rw [fb]
        exact if_neg (by omega)
    case ht =>
      obtain ⟨⟨y2, y3, rfl⟩, sa, al⟩ := h
      obtain ⟨T, xi, yi, rfl, nT, rfl, ex, ey⟩ := hy
      have sT : Same Ha (upd Ha T (.tup [xi, yi])) := sm_new nT
      have eT : (upd Ha T (.tup [xi, yi])) T = some (.tup [xi, yi]) := upd_same
      generalize upd Ha T (.tup [xi, yi]) = Hb at sT eT
      cases ex
      obtain ⟨u, hu, rfl⟩ := map_get ey
      have hm : u ∈ us := List.mem_of_mem_take (List.mem_of_getElem? hu)
      have sx := s1.trans (sa.trans sT)
      walk_at "g"
      refine ⟨a, S, tx u, rfl, hs.sm sx, by rw [len_tx]; exact lw u hm, fun H2 s2 => ?_⟩
      have hlt : i < (us.take 12).length := (List.getElem?_eq_some_iff.mp hu).1
      walk_at "g"
      cases hw : isW S (tx u) with
      | false =>
        walk_at "g"
        refine k_x1 fun d' H' nd sd ed => q2 i ?_ d' H' ((sx.trans s2).free nd) ((sx.trans s2).trans sd) ed
        have fb : firstBad S (us.take 12) = some i := fidx_some hu (by rw [hw]; rfl) fun k hk v hv => by
          rw [al k hk v hv]
          rfl
        unfold badAt
        rw [fb]
      | true =>
        walk_at "g"
        refine ⟨⟨_, _, rfl⟩, sa.trans (sT.trans s2), fun j hj v hv => ?_⟩
        rcases Nat.lt_succ_iff_lt_or_eq.mp hj with hj | rfl
        · exact al j hj v hv
        · rw [hu] at hv
          cases hv
          exact hw
end
end Lw
set_option autoImplicit true
set_option pp.maxSteps 1200
set_option Elab.async false
set_option linter.all false
set_option maxRecDepth 100000
set_option maxHeartbeats 1000000
namespace Lw
open PySem PySem.Spec PyProof.Rows L2 Gk
open PySem.W (EachIs AllAlike Sortable dataLe dataLt alike keyToks)

local macro_rules | `(tactic| walk_at "hp") => `(tactic| first | assumption | exact upd_same | (refine' (upd_ne ?n).trans ?h; (case n => assumption); (case h => walk_at "hp")) | (refine' sm_get ?s ?h; (case s => assumption); (case h => walk_at "hp")))
local macro_rules | `(tactic| walk_at "sq") => `(tactic| first | assumption | (refine' sq_l ?h; (case h => walk_at "hp")) | (refine' sm_l ?s ?h; (case s => assumption); (case h => walk_at "sq")))
local macro_rules | `(tactic| walk_at "st") => `(tactic| first | assumption | (refine' sq_t ?h; (case h => walk_at "hp")) | (refine' sm_t ?s ?h; (case s => assumption); (case h => walk_at "st")))
local macro_rules | `(tactic| walk_at "bg") => `(tactic| first | assumption | (refine' BagOk.sm ?s ?h; (case s => assumption); (case h => walk_at "bg")))
local macro_rules | `(tactic| walk_at "sm") => `(tactic| first | assumption | exact Same.refl _ | (refine' Same.trans ?h ?s; (case s => assumption); (case h => walk_at "sm")))
local macro_rules | `(tactic| walk_at "hs") => `(tactic| first | assumption | (refine' HsAt.sm ?s ?h; (case s => assumption); (case h => walk_at "hs")))
local macro_rules | `(tactic| walk_at "ms") => `(tactic| first | assumption | (refine' MAt.sm ?s ?h; (case s => assumption); (case h => walk_at "ms")))
local macro_rules | `(tactic| walk_at "dp") => `(tactic| first | assumption | (refine' dp_sm ?s ?h; (case s => assumption); (case h => walk_at "dp")))
local macro_rules | `(tactic| walk_at "sz") => `(tactic| first | decide | assumption | omega | (simp only [List.length_cons, List.length_nil, List.length_map, List.length_append]; omega))
local macro_rules | `(tactic| walk_at "g1") => `(tactic| first
  | with_reducible refine k_seq ?_
  | with_reducible refine k_itB ?_
  | with_reducible refine k_next ?_
  | with_reducible refine k_asg ?_
  | with_reducible refine k_name ?_
  | with_reducible refine k_ret ?_
  | with_reducible refine k_retN ?_
  | with_reducible refine k_drop ?_
  | with_reducible refine k_ifs ?_
  | with_reducible refine k_brk ?_
  | with_reducible refine k_cont ?_
  | with_reducible refine k_ipI ?_
  | with_reducible refine k_test ?_
  | with_reducible refine k_tB ?_
  | with_reducible refine k_bl ?_
  | with_reducible refine k_not ?_
  | with_reducible refine k_and ?_
  | with_reducible refine k_or ?_
  | with_reducible refine k_yes ?_
  | with_reducible refine k_true ?_
  | with_reducible refine k_false ?_
  | with_reducible refine k_nt ?_
  | with_reducible refine k_c ?_
  | with_reducible refine k_op ?_
  | with_reducible refine k_un ?_
  | with_reducible refine k_if ?_
  | with_reducible refine k_chain ?_
  | with_reducible refine k_nil ?_
  | with_reducible refine k_cons ?_
  | with_reducible refine k_cb ?_
  | with_reducible refine k_call ?_
  | with_reducible refine k_callS ?_
  | with_reducible refine k_andV ?_
  | with_reducible refine k_orV ?_
  | with_reducible refine k_notV ?_
  | with_reducible refine k_lst ?_
  | with_reducible refine k_tup ?_
  | with_reducible refine k_nopart ?_
  | with_reducible refine k_part ?_
  | with_reducible refine k_nInt ?_
  | with_reducible refine k_sl ?_
  | with_reducible refine k_bm ?_
  | with_reducible refine k_bm0 ?_
  | with_reducible refine k_nTyS ?_
  | with_reducible refine k_m1 ?_
  | with_reducible refine k_m0 ?_
  | with_reducible refine k_nStr ?_
  | with_reducible refine k_I0 ?_
  | with_reducible refine k_U ?_
  | with_reducible refine k_add_i ?_
  | with_reducible refine k_eq_i ?_
  | with_reducible refine k_eq_s ?_
  | with_reducible refine k_eq_b ?_
  | with_reducible refine k_ne_i ?_
  | with_reducible refine k_ne_s ?_
  | with_reducible refine k_ne_b ?_
  | with_reducible refine k_le_i ?_
  | with_reducible refine k_le_s ?_
  | with_reducible refine k_gnil ?_
  | with_reducible refine k_gcons ?_
  | with_reducible refine k_gsub ?_
  | with_reducible refine k_for ?_
  | with_reducible refine k_lc ?_
  | with_reducible refine k_rng1 ?_
  | with_reducible refine k_rng2 ?_
  | with_reducible refine k_itl ?_
  | with_reducible refine k_itt ?_
  | with_reducible refine k_its ?_
  | with_reducible refine k_ite ?_
  | with_reducible refine k_iteB ?_
  | with_reducible refine k_lrg2 ?_
  | with_reducible refine k_itz ?_
  | with_reducible refine k_nIts ?_
  | with_reducible refine k_inS ?_
  | with_reducible refine k_niS ?_
  | with_reducible refine k_mk ?_
  | with_reducible refine k_meth ?_
  | with_reducible refine k_fld ?_
  | with_reducible refine k_sfld ?_
  | with_reducible refine k_dg ?_
  | with_reducible refine k_dp ?_
  | with_reducible refine k_pr ?_
  | with_reducible refine k_pr0 ?_
  | with_reducible refine k_sg ?_
  | with_reducible refine k_lc2 ?_
  | with_reducible refine k_callN ?_
  | with_reducible refine k_callNS ?_
  | with_reducible refine k_par ?_
  | with_reducible refine k_nPar ?_
  | with_reducible refine k_isNn ?_
  | with_reducible refine k_isNr ?_
  | with_reducible refine k_ntNn ?_
  | with_reducible refine k_ntNr ?_
  | with_reducible refine k_min2 ?_
  | with_reducible refine k_max2 ?_
  | with_reducible refine k_intB ?_
  | with_reducible refine k_intI ?_
  | with_reducible refine k_isBl ?_
  | with_reducible refine k_ntBl ?_
  | ((with_reducible refine' k_var ?kv ?_); (case kv => exact rfl))
  | ((with_reducible refine' k_aug ?kv ?_); (case kv => exact rfl))
  | ((with_reducible refine' k_ix_l ?ks ?ki ?_); (case ks => walk_at "sq"); (case ki => exact rfl))
  | ((with_reducible refine' k_ix_t ?ks ?ki ?_); (case ks => walk_at "st"); (case ki => exact rfl))
  | ((with_reducible refine' k_len_l ?ks ?_); (case ks => walk_at "sq"))
  | ((with_reducible refine' k_len_t ?ks ?_); (case ks => walk_at "st"))
  | ((with_reducible refine' k_setL ?ks ?ki ?_); (case ks => walk_at "hp"); (case ki => exact rfl))
  | ((with_reducible refine' k_nTyL ?ks ?_); (case ks => walk_at "sq"))
  | ((with_reducible refine' k_nItl ?ks ?_); (case ks => walk_at "sq"))
  | ((with_reducible refine' k_nItt ?ks ?_); (case ks => walk_at "st"))
  | ((with_reducible refine' k_nIte ?ks ?_); (case ks => walk_at "sq"))
  | ((with_reducible refine' k_mul ?km ?_); (case km => first | exact Or.inr ⟨by decide, by decide⟩ | exact Or.inl ⟨by decide, by decide⟩))
  | ((with_reducible refine' k_I ?km ?_); (case km => first | assumption | decide | exact ⟨by decide, by decide +kernel⟩ | exact ⟨by decide, by decide, by decide⟩))
  | ((with_reducible refine' k_nMeth ?kp ?kl ?_); (case kp => walk_at "hp"); (case kl => exact rfl))
  | ((with_reducible refine' k_nFld ?kp ?kc ?kn ?kl ?_); (case kp => walk_at "hp"); (case kc => assumption); (case kn => assumption); (case kl => exact rfl))
  | ((with_reducible refine' k_nSFld ?kp ?kc ?kn ?kl ?_); (case kp => walk_at "hp"); (case kc => assumption); (case kn => assumption); (case kl => exact of_decide_eq_true rfl))
  | ((with_reducible refine' k_nDg ?kp ?kl ?_); (case kp => walk_at "hp"); (case kl => exact rfl))
  | ((with_reducible refine' k_nRng1 ?k1 ?k2 ?_); (case k1 => omega); (case k2 => omega))
  | ((with_reducible refine' k_nKw ?k1 ?k2 ?_); (case k1 => exact rfl); (case k2 => exact rfl))
  | ((with_reducible refine' k_hsm ?kh ?_); (case kh => walk_at "hs"))
  | ((with_reducible refine' k_nMethH ?kh ?kl ?_); (case kh => walk_at "hs"); (case kl => exact fun _ _ => rfl))
  | ((with_reducible refine' k_mLet ?kh ?_); (case kh => walk_at "ms"))
  | ((with_reducible refine' k_mChew ?kh ?_); (case kh => walk_at "ms"))
  | ((with_reducible refine' k_mPut ?kh ?_); (case kh => walk_at "ms"))
  | ((with_reducible refine' k_mMost ?kh ?_); (case kh => walk_at "ms"))
  | ((with_reducible refine' k_mCut ?kh ?_); (case kh => walk_at "ms"))
  | ((with_reducible refine' k_gtup ?ks ?kl ?_); (case ks => walk_at "st"); (case kl => exact rfl)))
local macro_rules | `(tactic| walk_at "g") => `(tactic| repeat (walk_at "g1"))
local macro_rules | `(tactic| walk_at "w1") => `(tactic| first
  | walk_at "g1"
  | ((with_reducible refine' k_decT ?kp ?_); (case kp => omega))
  | ((with_reducible refine' k_decF ?kp ?_); (case kp => omega))
  | ((with_reducible refine' k_decNT ?kp ?_); (case kp => omega))
  | ((with_reducible refine' k_decNF ?kp ?_); (case kp => omega)))
local macro_rules | `(tactic| walk_at "w") => `(tactic| repeat (walk_at "w1"))


section
variable {P : Program} {w : World} {K : PySem.W.Frag} {mg : Str → Option Value} {base : Heap} {f : Addr} {fd : FuncData}
/-! ### a long word cut -/
def cutW (S : HsD) (u : List Nat) : List (List Nat) :=
  if h : S.mo < u.length ∧ 1 ≤ S.cu ∧ 0 < u.length then u.take S.cu.toNat :: cutW S (u.drop S.cu.toNat) else [u]
termination_by u.length
decreasing_by
  rw [List.length_drop]
  omega
theorem cutW_more {S : HsD} (ok : HsOk S) {u : List Nat} (h : S.mo < u.length) : cutW S u = u.take S.cu.toNat :: cutW S (u.drop S.cu.toNat) := by
  have := ok.k1
  have := ok.m1
  rw [cutW, dif_pos ⟨h, by omega, by omega⟩]
theorem cutW_last {S : HsD} {u : List Nat} (h : ¬ S.mo < u.length) : cutW S u = [u] := by
  rw [cutW, dif_neg fun z => h z.1]
theorem cutW_words {S : HsD} (ok : HsOk S) : ∀ (n : Nat) (u : List Nat), u.length ≤ n → 1 ≤ u.length → (∀ c ∈ u, c ∈ S.ls) → (∀ v ∈ cutW S u, v ∈ wordsF S.ls S.mo.toNat) ∧ (cutW S u).length ≤ u.length
  | n, u, hn, h1, hc => by
    have k1 := ok.k1
    have km := ok.km
    have m1 := ok.m1
    have mem : ∀ v : List Nat, 1 ≤ v.length → (v.length : Int) ≤ S.mo → (∀ c ∈ v, c ∈ S.ls) → v ∈ wordsF S.ls S.mo.toNat := fun v a b c => List.mem_flatMap.mpr ⟨v.length - 1, List.mem_range.mpr (by omega), mem_lv _ _ _ (by omega) c⟩
    by_cases h : S.mo < u.length
    · cases n with
      | zero => omega
      | succ n =>
        have ld : (u.drop S.cu.toNat).length = u.length - S.cu.toNat := List.length_drop
        obtain ⟨a, b⟩ := cutW_words ok n (u.drop S.cu.toNat) (by omega) (by omega) fun c h => hc c (List.mem_of_mem_drop h)
        rw [cutW_more ok h]
        refine ⟨fun v hv => ?_, by rw [List.length_cons]; omega⟩
        rcases List.mem_cons.mp hv with rfl | hv
        · exact mem _ (by rw [List.length_take]; omega) (by rw [List.length_take]; omega) fun c h => hc c (List.mem_of_mem_take h)
        · exact a v hv
    · rw [cutW_last h]
      refine ⟨fun v hv => ?_, by show 1 ≤ _; exact h1⟩
      rw [List.mem_singleton.mp hv]
      exact mem u h1 (by omega) hc
def spCut (K : PySem.W.Frag) : Sp := fun vs H Q _ => ∃ (a : Addr) (S : HsD) (u : List Nat), vs = [.ref a, .str (tx u)] ∧ HsAt K H a S ∧ HsOk S ∧ u.length ≤ 1000 ∧ ∀ p H', H p = none → Same H H' → H' p = some (.lst (tS (cutW S u))) → Q (.ref p) H'
theorem ok_cut_long (F : FnP K "cut_long" s_cut_long f fd) (hm : mg "cut_long" = some (.ref f)) (f_len : mg "len" = none) (c_House_most : CalleeM P w K mg base CX0 "House" "most" 1 (spHsM K fun S => .int S.mo)) (c_House_cut : CalleeM P w K mg base CX0 "House" "cut" 1 (spHsM K fun S => .int S.cu)) : Callee P w K mg base CX0 "cut_long" 2 [] (spCut K) := by
  refine ⟨f, fd, _, [], F.ok sc_cut_long (fun vs H Q E h => ?hl) (fun cdv A outer s H vs Q E hr h => ⟨_, PSs.nox (pss_cons (ps_set (i := 2) sc_cut_long.nd rfl (by first | exact Or.inl rfl | exact Or.inr rfl) (pe_lst pa_nil))
      (pss_cons (ps_set (i := 3) sc_cut_long.nd rfl (by first | exact Or.inl rfl | exact Or.inr rfl) (pv 1))
      (pss_cons (ps_while PassesOwn.never (pt_cmpR op_gt (pe_callB (call_lenK K) (by rfl) f_len PySem.boot_len (pa_cons (pv 3) pa_nil)) (pe_mt0 c_House_most hr (pv 0) pass0) (nomark _)) (pss_cons (ps_expr (pe_bmK K PySem.F.plainAttrs_list PySem.F.slot_list_append PySem.F.type_list_append mt_append (pv 2) (pa_cons (pe_slice (sl_k K) (pv 3) po_none (po_some (pe_mt0 c_House_cut hr (pv 0) pass0))) pa_nil)))
      (pss_one (ps_set (i := 3) sc_cut_long.nd rfl (by first | exact Or.inl rfl | exact Or.inr rfl) (pe_slice (sl_k K) (pv 3) (po_some (pe_mt0 c_House_cut hr (pv 0) pass0)) po_none)))))
      (pss_one (ps_ret (pe_op (op_addK K) (pv 2) (pe_lst (pa_cons (pv 3) pa_nil)))))))), ?rd⟩), hm, F.kp, F.bindsN fun _ _ _ _ _ _ us hl => match us, hl with | [_, _], _ => rfl, .nil⟩
  case hl =>
    obtain ⟨a, S, u, rfl, _⟩ := h
    rfl
  case rd =>
    obtain ⟨a, S, u, rfl, hs, ok, lu, q⟩ := h
    refine k_start (σ' := [some _, some _, none, none]) rfl ?_
    have m1 := ok.m1
    have k1 := ok.k1
    have km := ok.km
    walk_at "g"
    refine k_nLst (by walk_at "sz") (fun p1 H1 n1 s1 e1 => ?_)
    walk_at "g"
    refine k_while (fun m σ H' => ∃ (v : List Nat) (acc : List (List Nat)), σ = [some (.ref a), some (.str (tx u)), some (.ref p1), some (.str (tx v))] ∧ Same H H' ∧ H' p1 = some (.lst (tS acc)) ∧ acc ++ cutW S v = cutW S u ∧ m = v.length ∧ acc.length + v.length ≤ u.length) ⟨_, u, [], rfl, s1, e1, rfl, rfl, by simp⟩ (fun m σ H' h => ?hw)
    obtain ⟨v, acc, rfl, sa, ea, hcut, rfl, hl⟩ := h
    have lv := len_tx v
    walk_at "g"
    refine k_len_s (by omega) ?_
    walk_at "g"
    rw [lv]
    refine k_turnD (fun d => k_turnT ?_) (fun d => k_turnF ?_)
    · walk_at "g"
      refine k_sl_s (by omega) ?_
      rw [cutS_to _ _ (by omega)]
      walk_at "g"
      refine k_append ea (by rw [len_tS]; omega) ?_
      have sb : Same H (upd H' p1 (.lst (tS acc ++ [V.str (tx (v.take S.cu.toNat))]))) := sm_mut sa n1
      have eb : (upd H' p1 (.lst (tS acc ++ [V.str (tx (v.take S.cu.toNat))]))) p1 = some (.lst (tS acc ++ [V.str (tx (v.take S.cu.toNat))])) := upd_same
      generalize upd H' p1 (.lst (tS acc ++ [V.str (tx (v.take S.cu.toNat))])) = Hb at sb eb ⊢
      walk_at "g"
      refine k_sl_s (by omega) ?_
      rw [cutS_from _ _ (by omega)]
      walk_at "g"
      have ld : (v.drop S.cu.toNat).length = v.length - S.cu.toNat := List.length_drop
      refine ⟨_, ?_, v.drop S.cu.toNat, acc ++ [v.take S.cu.toNat], rfl, sb, by rw [eb, tS_app]; rfl, by rw [← hcut, cutW_more (u := v) ok (by omega), List.append_assoc]; rfl, rfl, by rw [List.length_append, ld]; show acc.length + 1 + _ ≤ _; omega⟩
      omega
    · walk_at "g"
      refine k_nLst (by walk_at "sz") (fun p2 H2 n2 s2 e2 => ?_)
      refine k_add_l (s2 _ _ ea) e2 (by rw [len_tS]; show _ + 1 ≤ _; omega) (fun p3 H3 n3 s3 e3 => ?_)
      refine q p3 H3 ((sa.trans s2).free n3) ((sa.trans s2).trans s3) ?_
      rw [e3, ← hcut, cutW_last (by omega), tS_app]
      rfl
/-! ### what comes of a bite -/
def growF (S : HsD) (right : Bool) (er en : List Nat) : List Nat := if right = true then (S.pt ++ er) ++ en.drop S.ch.toNat else (en.take (en.length - S.ch.toNat) ++ er) ++ S.pt
theorem growF_len (S : HsD) (right : Bool) (er en : List Nat) : (growF S right er en).length = S.pt.length + er.length + (en.length - S.ch.toNat) := by
  unfold growF
  split
  · rw [List.length_append, List.length_append, List.length_drop]
  · rw [List.length_append, List.length_append, List.length_take]
    omega
theorem growF_in {S : HsD} (ok : HsOk S) {right : Bool} {er en : List Nat} (h1 : ∀ c ∈ er, c ∈ S.ls) (h2 : ∀ c ∈ en, c ∈ S.ls) : ∀ c ∈ growF S right er en, c ∈ S.ls := fun c hc => by
  unfold growF at hc
  split at hc
  · rcases List.mem_append.mp hc with hc | hc
    · exact (List.mem_append.mp hc).elim (ok.pl c) (h1 c)
    · exact h2 c (List.mem_of_mem_drop hc)
  · rcases List.mem_append.mp hc with hc | hc
    · exact (List.mem_append.mp hc).elim (fun h => h2 c (List.mem_of_mem_take h)) (h1 c)
    · exact ok.pl c hc
def sdS (right : Bool) : Str := if right = true then Str.ofString "right" else Str.ofString "left"
theorem sdS_right (b : Bool) : decide (sdS b = Str.ofString "right") = b := by cases b <;> decide +kernel
theorem sdS_left (b : Bool) : decide (sdS b = Str.ofString "left") = !b := by cases b <;> decide +kernel
def spGrown (K : PySem.W.Frag) : Sp := fun vs H Q _ => ∃ (a : Addr) (S : HsD) (er en : List Nat) (b : Bool), vs = [.ref a, .str (tx er), .str (tx en), .str (sdS b)] ∧ HsAt K H a S ∧ HsOk S ∧ er.length ≤ 1000 ∧ en.length ≤ 1000 ∧ Q (.str (tx (growF S b er en))) H
theorem ok_grown (F : FnP K "grown" s_grown f fd) (hm : mg "grown" = some (.ref f)) (f_len : mg "len" = none) (f_max : mg "max" = none) (c_House_put : CalleeM P w K mg base CX0 "House" "put" 1 (spHsM K fun S => .str (tx S.pt))) (c_House_chew : CalleeM P w K mg base CX0 "House" "chew" 1 (spHsM K fun S => .int S.ch)) : Callee P w K mg base CX0 "grown" 2 [] (spGrown K) := by
  refine ⟨f, fd, _, [], F.ok sc_grown (fun vs H Q E h => ?hl) (fun cdv A outer s H vs Q E hr h => ⟨_, PSs.nox (pss_cons (ps_if (pt_cmpR (op_eqK K hr.units) (pv 3) pe_str (nomark _)) (pss_one (ps_ret (pe_op (op_addK K) (pe_op (op_addK K) (pe_mt0 c_House_put hr (pv 0) pass0) (pv 1)) (pe_slice (sl_k K) (pv 2) (po_some (pe_mt0 c_House_chew hr (pv 0) pass0)) po_none)))) pss_nil)
      (pss_one (ps_ret (pe_op (op_addK K) (pe_op (op_addK K) (pe_slice (sl_k K) (pv 2) po_none (po_some (pe_callB call_maxK (by rfl) f_max (by decide +kernel) (pa_cons pe_int (pa_cons (pe_op op_sub (pe_callB (call_lenK K) (by rfl) f_len PySem.boot_len (pa_cons (pv 2) pa_nil)) (pe_mt0 c_House_chew hr (pv 0) pass0)) pa_nil))))) (pv 1)) (pe_mt0 c_House_put hr (pv 0) pass0))))), ?rd⟩), hm, F.kp, F.bindsN fun _ _ _ _ _ _ us hl => match us, hl with | [_, _, _, _], _ => rfl, .nil⟩
  case hl =>
    obtain ⟨a, S, er, en, b, rfl, _⟩ := h
    rfl
  case rd =>
    obtain ⟨a, S, er, en, b, rfl, hs, ok, l1, l2, q⟩ := h
    refine k_start (σ' := [some _, some _, some _, some _]) rfl ?_
    have c0 := ok.c0
    have p2 := ok.p2
    have lp := len_tx S.pt
    have lr := len_tx er
    have ln := len_tx en
    walk_at "g"
    rw [sdS_right]
    unfold growF at q
    cases b with
    | true =>
      rw [if_pos rfl] at q
      walk_at "g"
      refine k_add_s (by omega) ?_
      rw [tx_app]
      walk_at "g"
      refine k_sl_s (by omega) ?_
      rw [cutS_from _ _ c0]
      refine k_add_s (by rw [len_tx, len_tx, List.length_append, List.length_drop]; omega) ?_
      rw [tx_app]
      exact q
    | false =>
      rw [if_neg (by decide)] at q
      walk_at "g"
      refine k_len_s (by omega) ?_
      rw [ln]
      walk_at "g"
      refine k_sl_s (by omega) ?_
      rw [cutS_to _ _ (by omega), show (max (0 : Int) ((en.length : Int) - S.ch)).toNat = en.length - S.ch.toNat by omega]
      walk_at "g"
      refine k_add_s (by rw [len_tx, len_tx, List.length_take]; omega) ?_
      rw [tx_app]
      walk_at "g"
      refine k_add_s (by rw [len_tx, len_tx, List.length_append, List.length_take]; omega) ?_
      rw [tx_app]
      exact q
/-! ### the row behind a bite -/
def eatsF (S : HsD) (b : Bool) (er en : List Nat) : Bool := S.tr.any fun k => decide (k = kEat b (tasteF S er) (tasteF S en))
/-- what stands in the place of two words -/
def madeF (S : HsD) (b : Bool) (x y : List Nat) : List (List Nat) := cutW S (growF S b (if b = true then x else y) (if b = true then y else x))
/-- the bite of the two words from low on; b: the left one eats the right one -/
def biteF (S : HsD) (us : List (List Nat)) (low : Nat) (b : Bool) : Option (List (List Nat)) := match us[low]?, us[low + 1]? with
  | some x, some y => if eatsF S b (if b = true then x else y) (if b = true then y else x) = true then
      (if us.take low ++ madeF S b x y ++ us.drop (low + 2) = us then none else some (us.take low ++ madeF S b x y ++ us.drop (low + 2))) else none
  | _, _ => none
def behF (S : HsD) (us : List (List Nat)) (place : Int) (b : Bool) : Option (List (List Nat)) := if 0 ≤ (if b = true then place else place - 1) then biteF S us (if b = true then place else place - 1).toNat b else none
/-- a side by its word -/
def behS (S : HsD) (us : List (List Nat)) (place : Int) (z : Str) : Option (List (List Nat)) := if z = Str.ofString "left" then behF S us place false else if z = Str.ofString "right" then behF S us place true else none
theorem behS_sd (S : HsD) (us : List (List Nat)) (place : Int) (b : Bool) : behS S us place (sdS b) = behF S us place b := by
  unfold behS
  cases b with
  | false => exact if_pos rfl
  | true => rw [if_neg (by decide +kernel)]; exact if_pos rfl
/-- a row, or None -/
def IsOpt (H H' : Hp) (v : V) : Option (List (List Nat)) → Prop
  | none => v = .non
  | some m => ∃ p, v = .ref p ∧ H p = none ∧ H' p = some (.lst (tS m))
theorem any_perm {α : Type} {l m : List α} {g : α → Bool} (h : ∀ x, x ∈ l ↔ x ∈ m) : l.any g = m.any g := by
  rw [Bool.eq_iff_iff, List.any_eq_true, List.any_eq_true]
  exact ⟨fun ⟨x, a, b⟩ => ⟨x, (h x).mp a, b⟩, fun ⟨x, a, b⟩ => ⟨x, (h x).mpr a, b⟩⟩
theorem good_row {us : List (List Nat)} (hp : ∀ u ∈ us, Pl (tx u) ∧ u.length ≤ 100000) (hl : us.length ≤ 50000) (j : Nat) : Good (j + 2) (.list (us.map fun u => PyData.str (tx u))) := ⟨by rw [List.length_map]; exact hl, fun e he => by
  obtain ⟨u, hu, rfl⟩ := List.mem_map.mp he
  exact ⟨(hp u hu).1, by rw [len_tx]; exact (hp u hu).2⟩⟩
theorem pl_in {S : HsD} (ok : HsOk S) {u : List Nat} (h : ∀ c ∈ u, c ∈ S.ls) : Pl (tx u) := fun c hc => by
  have := ok.rise.2 c (h c hc)
  unfold small at this
  omega
theorem eqv_rows (us vs : List (List Nat)) : PyData.eqv (.list (us.map fun u => PyData.str (tx u))) (.list (vs.map fun u => PyData.str (tx u))) = decide (us = vs) := by
  have h := eqv_strs (us.map tx) (vs.map tx)
  unfold dStrs at h
  rw [List.map_map, List.map_map] at h
  rw [show (fun u => PyData.str (tx u)) = PyData.str ∘ tx from rfl, h]
  by_cases e : us = vs
  · rw [e, decide_eq_true rfl, decide_eq_true rfl]
  · rw [decide_eq_false e, decide_eq_false fun z => e (List.map_inj_right (fun a b => tx_inj) |>.mp z)]
theorem deep_tr {S : HsD} (ok : HsOk S) {L : List RwM} (hL : ∀ k, k ∈ L.map (·.2) ↔ k ∈ S.tr) (nd : (L.map (·.2)).Nodup) : SeqAt.shaped (.tuple ((L.map (·.2)).map dKeys)) = true := by
  have e7 := ok.e7
  have ll : (L.map (·.2)).length ≤ S.tr.length := len_le_of_nodup nd fun k hk => (hL k).mp hk
  refine Good.shaped (j := 3) ⟨by rw [List.length_map]; omega, fun e he => ?_⟩ (by decide)
  obtain ⟨k, hk, rfl⟩ := List.mem_map.mp he
  obtain ⟨s, a, b, rfl, h1, h2, h3, h4⟩ := ok.ev k ((hL k).mp hk)
  have t4 := ok.t4
  have g : ∀ x : Int, 0 ≤ x → x < S.tb.length → x.natAbs.log2 < 1920 := fun x h0 h1 => by
    have := log_nat (k := x.toNat) (by omega)
    rwa [Int.toNat_of_nonneg h0] at this
  refine ⟨by show 3 ≤ 50000; decide, fun e he => ?_⟩
  rcases List.mem_cons.mp he with rfl | he
  · refine ⟨?_, ?_⟩ <;> cases s <;> first | exact pl_B (by decide +kernel) | decide +kernel
  rcases List.mem_cons.mp he with rfl | he
  · exact g a h1 h2
  rcases List.mem_cons.mp he with rfl | he
  · exact g b h3 h4
  cases he
theorem shaped_eat (b : Bool) {x y : Int} (h0 : 0 ≤ x) (h1 : x ≤ 100) (h2 : 0 ≤ y) (h3 : y ≤ 100) : SeqAt.shaped (dKeys (kEat b x y)) = true := by
  have g : ∀ x : Int, 0 ≤ x → x ≤ 100 → x.natAbs.log2 < 1920 := fun x h0 h1 => by
    have := log_nat (k := x.toNat) (by omega)
    rwa [Int.toNat_of_nonneg h0] at this
  refine Good.shaped (j := 2) ⟨by show 3 ≤ 50000; decide, fun e he => ?_⟩ (by decide)
  rcases List.mem_cons.mp he with rfl | he
  · refine ⟨?_, ?_⟩ <;> cases b <;> first | exact pl_B (by decide +kernel) | decide +kernel
  rcases List.mem_cons.mp he with rfl | he
  · exact g x h0 h1
  rcases List.mem_cons.mp he with rfl | he
  · exact g y h2 h3
  cases he
def spBehind (K : PySem.W.Frag) : Sp := fun vs H Q _ => ∃ (a r : Addr) (S : HsD) (us : List (List Nat)) (place : Int) (z : Str), vs = [.ref a, .ref r, .int place, .str z] ∧ HsAt K H a S ∧ HsOk S ∧ SqL K H r (tS us) ∧ AllW S us ∧ us.length ≤ 10000 ∧ ∀ v H', Same H H' → IsOpt H H' v (behS S us place z) → Q v H'
theorem tasteF_in {S : HsD} (ok : HsOk S) {u : List Nat} (h : ∀ c ∈ u, c ∈ S.ls) : 0 ≤ tasteF S u ∧ tasteF S u ≤ 100 := by
  have t1 := ok.t1
  have t4 := ok.t4
  obtain ⟨a, b⟩ := taste_in ok u 0 (Int.le_refl _) (by omega) h
  have b' : tasteF S u < S.tb.length := b
  exact ⟨a, by omega⟩
theorem dp_trs {H : Hp} : ∀ {L : List RwM}, (∀ q ∈ L, SqT K H q.1 (q.2.map kV)) → DpAll K H (L.map fun q => V.ref q.1) ((L.map (·.2)).map dKeys)
  | [], _ => .nil
  | q :: L, h => .cons (dp_keys (h q (List.mem_cons_self ..))) (dp_trs fun p hp => h p (List.mem_cons_of_mem _ hp))
theorem made_in {S : HsD} (ok : HsOk S) {us ms : List (List Nat)} {low : Nat} (hw : AllW S us) (hl : low + 1 < us.length) (hm : ∀ v ∈ ms, v ∈ wordsF S.ls S.mo.toNat) : AllW S (us.take low ++ ms ++ us.drop (low + 2)) := fun u hu => by
  rcases List.mem_append.mp hu with hu | hu
  · rcases List.mem_append.mp hu with hu | hu
    · exact hw u (List.mem_of_mem_take hu)
    · exact hm u hu
  · exact hw u (List.mem_of_mem_drop hu)
theorem good_allW {S : HsD} (ok : HsOk S) {us : List (List Nat)} (h : AllW S us) (hl : us.length ≤ 50000) (j : Nat) : Good (j + 2) (.list (us.map fun u => PyData.str (tx u))) := good_row (fun u hu => ⟨pl_in ok ((h.len ok) u hu).2.2, by have := ((h.len ok) u hu).2.1; omega⟩) hl j
/-- two rows, alike or not -/
theorem row_eq {S : HsD} {H : Hp} {Q : VK} {p r : Addr} {us vs : List (List Nat)} (ok : HsOk S) (hw : AllW S us) (lu : us.length ≤ 20000) (hv : AllW S vs) (lv : vs.length ≤ 20000) (h1 : SqL K H p (tS vs)) (h2 : SqL K H r (tS us)) (h : Q (.bl (decide (vs = us))) H) : rEqU K (.ref p) (.ref r) H Q := by
  refine k_eq_d (.lst h1 (dp_tS vs)) (.lst h2 (dp_tS us)) ((good_allW ok hv (by omega) 0).shaped (by decide)) ((good_allW ok hw (by omega) 0).shaped (by decide)) ?_
  rw [eqv_rows]
  exact h
theorem inV_sides (z : Str) : inV (V.str z) [V.str (Str.ofString "left"), V.str (Str.ofString "right")] = (decide (z = Str.ofString "left") || decide (z = Str.ofString "right")) := by
  show ((Str.ofString "left" == z) || ((Str.ofString "right" == z) || false)) = _
  rw [Bool.or_false]
  congr 1 <;> (rw [Bool.eq_iff_iff, beq_iff_eq, decide_eq_true_eq]; exact eq_comm)
theorem side_of (z : Str) : (∃ b, z = sdS b) ∨ (z ≠ Str.ofString "left" ∧ z ≠ Str.ofString "right") := by
  by_cases h1 : z = Str.ofString "left"
  · exact .inl ⟨false, h1⟩
  by_cases h2 : z = Str.ofString "right"
  · exact .inl ⟨true, h2⟩
  · exact .inr ⟨h1, h2⟩
theorem behS_no {S : HsD} {us : List (List Nat)} {place : Int} {z : Str} (h : z ≠ Str.ofString "left" ∧ z ≠ Str.ofString "right") : behS S us place z = none := by
  unfold behS
  rw [if_neg h.1, if_neg h.2]
theorem biteF_some {S : HsD} {us : List (List Nat)} {low : Nat} {b : Bool} {x y : List Nat} (h1 : us[low]? = some x) (h2 : us[low + 1]? = some y) : biteF S us low b = if eatsF S b (if b = true then x else y) (if b = true then y else x) = true then
      (if us.take low ++ madeF S b x y ++ us.drop (low + 2) = us then none else some (us.take low ++ madeF S b x y ++ us.drop (low + 2))) else none := by
  unfold biteF
  rw [h1, h2]
theorem biteF_out {S : HsD} {us : List (List Nat)} {low : Nat} {b : Bool} (h : us.length ≤ low + 1) : biteF S us low b = none := by
  unfold biteF
  rw [List.getElem?_eq_none h]
  cases us[low]? <;> rfl
theorem ok_behind (F : FnP K "behind" s_behind f fd) (hm : mg "behind" = some (.ref f)) (hC : HsC K) (f_len : mg "len" = none) (f_min : mg "min" = none) (c_House_tasted : CalleeM P w K mg base CX0 "House" "tasted" 1 (spTasted K)) (c_cut_long : Callee P w K mg base CX0 "cut_long" 2 [] (spCut K)) (c_grown : Callee P w K mg base CX0 "grown" 2 [] (spGrown K)) : Callee P w K mg base CX0 "behind" 3 [] (spBehind K) := by
  refine ⟨f, fd, _, [], F.ok sc_behind (fun vs H Q E h => ?hl) (fun cdv A outer s H vs Q E hr h => ⟨_, PSs.nox (pss_cons (ps_set (i := 4) sc_behind.nd rfl (by first | exact Or.inl rfl | exact Or.inr rfl) (pe_ifExp (pt_cmpR (op_eqK K hr.units) (pv 3) pe_str (nomark _)) (pe_op op_sub (pv 2) pe_int) (pe_op (op_addK K) (pv 2) pe_int)))
      (pss_cons (ps_if (PW.pt (pw_or (pt_cmpR (op_niK K) (pv 3) (pe_tup (pa_cons pe_str (pa_cons pe_str pa_nil))) (by rfl)) (pw_or (pt_not (pt_chain op_leU op_lt pe_int (pv 2) (pe_callB (call_lenK K) (by rfl) f_len PySem.boot_len (pa_cons (pv 1) pa_nil)))) (pw_or1 (pt_not (pt_chain op_leU op_lt pe_int (pv 4) (pe_callB (call_lenK K) (by rfl) f_len PySem.boot_len (pa_cons (pv 1) pa_nil)))))))) (pss_one (ps_ret pe_non)) pss_nil)
      (pss_cons (ps_par (by rfl) sc_behind.nd (i := 5) (j := 6) rfl rfl (by decide) rfl rfl (pa_cons (pe_ix (ix_k K) (pv 1) (pv 2) (fun _ _ => rfl)) (pa_cons (pe_ix (ix_k K) (pv 1) (pv 4) (fun _ _ => rfl)) pa_nil)) (by rfl))
      (pss_cons (ps_if (pt_cmpR (op_niTD K (u65 hr)) (pe_tup (pa_cons (pv 3) (pa_cons (pe_mt1 c_House_tasted hr (pv 0) (pa_cons (pv 5) pa_nil) pass0) (pa_cons (pe_mt1 c_House_tasted hr (pv 0) (pa_cons (pv 6) pa_nil) pass0) pa_nil)))) (pe_fld (pv 0) rfl) (by rfl)) (pss_one (ps_ret pe_non)) pss_nil)
      (pss_cons (ps_set (i := 7) sc_behind.nd rfl (by first | exact Or.inl rfl | exact Or.inr rfl) (pe_callB call_minK (by rfl) f_min (by decide +kernel) (pa_cons (pv 2) (pa_cons (pv 4) pa_nil))))
      (pss_cons (ps_set (i := 8) sc_behind.nd rfl (by first | exact Or.inl rfl | exact Or.inr rfl) (pe_op (op_addK K) (pe_op (op_addK K) (pe_slice (sl_k K) (pv 1) po_none (po_some (pv 7))) (pe_cl c_cut_long hr (pa_cons (pv 0) (pa_cons (pe_cl c_grown hr (pa_cons (pv 0) (pa_cons (pv 5) (pa_cons (pv 6) (pa_cons (pv 3) pa_nil)))) pass0) pa_nil)) pass0)) (pe_slice (sl_k K) (pv 1) (po_some (pe_op (op_addK K) (pv 7) pe_int)) po_none)))
      (pss_one (ps_ret (pe_ifExp (pt_cmpR (op_eqK K hr.units) (pv 8) (pv 1) (nomark _)) pe_non (pv 8)))))))))), ?rd⟩), hm, F.kp, F.bindsN fun _ _ _ _ _ _ us hl => match us, hl with | [_, _, _, _], _ => rfl, .nil⟩
  case hl =>
    obtain ⟨a, r, S, us, place, z, rfl, _⟩ := h
    rfl
  case rd =>
    obtain ⟨a, r, S, us, place, z, rfl, hs, ok, hx, hw, lu, q⟩ := h
    refine k_start (σ' := [some _, some _, some _, some _, none, none, none, none, none]) rfl ?_
    have lx := len_tS us
    have no : ∀ H', Same H H' → behS S us place z = none → Q .non H' := fun H' s e => q .non H' s (by rw [e]; exact rfl)
    rcases side_of z with ⟨sd, rfl⟩ | hz
    · rw [behS_sd] at no
      simp only [behS_sd] at q
      walk_at "g"
      rw [sdS_left]
      refine (show nIte (!sd) _ _ from ?_)
      cases sd with
      | false =>
        walk_at "g"
        refine k_nTup (by walk_at "sz") (fun p2 H2 n2 s2 e2 => ?_)
        walk_at "g"
        refine k_niT (sq_t e2) rfl rfl (b := false) (by rw [inV_sides]; decide +kernel) ?_
        walk_at "g"
        have out : ¬ (1 ≤ place ∧ place < us.length) → behF S us place false = none := fun h => by
          unfold behF
          by_cases h0 : (0 : Int) ≤ place - 1
          · rw [if_pos (by exact h0)]
            exact biteF_out (by show us.length ≤ (place - 1).toNat + 1; omega)
          · rw [if_neg (by exact h0)]
        refine k_dec (fun d1 => ?_) (fun d1 => ?_)
        rotate_left
        · walk_at "g"
          exact no _ s2 (out (by omega))
        walk_at "g"
        rw [lx]
        refine k_dec (fun d2 => ?_) (fun d2 => ?_)
        rotate_left
        · walk_at "g"
          exact no _ s2 (out (by omega))
        walk_at "g"
        refine k_dec (fun d3 => ?_) (fun d3 => ?_)
        rotate_left
        · walk_at "g"
          exact no _ s2 (out (by omega))
        walk_at "g"
        rw [lx]
        walk_at "w"
        obtain ⟨low, hlow⟩ : ∃ low : Nat, place - 1 = (low : Int) := ⟨(place - 1).toNat, by omega⟩
        have hp : place = ((low + 1 : Nat) : Int) := by omega
        have g1 : us[low]? = some us[low] := List.getElem?_eq_getElem (by omega)
        have g2 : us[low + 1]? = some us[low + 1] := List.getElem?_eq_getElem (by omega)
        have b1 := (hw.len ok) _ (List.getElem_mem (show low < us.length by omega))
        have b2 := (hw.len ok) _ (List.getElem_mem (show low + 1 < us.length by omega))
        generalize us[low] = x at g1 b1
        generalize us[low + 1] = y at g2 b2
        have eF : behF S us place false = if eatsF S false y x = true then (if us.take low ++ madeF S false x y ++ us.drop (low + 2) = us then none else some (us.take low ++ madeF S false x y ++ us.drop (low + 2))) else none := by
          unfold behF
          rw [show (if false = true then place else place - 1) = place - 1 from rfl, if_pos (by omega), show (place - 1).toNat = low by omega, biteF_some g1 g2]
          rfl
        refine k_ix_l (sm_l s2 hx) (at_n hp (getS g2)) ?_
        walk_at "g"
        refine k_ix_l (sm_l s2 hx) (at_n hlow (getS g1)) ?_
        walk_at "g"
        have hs2 := hs.sm s2
        obtain ⟨dx, r0, t0, R, L, h1, h2, h3, h4, h5, h6, h7, h8, h9⟩ := id hs2
        walk_at "g"
        refine ⟨a, S, y, rfl, hs2, ok, b2.2.2, ?_⟩
        walk_at "g"
        refine ⟨a, S, x, rfl, hs2, ok, b1.2.2, ?_⟩
        walk_at "g"
        refine k_nTup (by walk_at "sz") (fun p3 H3 n3 s3 e3 => ?_)
        have h13 := s3 _ _ h1
        walk_at "g"
        refine k_nFld h13 hC.c hC.n3 rfl ?_
        have tp := tasteF_in ok (u := y) b2.2.2
        have tq := tasteF_in ok (u := x) b1.2.2
        refine ⟨_, _, dp_keys (k := kEat false (tasteF S y) (tasteF S x)) (sq_t e3), .tup (sm_t s3 h5) (dp_trs fun q hq => sm_t s3 (h6 q hq)), shaped_eat false tp.1 tp.2 tq.1 tq.2, deep_tr ok h8 h7, ?_⟩
        rw [any_keys, any_perm h8]
        have hr3 : ∀ (Hx : Hp), Same H3 Hx → SqL K Hx r (tS us) := fun Hx s => sm_l s (sm_l s3 (sm_l s2 hx))
        cases he : eatsF S false y x with
        | false =>
          unfold eatsF at he
          rw [he]
          walk_at "g"
          refine no _ (s2.trans s3) ?_
          rw [eF]
          unfold eatsF
          rw [he]
          rfl
        | true =>
          rw [he, if_pos rfl] at eF
          unfold eatsF at he
          rw [he]
          walk_at "g"
          rw [show min place (place - 1) = (low : Int) by omega]
          walk_at "g"
          refine k_sl_l (hr3 _ (Same.refl _)) (fun p4 H4 n4 s4 e4 => ?_)
          rw [cutV_to, tS_take] at e4
          walk_at "g"
          refine ⟨a, S, y, x, false, rfl, hs2.sm (s3.trans s4), ok, by omega, by omega, ?_⟩
          walk_at "g"
          have lg := growF_len S false y x
          have p2 := ok.p2
          refine ⟨a, S, growF S false y x, rfl, hs2.sm (s3.trans s4), ok, by omega, fun p5 H5 n5 s5 e5 => ?_⟩
          have cw := cutW_words ok _ (growF S false y x) (Nat.le_refl _) (by omega) (growF_in ok b2.2.2 b1.2.2)
          refine k_add_l (s5 _ _ e4) e5 (by rw [len_tS, len_tS, List.length_take]; omega) (fun p6 H6 n6 s6 e6 => ?_)
          walk_at "g"
          refine k_sl_l (hr3 _ (s4.trans (s5.trans s6))) (fun p7 H7 n7 s7 e7 => ?_)
          rw [cutV_fromI _ _ (by omega), show ((low : Int) + 2).toNat = low + 2 by omega, tS_drop] at e7
          refine k_add_l (s7 _ _ e6) e7 (by rw [List.length_append, len_tS, len_tS, len_tS, List.length_take, List.length_drop]; omega) (fun p8 H8 n8 s8 e8 => ?_)
          rw [← tS_app, ← tS_app, show cutW S (growF S false y x) = madeF S false x y from rfl] at e8
          have s38 := s4.trans (s5.trans (s6.trans (s7.trans s8)))
          have sH8 : Same H H8 := (s2.trans s3).trans s38
          have n8' : H p8 = none := (s2.trans (s3.trans (s4.trans (s5.trans (s6.trans s7))))).free n8
          walk_at "g"
          refine row_eq ok hw (by omega) (made_in ok hw (by omega) (fun v hv => (cutW_words ok _ (growF S false y x) (Nat.le_refl _) (by omega) (growF_in ok b2.2.2 b1.2.2)).1 v hv)) (by rw [List.length_append, List.length_append, List.length_take, List.length_drop]; have := cw.2; show _ + (cutW S (growF S false y x)).length + _ ≤ 20000; omega) (sq_l e8) (hr3 _ s38) ?_
          walk_at "g"
          refine k_dec (fun d => ?_) (fun d => ?_)
          · rw [if_pos (show us.take low ++ madeF S false x y ++ us.drop (low + 2) = us from d)] at eF
            walk_at "g"
            exact no _ sH8 eF
          · rw [if_neg (show ¬ us.take low ++ madeF S false x y ++ us.drop (low + 2) = us from d)] at eF
            walk_at "g"
            exact q _ _ sH8 (by rw [eF]; exact ⟨p8, rfl, n8', e8⟩)
      | true =>
        walk_at "g"
        refine k_nTup (by walk_at "sz") (fun p2 H2 n2 s2 e2 => ?_)
        walk_at "g"
        refine k_niT (sq_t e2) rfl rfl (b := false) (by rw [inV_sides]; decide +kernel) ?_
        walk_at "g"
        have out : ¬ (0 ≤ place ∧ place + 1 < us.length) → behF S us place true = none := fun h => by
          unfold behF
          by_cases h0 : (0 : Int) ≤ place
          · rw [if_pos (by exact h0)]
            exact biteF_out (by show us.length ≤ place.toNat + 1; omega)
          · rw [if_neg (by exact h0)]
        refine k_dec (fun d1 => ?_) (fun d1 => ?_)
        rotate_left
        · walk_at "g"
          exact no _ s2 (out (by omega))
        walk_at "g"
        rw [lx]
        refine k_dec (fun d2 => ?_) (fun d2 => ?_)
        rotate_left
        · walk_at "g"
          exact no _ s2 (out (by omega))
        walk_at "g"
        walk_at "w"
        rw [lx]
        refine k_dec (fun d3 => ?_) (fun d3 => ?_)
        rotate_left
        · walk_at "g"
          exact no _ s2 (out (by omega))
        walk_at "g"
        obtain ⟨low, hlow⟩ : ∃ low : Nat, place = (low : Int) := ⟨place.toNat, by omega⟩
        have hp : place + 1 = ((low + 1 : Nat) : Int) := by omega
        have g1 : us[low]? = some us[low] := List.getElem?_eq_getElem (by omega)
        have g2 : us[low + 1]? = some us[low + 1] := List.getElem?_eq_getElem (by omega)
        have b1 := (hw.len ok) _ (List.getElem_mem (show low < us.length by omega))
        have b2 := (hw.len ok) _ (List.getElem_mem (show low + 1 < us.length by omega))
        generalize us[low] = x at g1 b1
        generalize us[low + 1] = y at g2 b2
        have eF : behF S us place true = if eatsF S true x y = true then (if us.take low ++ madeF S true x y ++ us.drop (low + 2) = us then none else some (us.take low ++ madeF S true x y ++ us.drop (low + 2))) else none := by
          unfold behF
          rw [show (if true = true then place else place - 1) = place from rfl, if_pos (by omega), show place.toNat = low by omega, biteF_some g1 g2]
          rfl
        refine k_ix_l (sm_l s2 hx) (at_n hlow (getS g1)) ?_
        walk_at "g"
        refine k_ix_l (sm_l s2 hx) (at_n hp (getS g2)) ?_
        walk_at "g"
        have hs2 := hs.sm s2
        obtain ⟨dx, r0, t0, R, L, h1, h2, h3, h4, h5, h6, h7, h8, h9⟩ := id hs2
        walk_at "g"
        refine ⟨a, S, x, rfl, hs2, ok, b1.2.2, ?_⟩
        walk_at "g"
        refine ⟨a, S, y, rfl, hs2, ok, b2.2.2, ?_⟩
        walk_at "g"
        refine k_nTup (by walk_at "sz") (fun p3 H3 n3 s3 e3 => ?_)
        have h13 := s3 _ _ h1
        walk_at "g"
        refine k_nFld h13 hC.c hC.n3 rfl ?_
        have tp := tasteF_in ok (u := y) b2.2.2
        have tq := tasteF_in ok (u := x) b1.2.2
        refine ⟨_, _, dp_keys (k := kEat true (tasteF S x) (tasteF S y)) (sq_t e3), .tup (sm_t s3 h5) (dp_trs fun q hq => sm_t s3 (h6 q hq)), shaped_eat true tq.1 tq.2 tp.1 tp.2, deep_tr ok h8 h7, ?_⟩
        rw [any_keys, any_perm h8]
        have hr3 : ∀ (Hx : Hp), Same H3 Hx → SqL K Hx r (tS us) := fun Hx s => sm_l s (sm_l s3 (sm_l s2 hx))
        cases he : eatsF S true x y with
        | false =>
          unfold eatsF at he
          rw [he]
          walk_at "g"
          refine no _ (s2.trans s3) ?_
          rw [eF]
          unfold eatsF
          rw [he]
          rfl
        | true =>
          rw [he, if_pos rfl] at eF
          unfold eatsF at he
          rw [he]
          walk_at "g"
          rw [show min place (place + 1) = (low : Int) by omega]
          walk_at "g"
          refine k_sl_l (hr3 _ (Same.refl _)) (fun p4 H4 n4 s4 e4 => ?_)
          rw [cutV_to, tS_take] at e4
          walk_at "g"
          refine ⟨a, S, x, y, true, rfl, hs2.sm (s3.trans s4), ok, by omega, by omega, ?_⟩
          walk_at "g"
          have lg := growF_len S true x y
          have p2 := ok.p2
          refine ⟨a, S, growF S true x y, rfl, hs2.sm (s3.trans s4), ok, by omega, fun p5 H5 n5 s5 e5 => ?_⟩
          have cw := cutW_words ok _ (growF S true x y) (Nat.le_refl _) (by omega) (growF_in ok b1.2.2 b2.2.2)
          refine k_add_l (s5 _ _ e4) e5 (by rw [len_tS, len_tS, List.length_take]; omega) (fun p6 H6 n6 s6 e6 => ?_)
          walk_at "g"
          refine k_sl_l (hr3 _ (s4.trans (s5.trans s6))) (fun p7 H7 n7 s7 e7 => ?_)
          rw [cutV_fromI _ _ (by omega), show ((low : Int) + 2).toNat = low + 2 by omega, tS_drop] at e7
          refine k_add_l (s7 _ _ e6) e7 (by rw [List.length_append, len_tS, len_tS, len_tS, List.length_take, List.length_drop]; omega) (fun p8 H8 n8 s8 e8 => ?_)
          rw [← tS_app, ← tS_app, show cutW S (growF S true x y) = madeF S true x y from rfl] at e8
          have s38 := s4.trans (s5.trans (s6.trans (s7.trans s8)))
          have sH8 : Same H H8 := (s2.trans s3).trans s38
          have n8' : H p8 = none := (s2.trans (s3.trans (s4.trans (s5.trans (s6.trans s7))))).free n8
          walk_at "g"
          refine row_eq ok hw (by omega) (made_in ok hw (by omega) (fun v hv => (cutW_words ok _ (growF S true x y) (Nat.le_refl _) (by omega) (growF_in ok b1.2.2 b2.2.2)).1 v hv)) (by rw [List.length_append, List.length_append, List.length_take, List.length_drop]; have := cw.2; show _ + (cutW S (growF S true x y)).length + _ ≤ 20000; omega) (sq_l e8) (hr3 _ s38) ?_
          walk_at "g"
          refine k_dec (fun d => ?_) (fun d => ?_)
          · rw [if_pos (show us.take low ++ madeF S true x y ++ us.drop (low + 2) = us from d)] at eF
            walk_at "g"
            exact no _ sH8 eF
          · rw [if_neg (show ¬ us.take low ++ madeF S true x y ++ us.drop (low + 2) = us from d)] at eF
            walk_at "g"
            exact q _ _ sH8 (by rw [eF]; exact ⟨p8, rfl, n8', e8⟩)
    · walk_at "g"
      rw [decide_eq_false hz.1]
      walk_at "g"
      refine k_nTup (by walk_at "sz") (fun p2 H2 n2 s2 e2 => ?_)
      walk_at "g"
      refine k_niT (sq_t e2) rfl rfl (b := true) (by rw [inV_sides, decide_eq_false hz.1, decide_eq_false hz.2]; rfl) ?_
      walk_at "g"
      exact no _ s2 (behS_no hz)
end
end Lw
set_option autoImplicit true
set_option pp.maxSteps 1200
set_option Elab.async false
set_option linter.all false
set_option maxRecDepth 100000
set_option maxHeartbeats 1000000
namespace Lw
open PySem PySem.Spec PyProof.Rows L2 Gk

local macro_rules | `(tactic| walk_at "hp") => `(tactic| first | assumption | exact upd_same | (refine' (upd_ne ?n).trans ?h; (case n => assumption); (case h => walk_at "hp")) | (refine' sm_get ?s ?h; (case s => assumption); (case h => walk_at "hp")))
local macro_rules | `(tactic| walk_at "sq") => `(tactic| first | assumption | (refine' sq_l ?h; (case h => walk_at "hp")) | (refine' sm_l ?s ?h; (case s => assumption); (case h => walk_at "sq")))
local macro_rules | `(tactic| walk_at "st") => `(tactic| first | assumption | (refine' sq_t ?h; (case h => walk_at "hp")) | (refine' sm_t ?s ?h; (case s => assumption); (case h => walk_at "st")))
local macro_rules | `(tactic| walk_at "bg") => `(tactic| first | assumption | (refine' BagOk.sm ?s ?h; (case s => assumption); (case h => walk_at "bg")))
local macro_rules | `(tactic| walk_at "sm") => `(tactic| first | assumption | exact Same.refl _ | (refine' Same.trans ?h ?s; (case s => assumption); (case h => walk_at "sm")))
local macro_rules | `(tactic| walk_at "hs") => `(tactic| first | assumption | (refine' HsAt.sm ?s ?h; (case s => assumption); (case h => walk_at "hs")))
local macro_rules | `(tactic| walk_at "ms") => `(tactic| first | assumption | (refine' MAt.sm ?s ?h; (case s => assumption); (case h => walk_at "ms")))
local macro_rules | `(tactic| walk_at "dp") => `(tactic| first | assumption | (refine' dp_sm ?s ?h; (case s => assumption); (case h => walk_at "dp")))
local macro_rules | `(tactic| walk_at "sz") => `(tactic| first | decide | assumption | omega | (simp only [List.length_cons, List.length_nil, List.length_map, List.length_append]; omega))
local macro_rules | `(tactic| walk_at "g1") => `(tactic| first
  | with_reducible refine k_seq ?_
  | with_reducible refine k_itB ?_
  | with_reducible refine k_next ?_
  | with_reducible refine k_asg ?_
  | with_reducible refine k_name ?_
  | with_reducible refine k_ret ?_
  | with_reducible refine k_retN ?_
  | with_reducible refine k_drop ?_
  | with_reducible refine k_ifs ?_
  | with_reducible refine k_brk ?_
  | with_reducible refine k_cont ?_
  | with_reducible refine k_ipI ?_
  | with_reducible refine k_test ?_
  | with_reducible refine k_tB ?_
  | with_reducible refine k_bl ?_
  | with_reducible refine k_not ?_
  | with_reducible refine k_and ?_
  | with_reducible refine k_or ?_
  | with_reducible refine k_yes ?_
  | with_reducible refine k_true ?_
  | with_reducible refine k_false ?_
  | with_reducible refine k_nt ?_
  | with_reducible refine k_c ?_
  | with_reducible refine k_op ?_
  | with_reducible refine k_un ?_
  | with_reducible refine k_if ?_
  | with_reducible refine k_chain ?_
  | with_reducible refine k_nil ?_
  | with_reducible refine k_cons ?_
  | with_reducible refine k_cb ?_
  | with_reducible refine k_call ?_
  | with_reducible refine k_callS ?_
  | with_reducible refine k_andV ?_
  | with_reducible refine k_orV ?_
  | with_reducible refine k_notV ?_
  | with_reducible refine k_lst ?_
  | with_reducible refine k_tup ?_
  | with_reducible refine k_nopart ?_
  | with_reducible refine k_part ?_
  | with_reducible refine k_nInt ?_
  | with_reducible refine k_sl ?_
  | with_reducible refine k_bm ?_
  | with_reducible refine k_bm0 ?_
  | with_reducible refine k_nTyS ?_
  | with_reducible refine k_m1 ?_
  | with_reducible refine k_m0 ?_
  | with_reducible refine k_nStr ?_
  | with_reducible refine k_I0 ?_
  | with_reducible refine k_U ?_
  | with_reducible refine k_add_i ?_
  | with_reducible refine k_eq_i ?_
  | with_reducible refine k_eq_s ?_
  | with_reducible refine k_eq_b ?_
  | with_reducible refine k_ne_i ?_
  | with_reducible refine k_ne_s ?_
  | with_reducible refine k_ne_b ?_
  | with_reducible refine k_le_i ?_
  | with_reducible refine k_le_s ?_
  | with_reducible refine k_gnil ?_
  | with_reducible refine k_gcons ?_
  | with_reducible refine k_gsub ?_
  | with_reducible refine k_for ?_
  | with_reducible refine k_lc ?_
  | with_reducible refine k_rng1 ?_
  | with_reducible refine k_rng2 ?_
  | with_reducible refine k_itl ?_
  | with_reducible refine k_itt ?_
  | with_reducible refine k_its ?_
  | with_reducible refine k_ite ?_
  | with_reducible refine k_iteB ?_
  | with_reducible refine k_lrg2 ?_
  | with_reducible refine k_itz ?_
  | with_reducible refine k_nIts ?_
  | with_reducible refine k_inS ?_
  | with_reducible refine k_niS ?_
  | with_reducible refine k_mk ?_
  | with_reducible refine k_meth ?_
  | with_reducible refine k_fld ?_
  | with_reducible refine k_sfld ?_
  | with_reducible refine k_dg ?_
  | with_reducible refine k_dp ?_
  | with_reducible refine k_pr ?_
  | with_reducible refine k_pr0 ?_
  | with_reducible refine k_sg ?_
  | with_reducible refine k_lc2 ?_
  | with_reducible refine k_callN ?_
  | with_reducible refine k_callNS ?_
  | with_reducible refine k_par ?_
  | with_reducible refine k_nPar ?_
  | with_reducible refine k_isNn ?_
  | with_reducible refine k_isNr ?_
  | with_reducible refine k_ntNn ?_
  | with_reducible refine k_ntNr ?_
  | with_reducible refine k_min2 ?_
  | with_reducible refine k_max2 ?_
  | with_reducible refine k_intB ?_
  | with_reducible refine k_intI ?_
  | with_reducible refine k_isBl ?_
  | with_reducible refine k_ntBl ?_
  | ((with_reducible refine' k_var ?kv ?_); (case kv => exact rfl))
  | ((with_reducible refine' k_aug ?kv ?_); (case kv => exact rfl))
  | ((with_reducible refine' k_ix_l ?ks ?ki ?_); (case ks => walk_at "sq"); (case ki => exact rfl))
  | ((with_reducible refine' k_ix_t ?ks ?ki ?_); (case ks => walk_at "st"); (case ki => exact rfl))
  | ((with_reducible refine' k_len_l ?ks ?_); (case ks => walk_at "sq"))
  | ((with_reducible refine' k_len_t ?ks ?_); (case ks => walk_at "st"))
  | ((with_reducible refine' k_setL ?ks ?ki ?_); (case ks => walk_at "hp"); (case ki => exact rfl))
  | ((with_reducible refine' k_nTyL ?ks ?_); (case ks => walk_at "sq"))
  | ((with_reducible refine' k_nItl ?ks ?_); (case ks => walk_at "sq"))
  | ((with_reducible refine' k_nItt ?ks ?_); (case ks => walk_at "st"))
  | ((with_reducible refine' k_nIte ?ks ?_); (case ks => walk_at "sq"))
  | ((with_reducible refine' k_mul ?km ?_); (case km => first | exact Or.inr ⟨by decide, by decide⟩ | exact Or.inl ⟨by decide, by decide⟩))
  | ((with_reducible refine' k_I ?km ?_); (case km => first | assumption | decide | exact ⟨by decide, by decide +kernel⟩ | exact ⟨by decide, by decide, by decide⟩))
  | ((with_reducible refine' k_nMeth ?kp ?kl ?_); (case kp => walk_at "hp"); (case kl => exact rfl))
  | ((with_reducible refine' k_nFld ?kp ?kc ?kn ?kl ?_); (case kp => walk_at "hp"); (case kc => assumption); (case kn => assumption); (case kl => exact rfl))
  | ((with_reducible refine' k_nSFld ?kp ?kc ?kn ?kl ?_); (case kp => walk_at "hp"); (case kc => assumption); (case kn => assumption); (case kl => exact of_decide_eq_true rfl))
  | ((with_reducible refine' k_nDg ?kp ?kl ?_); (case kp => walk_at "hp"); (case kl => exact rfl))
  | ((with_reducible refine' k_nRng1 ?k1 ?k2 ?_); (case k1 => omega); (case k2 => omega))
  | ((with_reducible refine' k_nKw ?k1 ?k2 ?_); (case k1 => exact rfl); (case k2 => exact rfl))
  | ((with_reducible refine' k_hsm ?kh ?_); (case kh => walk_at "hs"))
  | ((with_reducible refine' k_nMethH ?kh ?kl ?_); (case kh => walk_at "hs"); (case kl => exact fun _ _ => rfl))
  | ((with_reducible refine' k_mLet ?kh ?_); (case kh => walk_at "ms"))
  | ((with_reducible refine' k_mChew ?kh ?_); (case kh => walk_at "ms"))
  | ((with_reducible refine' k_mPut ?kh ?_); (case kh => walk_at "ms"))
  | ((with_reducible refine' k_mMost ?kh ?_); (case kh => walk_at "ms"))
  | ((with_reducible refine' k_mCut ?kh ?_); (case kh => walk_at "ms"))
  | ((with_reducible refine' k_gtup ?ks ?kl ?_); (case ks => walk_at "st"); (case kl => exact rfl)))
local macro_rules | `(tactic| walk_at "g") => `(tactic| repeat (walk_at "g1"))
local macro_rules | `(tactic| walk_at "w1") => `(tactic| first
  | walk_at "g1"
  | ((with_reducible refine' k_decT ?kp ?_); (case kp => omega))
  | ((with_reducible refine' k_decF ?kp ?_); (case kp => omega))
  | ((with_reducible refine' k_decNT ?kp ?_); (case kp => omega))
  | ((with_reducible refine' k_decNF ?kp ?_); (case kp => omega)))
local macro_rules | `(tactic| walk_at "w") => `(tactic| repeat (walk_at "w1"))

section
variable {P : Program} {w : World} {K : PySem.W.Frag} {mg : Str → Option Value} {base : Heap} {f : Addr} {fd : FuncData}
/-! ### all bites -/
abbrev Bt : Type := Nat × Bool
def btAt (S : HsD) (us : List (List Nat)) (i : Nat) : List (Bt × List (List Nat)) := [false, true].filterMap fun b => (behF S us (i : Nat) b).map fun m => ((i, b), m)
def bitesF (S : HsD) (us : List (List Nat)) : List (Bt × List (List Nat)) := (List.range us.length).flatMap (btAt S us)
def dBt (x : Bt) : PyData := .tuple [.int (x.1 : Nat), .str (sdS x.2)]
def dRow (us : List (List Nat)) : PyData := .list (us.map fun u => PyData.str (tx u))
def dB1 (x : Bt × List (List Nat)) : PyData := dBt x.1
def dBM (x : Bt × List (List Nat)) : PyData := .tuple [dBt x.1, dRow x.2]
theorem btAt_len (S : HsD) (us : List (List Nat)) (i : Nat) : (btAt S us i).length ≤ 2 := List.length_filterMap_le ..
theorem flat_len {S : HsD} {us : List (List Nat)} : ∀ n, ((List.range n).flatMap (btAt S us)).length ≤ 2 * n
  | 0 => Nat.le_refl _
  | n + 1 => by
    rw [List.range_succ, List.flatMap_append, List.length_append]
    have h1 := flat_len (S := S) (us := us) n
    have h2 := btAt_len S us n
    simp only [List.flatMap_cons, List.flatMap_nil, List.append_nil]
    omega
/-- all bites up to (i, the first j sides) -/
def bitesTo (S : HsD) (us : List (List Nat)) (i j : Nat) : List (Bt × List (List Nat)) := (List.range i).flatMap (btAt S us) ++ ([false, true].take j).filterMap fun b => (behF S us (i : Nat) b).map fun m => ((i, b), m)
theorem bitesTo_len (S : HsD) (us : List (List Nat)) (i j : Nat) : (bitesTo S us i j).length ≤ 2 * i + 2 := by
  unfold bitesTo
  rw [List.length_append]
  have h1 := flat_len (S := S) (us := us) i
  have h2 : (([false, true].take j).filterMap fun b => (behF S us (i : Nat) b).map fun m => ((i, b), m)).length ≤ ([false, true].take j).length := List.length_filterMap_le ..
  rw [List.length_take] at h2
  have : [false, true].length = 2 := rfl
  omega
theorem bitesTo_two (S : HsD) (us : List (List Nat)) (i : Nat) : bitesTo S us i 2 = bitesTo S us (i + 1) 0 := by
  unfold bitesTo
  rw [List.range_succ, List.flatMap_append]
  simp [btAt]
theorem bitesTo_next {S : HsD} {us : List (List Nat)} {i j : Nat} {b : Bool} (h : [false, true][j]? = some b) : bitesTo S us i (j + 1) = match behF S us (i : Nat) b with
    | none => bitesTo S us i j
    | some m => bitesTo S us i j ++ [((i, b), m)] := by
  unfold bitesTo
  rw [take_more h, List.filterMap_append, ← List.append_assoc]
  cases e : behF S us (i : Nat) b with
  | none => simp [e]
  | some m => simp [e]
theorem bitesTo_all (S : HsD) (us : List (List Nat)) : bitesTo S us us.length 0 = bitesF S us := by
  unfold bitesTo bitesF
  simp
theorem behF_of {S : HsD} {us m : List (List Nat)} {place : Int} {b : Bool} (h : behF S us place b = some m) : ∃ (low : Nat) (x y : List Nat), us[low]? = some x ∧ us[low + 1]? = some y ∧ (if b = true then place else place - 1) = (low : Int) ∧ eatsF S b (if b = true then x else y) (if b = true then y else x) = true ∧ m = us.take low ++ madeF S b x y ++ us.drop (low + 2) ∧ m ≠ us := by
  unfold behF at h
  generalize (if b = true then place else place - 1) = q at h ⊢
  by_cases h0 : 0 ≤ q
  · rw [if_pos h0] at h
    unfold biteF at h
    cases e1 : us[q.toNat]? with
    | none => rw [e1] at h; cases h
    | some x =>
      cases e2 : us[q.toNat + 1]? with
      | none => rw [e1, e2] at h; cases h
      | some y =>
        rw [e1, e2] at h
        dsimp only at h
        by_cases h3 : eatsF S b (if b = true then x else y) (if b = true then y else x) = true
        · rw [if_pos h3] at h
          by_cases h4 : us.take q.toNat ++ madeF S b x y ++ us.drop (q.toNat + 2) = us
          · rw [if_pos h4] at h
            cases h
          · rw [if_neg h4] at h
            have e := Option.some.inj h
            exact ⟨q.toNat, x, y, e1, e2, by omega, h3, e.symm, fun z => h4 (by rw [e, z])⟩
        · rw [if_neg h3] at h
          cases h
  · rw [if_neg h0] at h
    cases h
theorem behF_words {S : HsD} (ok : HsOk S) {us m : List (List Nat)} {place : Int} {b : Bool} (hw : AllW S us) (h : behF S us place b = some m) : AllW S m ∧ m.length ≤ us.length + 8 := by
  obtain ⟨low, x, y, h1, h2, _, _, rfl, _⟩ := behF_of h
  have lx := hw.len ok x (List.mem_of_getElem? h1)
  have ly := hw.len ok y (List.mem_of_getElem? h2)
  have hl := (List.getElem?_eq_some_iff.mp h2).1
  have p2 := ok.p2
  have lg := growF_len S b (if b = true then x else y) (if b = true then y else x)
  have in1 : ∀ c ∈ (if b = true then x else y), c ∈ S.ls := by split <;> simp_all
  have in2 : ∀ c ∈ (if b = true then y else x), c ∈ S.ls := by split <;> simp_all
  have l1 : 1 ≤ (if b = true then x else y).length ∧ (if b = true then x else y).length ≤ 3 := by split <;> simp_all
  have l2 : (if b = true then y else x).length ≤ 3 := by split <;> simp_all
  have cw := cutW_words ok _ _ (Nat.le_refl _) (by rw [lg]; omega) (growF_in ok in1 in2)
  refine ⟨made_in ok hw hl cw.1, ?_⟩
  rw [List.length_append, List.length_append, List.length_take, List.length_drop]
  have e : (madeF S b x y).length ≤ (growF S b (if b = true then x else y) (if b = true then y else x)).length := cw.2
  omega
theorem y_rng {i : Nat} {H : Hp} {x : V} {H' : Hp} (h : YFn (fun i => V.int (0 + ((i : Nat) : Int))) i H x H') : H' = H ∧ x = .int (i : Nat) := ⟨h.1, by rw [h.2]; show V.int (0 + ((i : Nat) : Int)) = _; rw [Int.zero_add]⟩
theorem bitesF_in {S : HsD} {us : List (List Nat)} {x : Bt × List (List Nat)} : x ∈ bitesF S us ↔ x.1.1 < us.length ∧ behF S us (x.1.1 : Nat) x.1.2 = some x.2 := by
  obtain ⟨⟨i, b⟩, m⟩ := x
  unfold bitesF btAt
  rw [List.mem_flatMap]
  constructor
  · rintro ⟨k, hk, h⟩
    obtain ⟨b', _, h⟩ := List.mem_filterMap.mp h
    obtain ⟨m', h1, h2⟩ := Option.map_eq_some_iff.mp h
    cases h2
    exact ⟨List.mem_range.mp hk, h1⟩
  · rintro ⟨h1, h2⟩
    refine ⟨i, List.mem_range.mpr h1, List.mem_filterMap.mpr ⟨b, by cases b <;> simp, ?_⟩⟩
    dsimp only at h2 ⊢
    rw [h2]
    rfl
theorem dp_btI {H : Hp} {v : V} {x : Bt} (h : Dp K H v (dBt x)) : ∃ t, v = .ref t ∧ SqT K H t [.int (x.1 : Nat), .str (sdS x.2)] := by
  obtain ⟨t, a, b, e, h1, h2, h3⟩ := dp_tup2I h
  rw [dp_intI h2, dp_strI h3] at h1
  exact ⟨t, e, h1⟩
/-- an entry: a tuple of a bite and the row behind it, which is a list of its own -/
def BmAt (K : PySem.W.Frag) (H0 H : Hp) (v : V) (x : Bt × List (List Nat)) : Prop := ∃ t tb tr, v = .ref t ∧ SqT K H t [.ref tb, .ref tr] ∧ SqT K H tb [.int (x.1.1 : Nat), .str (sdS x.1.2)] ∧ H tr = some (.lst (tS x.2)) ∧ H0 tr = none
theorem BmAt.sm {H0 H H' : Hp} {v : V} {x : Bt × List (List Nat)} (s : Same H H') (h : BmAt K H0 H v x) : BmAt K H0 H' v x := by
  obtain ⟨t, tb, tr, e, h1, h2, h3, h4⟩ := h
  exact ⟨t, tb, tr, e, sm_t s h1, sm_t s h2, s _ _ h3, h4⟩
theorem BmAt.dp {H0 H : Hp} {v : V} {x : Bt × List (List Nat)} (h : BmAt K H0 H v x) : Dp K H v (dBM x) := by
  obtain ⟨t, tb, tr, rfl, h1, h2, h3, _⟩ := h
  exact .tup h1 (.cons (.tup h2 (.cons (.int _) (.cons (.str _) .nil))) (.cons (.lst (sq_l h3) (dp_tS _)) .nil))
def BmAll (K : PySem.W.Frag) (H0 H : Hp) : List V → List (Bt × List (List Nat)) → Prop
  | [], [] => True
  | v :: vs, x :: xs => BmAt K H0 H v x ∧ BmAll K H0 H vs xs
  | _, _ => False
theorem BmAll.sm {H0 H H' : Hp} (s : Same H H') : ∀ {vs : List V} {xs : List (Bt × List (List Nat))}, BmAll K H0 H vs xs → BmAll K H0 H' vs xs
  | [], [], _ => trivial
  | v :: vs, x :: xs, h => ⟨h.1.sm s, BmAll.sm s h.2⟩
  | [], x :: xs, h => h.elim
  | v :: vs, [], h => h.elim
theorem BmAll.dp {H0 H : Hp} : ∀ {vs : List V} {xs : List (Bt × List (List Nat))}, BmAll K H0 H vs xs → DpAll K H vs (xs.map dBM)
  | [], [], _ => .nil
  | v :: vs, x :: xs, h => .cons h.1.dp (BmAll.dp h.2)
  | [], x :: xs, h => h.elim
  | v :: vs, [], h => h.elim
theorem BmAll.app {H0 H : Hp} {w : V} {y : Bt × List (List Nat)} (hy : BmAt K H0 H w y) : ∀ {vs : List V} {xs : List (Bt × List (List Nat))}, BmAll K H0 H vs xs → BmAll K H0 H (vs ++ [w]) (xs ++ [y])
  | [], [], _ => ⟨hy, trivial⟩
  | v :: vs, x :: xs, h => ⟨h.1, BmAll.app hy h.2⟩
  | [], x :: xs, h => h.elim
  | v :: vs, [], h => h.elim
theorem BmAll.get {H0 H : Hp} : ∀ {vs : List V} {xs : List (Bt × List (List Nat))} {i : Nat} {v : V}, BmAll K H0 H vs xs → vs[i]? = some v → ∃ x, xs[i]? = some x ∧ BmAt K H0 H v x
  | [], [], i, v, _, e => by simp at e
  | w :: vs, x :: xs, 0, v, h, e => by
    simp at e
    subst e
    exact ⟨x, rfl, h.1⟩
  | w :: vs, x :: xs, i + 1, v, h, e => by
    obtain ⟨y, h1, h2⟩ := BmAll.get h.2 (i := i) (by simpa using e)
    exact ⟨y, by simpa using h1, h2⟩
  | [], x :: xs, _, _, h, _ => h.elim
  | v :: vs, [], _, _, h, _ => h.elim
theorem BmAll.len {H0 H : Hp} : ∀ {vs : List V} {xs : List (Bt × List (List Nat))}, BmAll K H0 H vs xs → vs.length = xs.length
  | [], [], _ => rfl
  | v :: vs, x :: xs, h => by rw [List.length_cons, List.length_cons, BmAll.len h.2]
  | [], x :: xs, h => h.elim
  | v :: vs, [], h => h.elim
def spBitesOf (K : PySem.W.Frag) : Sp := fun vs H Q _ => ∃ (a r : Addr) (S : HsD) (us : List (List Nat)), vs = [.ref a, .ref r] ∧ HsAt K H a S ∧ HsOk S ∧ SqL K H r (tS us) ∧ AllW S us ∧ us.length ≤ 10000 ∧ ∀ p ws H', H p = none → Same H H' → H' p = some (.lst ws) → BmAll K H H' ws (bitesF S us) → Q (.ref p) H'
theorem ok_bites_of (F : FnP K "bites_of" s_bites_of f fd) (hm : mg "bites_of" = some (.ref f)) (f_len : mg "len" = none) (f_range : mg "range" = none) (c_behind : Callee P w K mg base CX0 "behind" 3 [] (spBehind K)) : Callee P w K mg base CX0 "bites_of" 4 [] (spBitesOf K) := by
  refine ⟨f, fd, _, [], F.ok sc_bites_of (fun vs H Q E h => ?hl) (fun cdv A outer s H vs Q E hr h => ⟨_, PSs.nox (pss_cons (ps_set (i := 2) sc_bites_of.nd rfl (by first | exact Or.inl rfl | exact Or.inr rfl) (pe_lst pa_nil))
      (pss_cons (ps_for PassesOwn.never rfl (pi_range1 (by rfl) f_range (pa_cons (pe_callB (call_lenK K) (by rfl) f_len PySem.boot_len (pa_cons (pv 1) pa_nil)) pa_nil)) (pg_name (i := 3) sc_bites_of.nd rfl (by first | exact Or.inl rfl | exact Or.inr rfl)) (pss_one (ps_for PassesOwn.never rfl (pi_tupK K (pe_tup (pa_cons pe_str (pa_cons pe_str pa_nil)))) (pg_name (i := 4) sc_bites_of.nd rfl (by first | exact Or.inl rfl | exact Or.inr rfl)) (pss_cons (ps_set (i := 5) sc_bites_of.nd rfl (by first | exact Or.inl rfl | exact Or.inr rfl) (pe_cl c_behind hr (pa_cons (pv 0) (pa_cons (pv 1) (pa_cons (pv 3) (pa_cons (pv 4) pa_nil)))) pass0))
      (pss_one (ps_if (pt_cmpR op_notN1 (pv 5) pe_non (nomark _)) (pss_one (ps_expr (pe_bmK K PySem.F.plainAttrs_list PySem.F.slot_list_append PySem.F.type_list_append mt_append (pv 2) (pa_cons (pe_tup (pa_cons (pe_tup (pa_cons (pv 3) (pa_cons (pv 4) pa_nil))) (pa_cons (pv 5) pa_nil))) pa_nil)))) pss_nil))))))
      (pss_one (ps_ret (pv 2))))), ?rd⟩), hm, F.kp, F.bindsN fun _ _ _ _ _ _ us hl => match us, hl with | [_, _], _ => rfl, .nil⟩
  case hl =>
    obtain ⟨a, r, S, us, rfl, _⟩ := h
    rfl
  case rd =>
    obtain ⟨a, r, S, us, rfl, hs, ok, hx, hw, lu, q⟩ := h
    refine k_start (σ' := [some _, some _, none, none, none, none]) rfl ?_
    have lx := len_tS us
    walk_at "g"
    refine k_nLst (by walk_at "sz") (fun p1 H1 n1 s1 e1 => ?_)
    walk_at "g"
    rw [lx]
    walk_at "g"
    have fin : ∀ (H' : Hp) (ws : List V), Same H H' → H' p1 = some (.lst ws) → BmAll K H (del H' p1) ws (bitesTo S us us.length 0) → Q (.ref p1) H' := fun H' ws s e d => q p1 ws H' n1 s e (by rw [bitesTo_all] at d; exact d.sm sm_del)
    refine k_nFor walk_range (fun i σ H' => (∃ y3 y4 y5 ws, σ = [some (.ref a), some (.ref r), some (.ref p1), y3, y4, y5] ∧ H' p1 = some (.lst ws) ∧ BmAll K H (del H' p1) ws (bitesTo S us i 0)) ∧ Same H H') ⟨⟨_, _, _, [], rfl, e1, trivial⟩, s1⟩ (fun _ _ _ _ _ => trivial) (fun i x σ Ha Hb hi h hy => ?ht) (fun σ H' h => ?he)
    case he =>
      obtain ⟨⟨y3, y4, y5, ws, rfl, ea, da⟩, sa⟩ := h
      walk_at "g"
      exact fin _ ws sa ea (by simpa using da)
    case ht =>
      obtain ⟨⟨y3, y4, y5, ws, rfl, ea, da⟩, sa⟩ := h
      obtain ⟨rfl, rfl⟩ := y_rng hy
      walk_at "g"
      refine k_nTup (by walk_at "sz") (fun p2 H2 n2 s2 e2 => ?_)
      walk_at "g"
      have n2H : H p2 = none := sa.free n2
      refine k_nFor (walk_tup (xs := [V.str (Str.ofString "left"), V.str (Str.ofString "right")])) (fun j σ H' => (∃ y4 y5 ws, σ = [some (.ref a), some (.ref r), some (.ref p1), some (.int (i : Nat)), y4, y5] ∧ H' p1 = some (.lst ws) ∧ BmAll K H (del H' p1) ws (bitesTo S us i j)) ∧ (Same H H' ∧ H' p2 = some (.tup [V.str (Str.ofString "left"), V.str (Str.ofString "right")]))) ⟨⟨_, _, ws, rfl, s2 _ _ ea, da.sm (del_mono s2)⟩, sa.trans s2, e2⟩ (fun j σ H' _ h => sq_t h.2.2) (fun j x σ Hc Hd hj h hy => ?ht2) (fun σ H' h => ?he2)
      case he2 =>
        obtain ⟨⟨y4, y5, ws, rfl, ea, da⟩, sa, _⟩ := h
        exact ⟨⟨_, _, _, ws, rfl, ea, by rw [← bitesTo_two]; exact da⟩, sa⟩
      case ht2 =>
        obtain ⟨⟨y4, y5, ws, rfl, ea, da⟩, sa, et⟩ := h
        obtain ⟨rfl, hv⟩ := hy
        obtain ⟨b, hb, rfl⟩ : ∃ b, [false, true][j]? = some b ∧ x = .str (sdS b) := by
          have : j = 0 ∨ j = 1 := by
            have : j < 2 := hj
            omega
          rcases this with rfl | rfl <;> cases hv
          · exact ⟨false, rfl, rfl⟩
          · exact ⟨true, rfl, rfl⟩
        walk_at "g"
        refine ⟨a, r, S, us, (i : Nat), sdS b, rfl, hs.sm sa, ok, sm_l sa hx, hw, lu, fun v H3 s3 hv3 => ?_⟩
        rw [behS_sd] at hv3
        have hn := bitesTo_next (S := S) (us := us) (i := i) hb
        have ea3 := s3 _ _ ea
        have et3 := s3 _ _ et
        have da3 := da.sm (del_mono (p := p1) s3)
        cases eb : behF S us (i : Nat) b with
        | none =>
          rw [eb] at hv3 hn
          cases (show v = .non from hv3)
          walk_at "g"
          exact ⟨⟨_, _, ws, rfl, ea3, by rw [hn]; exact da3⟩, sa.trans s3, et3⟩
        | some m =>
          rw [eb] at hv3 hn
          obtain ⟨pm, rfl, nm, em⟩ := hv3
          walk_at "g"
          refine k_nTup (by walk_at "sz") (fun p4 H4 n4 s4 e4 => ?_)
          walk_at "g"
          refine k_nTup (by walk_at "sz") (fun p5 H5 n5 s5 e5 => ?_)
          have s35 := s4.trans s5
          have ea5 := s35 _ _ ea3
          walk_at "g"
          have bl := bitesTo_len S us i j
          have lw := da.len
          refine k_append ea5 (by have : i < us.length := by omega
                                  omega) ?_
          walk_at "g"
          have da5 := da3.sm (del_mono (p := p1) s35)
          have npm : pm ≠ p1 := fun z => by rw [z, ea] at nm; cases nm
          have dnew : BmAt K H (del H5 p1) (.ref p5) ((i, b), m) := ⟨p5, p4, pm, rfl, del_t ea5 (sq_t e5), del_t ea5 (sq_t (s5 _ _ e4)), (by rw [del_ne npm]; exact s35 _ _ em), sa.free nm⟩
          refine ⟨⟨_, _, ws ++ [.ref p5], rfl, upd_same, ?_⟩, sm_mut (sa.trans (s3.trans s35)) n1, ?_⟩
          · rw [del_upd, hn]
            exact da5.app dnew
          · rw [upd_ne (ne_of (s35 _ _ et3) ea5 (fun z => by cases z))]
            exact s35 _ _ et3
theorem sm_sep {H0 H : Hp} {p : Addr} (hp : H0 p = none) (s : Same H0 H) : Same H0 (del H p) := fun b u h => by
  rw [del_ne (ne_of_none h hp)]
  exact s b u h
theorem badAt_none {S : HsD} (ok : HsOk S) {us : List (List Nat)} (h : badAt S us = none) : AllW S us ∧ us.length ≤ 12 := by
  unfold badAt at h
  split at h
  · cases h
  · rename_i hf
    split at h
    · cases h
    · rename_i hl
      unfold firstBad at hf
      rw [List.findIdx?_eq_none_iff] at hf
      rw [List.take_of_length_le (by omega)] at hf
      exact ⟨fun u hu => word_isW ok (by have := hf u hu; simpa using this), by omega⟩
/-! ### one bite done -/
/-! ### an end -/
theorem good_bt (x : Bt) (h : x.1 ≤ 100000) (j : Nat) : Good (j + 2) (dBt x) := ⟨by show 2 ≤ 50000; decide, fun e he => by
  rcases List.mem_cons.mp he with rfl | he
  · exact log_nat (by omega)
  rcases List.mem_cons.mp he with rfl | he
  · refine ⟨?_, ?_⟩ <;> cases x.2 <;> first | exact pl_B (by decide +kernel) | decide +kernel
  cases he⟩
theorem good_bts {S : HsD} {us : List (List Nat)} (lu : us.length ≤ 10000) (j : Nat) : Good (j + 3) (.list ((bitesF S us).map dB1)) := ⟨by
  rw [List.length_map]
  have := flat_len (S := S) (us := us) us.length
  unfold bitesF
  omega, fun e he => by
  obtain ⟨x, hx, rfl⟩ := List.mem_map.mp he
  exact good_bt _ (by have := (bitesF_in.mp hx).1; omega) j⟩
theorem good_bms {S : HsD} (ok : HsOk S) {us : List (List Nat)} (hw : AllW S us) (lu : us.length ≤ 10000) : Good 5 (.list ((bitesF S us).map dBM)) := ⟨by
  rw [List.length_map]
  have := flat_len (S := S) (us := us) us.length
  unfold bitesF
  omega, fun e he => by
  obtain ⟨x, hx, rfl⟩ := List.mem_map.mp he
  obtain ⟨h1, h2⟩ := bitesF_in.mp hx
  obtain ⟨h3, h4⟩ := behF_words ok hw h2
  refine ⟨by show 2 ≤ 50000; decide, fun e he => ?_⟩
  rcases List.mem_cons.mp he with rfl | he
  · exact good_bt _ (by omega) 1
  rcases List.mem_cons.mp he with rfl | he
  · exact good_allW ok h3 (by omega) 1
  cases he⟩
/-- bites_of(..) == [] -/
theorem k_bmNil {S : HsD} (ok : HsOk S) {us : List (List Nat)} {H : Hp} {Q : VK} {p b : Addr} {ws : List V} (hw : AllW S us) (lu : us.length ≤ 10000) (h1 : SqL K H p ws) (d1 : DpAll K H ws ((bitesF S us).map dBM)) (h2 : SqL K H b []) (h : Q (.bl (decide (bitesF S us = []))) H) : rEqU K (.ref p) (.ref b) H Q := by
  refine k_eq_d (.lst h1 d1) (.lst h2 .nil) ((good_bms ok hw lu).shaped (by decide)) (by decide) ?_
  rw [eqv_nil, show decide ((bitesF S us).map dBM = []) = decide (bitesF S us = []) by cases bitesF S us <;> rfl]
  exact h
/-! ### bites one behind the other -/
/-! ### kinds -/
end
end Lw
set_option autoImplicit true
set_option pp.maxSteps 1200
set_option Elab.async false
set_option linter.all false
set_option maxRecDepth 100000
set_option maxHeartbeats 1000000
namespace Lw
open PySem PySem.Spec PyProof.Rows L2 Gk

local macro_rules | `(tactic| walk_at "hp") => `(tactic| first | assumption | exact upd_same | (refine' (upd_ne ?n).trans ?h; (case n => assumption); (case h => walk_at "hp")) | (refine' sm_get ?s ?h; (case s => assumption); (case h => walk_at "hp")))
local macro_rules | `(tactic| walk_at "sq") => `(tactic| first | assumption | (refine' sq_l ?h; (case h => walk_at "hp")) | (refine' sm_l ?s ?h; (case s => assumption); (case h => walk_at "sq")))
local macro_rules | `(tactic| walk_at "st") => `(tactic| first | assumption | (refine' sq_t ?h; (case h => walk_at "hp")) | (refine' sm_t ?s ?h; (case s => assumption); (case h => walk_at "st")))
local macro_rules | `(tactic| walk_at "bg") => `(tactic| first | assumption | (refine' BagOk.sm ?s ?h; (case s => assumption); (case h => walk_at "bg")))
local macro_rules | `(tactic| walk_at "sm") => `(tactic| first | assumption | exact Same.refl _ | (refine' Same.trans ?h ?s; (case s => assumption); (case h => walk_at "sm")))
local macro_rules | `(tactic| walk_at "hs") => `(tactic| first | assumption | (refine' HsAt.sm ?s ?h; (case s => assumption); (case h => walk_at "hs")))
local macro_rules | `(tactic| walk_at "ms") => `(tactic| first | assumption | (refine' MAt.sm ?s ?h; (case s => assumption); (case h => walk_at "ms")))
local macro_rules | `(tactic| walk_at "dp") => `(tactic| first | assumption | (refine' dp_sm ?s ?h; (case s => assumption); (case h => walk_at "dp")))
local macro_rules | `(tactic| walk_at "sz") => `(tactic| first | decide | assumption | omega | (simp only [List.length_cons, List.length_nil, List.length_map, List.length_append]; omega))
local macro_rules | `(tactic| walk_at "g1") => `(tactic| first
  | with_reducible refine k_seq ?_
  | with_reducible refine k_itB ?_
  | with_reducible refine k_next ?_
  | with_reducible refine k_asg ?_
  | with_reducible refine k_name ?_
  | with_reducible refine k_ret ?_
  | with_reducible refine k_retN ?_
  | with_reducible refine k_drop ?_
  | with_reducible refine k_ifs ?_
  | with_reducible refine k_brk ?_
  | with_reducible refine k_cont ?_
  | with_reducible refine k_ipI ?_
  | with_reducible refine k_test ?_
  | with_reducible refine k_tB ?_
  | with_reducible refine k_bl ?_
  | with_reducible refine k_not ?_
  | with_reducible refine k_and ?_
  | with_reducible refine k_or ?_
  | with_reducible refine k_yes ?_
  | with_reducible refine k_true ?_
  | with_reducible refine k_false ?_
  | with_reducible refine k_nt ?_
  | with_reducible refine k_c ?_
  | with_reducible refine k_op ?_
  | with_reducible refine k_un ?_
  | with_reducible refine k_if ?_
  | with_reducible refine k_chain ?_
  | with_reducible refine k_nil ?_
  | with_reducible refine k_cons ?_
  | with_reducible refine k_cb ?_
  | with_reducible refine k_call ?_
  | with_reducible refine k_callS ?_
  | with_reducible refine k_andV ?_
  | with_reducible refine k_orV ?_
  | with_reducible refine k_notV ?_
  | with_reducible refine k_lst ?_
  | with_reducible refine k_tup ?_
  | with_reducible refine k_nopart ?_
  | with_reducible refine k_part ?_
  | with_reducible refine k_nInt ?_
  | with_reducible refine k_sl ?_
  | with_reducible refine k_bm ?_
  | with_reducible refine k_bm0 ?_
  | with_reducible refine k_nTyS ?_
  | with_reducible refine k_m1 ?_
  | with_reducible refine k_m0 ?_
  | with_reducible refine k_nStr ?_
  | with_reducible refine k_I0 ?_
  | with_reducible refine k_U ?_
  | with_reducible refine k_add_i ?_
  | with_reducible refine k_eq_i ?_
  | with_reducible refine k_eq_s ?_
  | with_reducible refine k_eq_b ?_
  | with_reducible refine k_ne_i ?_
  | with_reducible refine k_ne_s ?_
  | with_reducible refine k_ne_b ?_
  | with_reducible refine k_le_i ?_
  | with_reducible refine k_le_s ?_
  | with_reducible refine k_gnil ?_
  | with_reducible refine k_gcons ?_
  | with_reducible refine k_gsub ?_
  | with_reducible refine k_for ?_
  | with_reducible refine k_lc ?_
  | with_reducible refine k_rng1 ?_
  | with_reducible refine k_rng2 ?_
  | with_reducible refine k_itl ?_
  | with_reducible refine k_itt ?_
  | with_reducible refine k_its ?_
  | with_reducible refine k_ite ?_
  | with_reducible refine k_iteB ?_
  | with_reducible refine k_lrg2 ?_
  | with_reducible refine k_itz ?_
  | with_reducible refine k_nIts ?_
  | with_reducible refine k_inS ?_
  | with_reducible refine k_niS ?_
  | with_reducible refine k_mk ?_
  | with_reducible refine k_meth ?_
  | with_reducible refine k_fld ?_
  | with_reducible refine k_sfld ?_
  | with_reducible refine k_dg ?_
  | with_reducible refine k_dp ?_
  | with_reducible refine k_pr ?_
  | with_reducible refine k_pr0 ?_
  | with_reducible refine k_sg ?_
  | with_reducible refine k_lc2 ?_
  | with_reducible refine k_callN ?_
  | with_reducible refine k_callNS ?_
  | with_reducible refine k_par ?_
  | with_reducible refine k_nPar ?_
  | with_reducible refine k_isNn ?_
  | with_reducible refine k_isNr ?_
  | with_reducible refine k_ntNn ?_
  | with_reducible refine k_ntNr ?_
  | with_reducible refine k_min2 ?_
  | with_reducible refine k_max2 ?_
  | with_reducible refine k_intB ?_
  | with_reducible refine k_intI ?_
  | with_reducible refine k_isBl ?_
  | with_reducible refine k_ntBl ?_
  | ((with_reducible refine' k_var ?kv ?_); (case kv => exact rfl))
  | ((with_reducible refine' k_aug ?kv ?_); (case kv => exact rfl))
  | ((with_reducible refine' k_ix_l ?ks ?ki ?_); (case ks => walk_at "sq"); (case ki => exact rfl))
  | ((with_reducible refine' k_ix_t ?ks ?ki ?_); (case ks => walk_at "st"); (case ki => exact rfl))
  | ((with_reducible refine' k_len_l ?ks ?_); (case ks => walk_at "sq"))
  | ((with_reducible refine' k_len_t ?ks ?_); (case ks => walk_at "st"))
  | ((with_reducible refine' k_setL ?ks ?ki ?_); (case ks => walk_at "hp"); (case ki => exact rfl))
  | ((with_reducible refine' k_nTyL ?ks ?_); (case ks => walk_at "sq"))
  | ((with_reducible refine' k_nItl ?ks ?_); (case ks => walk_at "sq"))
  | ((with_reducible refine' k_nItt ?ks ?_); (case ks => walk_at "st"))
  | ((with_reducible refine' k_nIte ?ks ?_); (case ks => walk_at "sq"))
  | ((with_reducible refine' k_mul ?km ?_); (case km => first | exact Or.inr ⟨by decide, by decide⟩ | exact Or.inl ⟨by decide, by decide⟩))
  | ((with_reducible refine' k_I ?km ?_); (case km => first | assumption | decide | exact ⟨by decide, by decide +kernel⟩ | exact ⟨by decide, by decide, by decide⟩))
  | ((with_reducible refine' k_nMeth ?kp ?kl ?_); (case kp => walk_at "hp"); (case kl => exact rfl))
  | ((with_reducible refine' k_nFld ?kp ?kc ?kn ?kl ?_); (case kp => walk_at "hp"); (case kc => assumption); (case kn => assumption); (case kl => exact rfl))
  | ((with_reducible refine' k_nSFld ?kp ?kc ?kn ?kl ?_); (case kp => walk_at "hp"); (case kc => assumption); (case kn => assumption); (case kl => exact of_decide_eq_true rfl))
  | ((with_reducible refine' k_nDg ?kp ?kl ?_); (case kp => walk_at "hp"); (case kl => exact rfl))
  | ((with_reducible refine' k_nRng1 ?k1 ?k2 ?_); (case k1 => omega); (case k2 => omega))
  | ((with_reducible refine' k_nKw ?k1 ?k2 ?_); (case k1 => exact rfl); (case k2 => exact rfl))
  | ((with_reducible refine' k_hsm ?kh ?_); (case kh => walk_at "hs"))
  | ((with_reducible refine' k_nMethH ?kh ?kl ?_); (case kh => walk_at "hs"); (case kl => exact fun _ _ => rfl))
  | ((with_reducible refine' k_mLet ?kh ?_); (case kh => walk_at "ms"))
  | ((with_reducible refine' k_mChew ?kh ?_); (case kh => walk_at "ms"))
  | ((with_reducible refine' k_mPut ?kh ?_); (case kh => walk_at "ms"))
  | ((with_reducible refine' k_mMost ?kh ?_); (case kh => walk_at "ms"))
  | ((with_reducible refine' k_mCut ?kh ?_); (case kh => walk_at "ms"))
  | ((with_reducible refine' k_gtup ?ks ?kl ?_); (case ks => walk_at "st"); (case kl => exact rfl)))
local macro_rules | `(tactic| walk_at "g") => `(tactic| repeat (walk_at "g1"))
local macro_rules | `(tactic| walk_at "w1") => `(tactic| first
  | walk_at "g1"
  | ((with_reducible refine' k_decT ?kp ?_); (case kp => omega))
  | ((with_reducible refine' k_decF ?kp ?_); (case kp => omega))
  | ((with_reducible refine' k_decNT ?kp ?_); (case kp => omega))
  | ((with_reducible refine' k_decNF ?kp ?_); (case kp => omega)))
local macro_rules | `(tactic| walk_at "w") => `(tactic| repeat (walk_at "w1"))

local macro_rules | `(tactic| walk_at "g1") => `(tactic| first
  | with_reducible refine k_mkP ?_
  | with_reducible refine k_din ?_
  | with_reducible refine k_dni ?_
  | with_reducible refine k_sortF ?_
  | with_reducible refine k_sortL ?_
  | with_reducible refine k_itk ?_
  | with_reducible refine k_revL ?_)


section
variable {P : Program} {w : World} {K : PySem.W.Frag} {mg : Str → Option Value} {base : Heap} {f : Addr} {fd : FuncData}
/-! ### rows that came so far -/
/-- a row handed in: a list, or a tuple made here -/
def RowB (K : PySem.W.Frag) (tq : Bool) (H : Hp) (r : Addr) (us : List (List Nat)) : Prop := match tq with
  | false => SqL K H r (tS us)
  | true => H r = some (.tup (tS us))
theorem RowB.sm {tq : Bool} {H H' : Hp} {r : Addr} {us : List (List Nat)} (s : Same H H') (h : RowB K tq H r us) : RowB K tq H' r us := match tq, h with
  | false, h => sm_l s h
  | true, h => s _ _ h
theorem RowB.sq {tq : Bool} {H : Hp} {r : Addr} {us : List (List Nat)} (h : RowB K tq H r us) : SqB K tq H r (tS us) := match tq, h with
  | false, h => h
  | true, h => sq_t h
theorem k_tup_B {tq : Bool} {H : Hp} {Q : VK} {a : Addr} {us : List (List Nat)} (hx : RowB K tq H a us) (h : ∀ p H2, Same H H2 → H2 p = some (.tup (tS us)) → Q (.ref p) H2) : rTupU K [.ref a] H Q := match tq, hx with
  | false, hx => k_tup_l hx fun p H2 _ s e => h p H2 s e
  | true, hx => k_tup_t (sq_t hx) (h a H (Same.refl _) hx)
/-- a row as a key -/
def rk (us : List (List Nat)) : List Key := us.map fun u => .inr (tx u)
theorem rk_kV (us : List (List Nat)) : (rk us).map kV = tS us := by
  unfold rk tS
  rw [List.map_map]
  rfl
/-- a row that came: the row, its depth, the row ahead of it with the bite -/
structure Came where
  row : List (List Nat)
  dep : Nat
  from_ : Option (List (List Nat) × Bt)
  deriving DecidableEq
abbrev KE_ (H : Hp) : List Addr → List (List (List Nat)) → Prop := Paired fun t us => H t = some (.tup (tS us))
/-! ### one depth further, in plain Lean -/
/-- what one bite of one row adds: (all that came, the fresh rows) -/
def addB (here : List (List Nat)) (dep : Nat) (st : List Came × List (List (List Nat))) (x : Bt × List (List Nat)) : List Came × List (List (List Nat)) :=
  if st.1.any fun r => decide (r.row = x.2) then st else (st.1 ++ [⟨x.2, dep + 1, some (here, x.1)⟩], st.2 ++ [x.2])
def depOf (rs : List Came) (us : List (List Nat)) : Nat := ((rs.find? fun r => decide (r.row = us)).map (·.dep)).getD 0
/-- what one row of the edge adds -/
def addR (S : HsD) (st : List Came × List (List (List Nat))) (here : List (List Nat)) : List Came × List (List (List Nat)) :=
  (bitesF S here).foldl (addB here (depOf st.1 here)) st
theorem rk_inj {us vs : List (List Nat)} (h : rk us = rk vs) : us = vs := by
  unfold rk at h
  exact (List.map_inj_right (fun a b e => tx_inj (by injection e))).mp h
theorem addB_len (here : List (List Nat)) (dep : Nat) (st : List Came × List (List (List Nat))) (x : Bt × List (List Nat)) : st.1.length ≤ (addB here dep st x).1.length ∧ st.2.length + (addB here dep st x).1.length = (addB here dep st x).2.length + st.1.length := by
  unfold addB
  split
  · exact ⟨Nat.le_refl _, Nat.add_comm .. ▸ rfl⟩
  · constructor
    · show _ ≤ (st.1 ++ [_]).length
      rw [List.length_append]
      omega
    · show st.2.length + (st.1 ++ [_]).length = (st.2 ++ [_]).length + _
      rw [List.length_append, List.length_append]
      show _ + (_ + 1) = _ + 1 + _
      omega
theorem addB_fold (here : List (List Nat)) (dep : Nat) : ∀ (xs : List (Bt × List (List Nat))) (st : List Came × List (List (List Nat))), st.1.length ≤ (xs.foldl (addB here dep) st).1.length ∧ st.2.length + (xs.foldl (addB here dep) st).1.length = (xs.foldl (addB here dep) st).2.length + st.1.length
  | [], st => ⟨Nat.le_refl _, Nat.add_comm .. ▸ rfl⟩
  | x :: xs, st => by
    obtain ⟨h1, h2⟩ := addB_len here dep st x
    obtain ⟨h3, h4⟩ := addB_fold here dep xs (addB here dep st x)
    rw [List.foldl_cons]
    exact ⟨Nat.le_trans h1 h3, by omega⟩
/-! ### writing dicts and lists leaves the tuples -/
structure NoTup (o : HO) : Prop where
  t : ∀ xs, o ≠ .tup xs
  f : ∀ x y, o ≠ .frz x y
theorem noTup_dT (kvs : List (List Key × V)) : NoTup (.dT kvs) := ⟨(fun _ z => nomatch z), (fun _ _ z => nomatch z)⟩
theorem noTup_lst (xs : List V) : NoTup (.lst xs) := ⟨(fun _ z => nomatch z), (fun _ _ z => nomatch z)⟩
section
variable {H : Hp} {a : Addr} {o o' : HO}
theorem tup_upd (ha : H a = some o') (n : NoTup o') {b : Addr} {xs : List V} (h : H b = some (.tup xs)) : (upd H a o) b = some (.tup xs) := by
  rw [upd_ne (fun z => by rw [z, ha] at h; exact n.t _ (Option.some.inj h))]
  exact h
theorem sqt_upd (ha : H a = some o') (n : NoTup o') {b : Addr} {xs : List V} (h : SqT K H b xs) : SqT K (upd H a o) b xs := by
  rcases h with (h | ⟨x, h⟩) | h
  · exact .inl (.inl (tup_upd ha n h))
  · refine .inl (.inr ⟨x, ?_⟩)
    rw [upd_ne (fun z => by rw [z, ha] at h; exact n.f _ _ (Option.some.inj h))]
    exact h
  · exact .inr h
theorem ke_upd (ha : H a = some o') (n : NoTup o') : ∀ {es : List Addr} {ed : List (List (List Nat))}, KE_ H es ed → KE_ (upd H a o) es ed
  | _, _, .nil => .nil
  | _, _, .cons h t => .cons (tup_upd ha n h) (ke_upd ha n t)
theorem ke_sm {H' : Hp} (s : Same H H') : ∀ {es : List Addr} {ed : List (List (List Nat))}, KE_ H es ed → KE_ H' es ed
  | _, _, .nil => .nil
  | _, _, .cons h t => .cons (s _ _ h) (ke_sm s t)
end
abbrev kdV (rs : List Came) : List (List Key × V) := rs.map fun r => (rk r.row, V.int (r.dep : Nat))
theorem kd_val {us : List (List Nat)} : ∀ {rs : List Came}, (rs.any fun r => decide (r.row = us)) = true → valV (kdV rs) (rk us) = some (.int (depOf rs us : Nat))
  | r :: rs, h => by
    unfold depOf
    by_cases e : r.row = us
    · rw [List.find?_cons, decide_eq_true e, kdV, List.map_cons, e, valV_pos rfl]
      rfl
    · rw [List.any_cons, decide_eq_false e, Bool.false_or] at h
      rw [List.find?_cons, decide_eq_false e, kdV, List.map_cons, valV_neg (fun z => e (rk_inj z))]
      exact kd_val h
theorem kd_none {us : List (List Nat)} : ∀ {rs : List Came}, (rs.any fun r => decide (r.row = us)) = false → valV (kdV rs) (rk us) = none
  | [], _ => rfl
  | r :: rs, h => by
    rw [List.any_cons, Bool.or_eq_false_iff] at h
    rw [kdV, List.map_cons, valV_neg (fun z => of_decide_eq_false h.1 (rk_inj z))]
    exact kd_none h.2
/-! ### what goes on while a depth is gone through -/
theorem depOf_app {us : List (List Nat)} {rs ex : List Came} (h : (rs.any fun r => decide (r.row = us)) = true) : depOf (rs ++ ex) us = depOf rs us := by
  unfold depOf
  rw [List.find?_append]
  cases e : rs.find? fun r => decide (r.row = us) with
  | some r => rfl
  | none =>
    obtain ⟨r, hr, hp⟩ := List.any_eq_true.mp h
    exact absurd hp (List.find?_eq_none.mp e r hr)
theorem addB_pre (here : List (List Nat)) (dep : Nat) (st : List Came × List (List (List Nat))) (x : Bt × List (List Nat)) : ∃ ex, (addB here dep st x).1 = st.1 ++ ex := by
  unfold addB
  split
  · exact ⟨[], (List.append_nil _).symm⟩
  · exact ⟨_, rfl⟩
theorem addB_pref (here : List (List Nat)) (dep : Nat) : ∀ (xs : List (Bt × List (List Nat))) (st : List Came × List (List (List Nat))), ∃ ex, (xs.foldl (addB here dep) st).1 = st.1 ++ ex
  | [], st => ⟨[], (List.append_nil _).symm⟩
  | x :: xs, st => by
    obtain ⟨e1, h1⟩ := addB_pre here dep st x
    obtain ⟨e2, h2⟩ := addB_pref here dep xs (addB here dep st x)
    exact ⟨e1 ++ e2, by rw [List.foldl_cons, h2, h1, List.append_assoc]⟩
theorem any_app {rs ex : List Came} {us : List (List Nat)} (h : (rs.any fun r => decide (r.row = us)) = true) : ((rs ++ ex).any fun r => decide (r.row = us)) = true := by
  rw [List.any_append, h, Bool.true_or]
theorem ke_len {H : Hp} : ∀ {es : List Addr} {ed : List (List (List Nat))}, KE_ H es ed → es.length = ed.length
  | _, _, .nil => rfl
  | _, _, .cons _ t => by rw [List.length_cons, List.length_cons, ke_len t]
theorem ke_app {H : Hp} {t : Addr} {u : List (List Nat)} (ht : H t = some (.tup (tS u))) : ∀ {es : List Addr} {ed : List (List (List Nat))}, KE_ H es ed → KE_ H (es ++ [t]) (ed ++ [u])
  | _, _, .nil => .cons ht .nil
  | _, _, .cons h t => .cons h (ke_app ht t)
theorem ke_get {H : Hp} : ∀ {es : List Addr} {ed : List (List (List Nat))} {i : Nat} {t : Addr}, KE_ H es ed → es[i]? = some t → ∃ u, ed[i]? = some u ∧ H t = some (.tup (tS u))
  | _, _, _, _, .nil, h => by simp at h
  | _, _, 0, t, .cons h _, e => by
    simp at e
    subst e
    exact ⟨_, rfl, h⟩
  | _, _, i + 1, t, .cons _ q, e => by
    obtain ⟨u, h1, h2⟩ := ke_get (i := i) (t := t) q (by simpa using e)
    exact ⟨u, by simpa using h1, h2⟩
end
end Lw
set_option autoImplicit true
set_option pp.maxSteps 1200
set_option Elab.async false
set_option linter.all false
set_option maxRecDepth 100000
set_option maxHeartbeats 1000000
namespace Lw
open PySem PySem.Spec PyProof.Rows L2 Gk

local macro_rules | `(tactic| walk_at "hp") => `(tactic| first | assumption | exact upd_same | (refine' (upd_ne ?n).trans ?h; (case n => assumption); (case h => walk_at "hp")) | (refine' sm_get ?s ?h; (case s => assumption); (case h => walk_at "hp")))
local macro_rules | `(tactic| walk_at "sq") => `(tactic| first | assumption | (refine' sq_l ?h; (case h => walk_at "hp")) | (refine' sm_l ?s ?h; (case s => assumption); (case h => walk_at "sq")))
local macro_rules | `(tactic| walk_at "st") => `(tactic| first | assumption | (refine' sq_t ?h; (case h => walk_at "hp")) | (refine' sm_t ?s ?h; (case s => assumption); (case h => walk_at "st")))
local macro_rules | `(tactic| walk_at "bg") => `(tactic| first | assumption | (refine' BagOk.sm ?s ?h; (case s => assumption); (case h => walk_at "bg")))
local macro_rules | `(tactic| walk_at "sm") => `(tactic| first | assumption | exact Same.refl _ | (refine' Same.trans ?h ?s; (case s => assumption); (case h => walk_at "sm")))
local macro_rules | `(tactic| walk_at "hs") => `(tactic| first | assumption | (refine' HsAt.sm ?s ?h; (case s => assumption); (case h => walk_at "hs")))
local macro_rules | `(tactic| walk_at "ms") => `(tactic| first | assumption | (refine' MAt.sm ?s ?h; (case s => assumption); (case h => walk_at "ms")))
local macro_rules | `(tactic| walk_at "dp") => `(tactic| first | assumption | (refine' dp_sm ?s ?h; (case s => assumption); (case h => walk_at "dp")))
local macro_rules | `(tactic| walk_at "sz") => `(tactic| first | decide | assumption | omega | (simp only [List.length_cons, List.length_nil, List.length_map, List.length_append]; omega))
local macro_rules | `(tactic| walk_at "g1") => `(tactic| first
  | with_reducible refine k_seq ?_
  | with_reducible refine k_itB ?_
  | with_reducible refine k_next ?_
  | with_reducible refine k_asg ?_
  | with_reducible refine k_name ?_
  | with_reducible refine k_ret ?_
  | with_reducible refine k_retN ?_
  | with_reducible refine k_drop ?_
  | with_reducible refine k_ifs ?_
  | with_reducible refine k_brk ?_
  | with_reducible refine k_cont ?_
  | with_reducible refine k_ipI ?_
  | with_reducible refine k_test ?_
  | with_reducible refine k_tB ?_
  | with_reducible refine k_bl ?_
  | with_reducible refine k_not ?_
  | with_reducible refine k_and ?_
  | with_reducible refine k_or ?_
  | with_reducible refine k_yes ?_
  | with_reducible refine k_true ?_
  | with_reducible refine k_false ?_
  | with_reducible refine k_nt ?_
  | with_reducible refine k_c ?_
  | with_reducible refine k_op ?_
  | with_reducible refine k_un ?_
  | with_reducible refine k_if ?_
  | with_reducible refine k_chain ?_
  | with_reducible refine k_nil ?_
  | with_reducible refine k_cons ?_
  | with_reducible refine k_cb ?_
  | with_reducible refine k_call ?_
  | with_reducible refine k_callS ?_
  | with_reducible refine k_andV ?_
  | with_reducible refine k_orV ?_
  | with_reducible refine k_notV ?_
  | with_reducible refine k_lst ?_
  | with_reducible refine k_tup ?_
  | with_reducible refine k_nopart ?_
  | with_reducible refine k_part ?_
  | with_reducible refine k_nInt ?_
  | with_reducible refine k_sl ?_
  | with_reducible refine k_bm ?_
  | with_reducible refine k_bm0 ?_
  | with_reducible refine k_nTyS ?_
  | with_reducible refine k_m1 ?_
  | with_reducible refine k_m0 ?_
  | with_reducible refine k_nStr ?_
  | with_reducible refine k_I0 ?_
  | with_reducible refine k_U ?_
  | with_reducible refine k_add_i ?_
  | with_reducible refine k_eq_i ?_
  | with_reducible refine k_eq_s ?_
  | with_reducible refine k_eq_b ?_
  | with_reducible refine k_ne_i ?_
  | with_reducible refine k_ne_s ?_
  | with_reducible refine k_ne_b ?_
  | with_reducible refine k_le_i ?_
  | with_reducible refine k_le_s ?_
  | with_reducible refine k_gnil ?_
  | with_reducible refine k_gcons ?_
  | with_reducible refine k_gsub ?_
  | with_reducible refine k_for ?_
  | with_reducible refine k_lc ?_
  | with_reducible refine k_rng1 ?_
  | with_reducible refine k_rng2 ?_
  | with_reducible refine k_itl ?_
  | with_reducible refine k_itt ?_
  | with_reducible refine k_its ?_
  | with_reducible refine k_ite ?_
  | with_reducible refine k_iteB ?_
  | with_reducible refine k_lrg2 ?_
  | with_reducible refine k_itz ?_
  | with_reducible refine k_nIts ?_
  | with_reducible refine k_inS ?_
  | with_reducible refine k_niS ?_
  | with_reducible refine k_mk ?_
  | with_reducible refine k_meth ?_
  | with_reducible refine k_fld ?_
  | with_reducible refine k_sfld ?_
  | with_reducible refine k_dg ?_
  | with_reducible refine k_dp ?_
  | with_reducible refine k_pr ?_
  | with_reducible refine k_pr0 ?_
  | with_reducible refine k_sg ?_
  | with_reducible refine k_lc2 ?_
  | with_reducible refine k_callN ?_
  | with_reducible refine k_callNS ?_
  | with_reducible refine k_par ?_
  | with_reducible refine k_nPar ?_
  | with_reducible refine k_isNn ?_
  | with_reducible refine k_isNr ?_
  | with_reducible refine k_ntNn ?_
  | with_reducible refine k_ntNr ?_
  | with_reducible refine k_min2 ?_
  | with_reducible refine k_max2 ?_
  | with_reducible refine k_intB ?_
  | with_reducible refine k_intI ?_
  | with_reducible refine k_isBl ?_
  | with_reducible refine k_ntBl ?_
  | ((with_reducible refine' k_var ?kv ?_); (case kv => exact rfl))
  | ((with_reducible refine' k_aug ?kv ?_); (case kv => exact rfl))
  | ((with_reducible refine' k_ix_l ?ks ?ki ?_); (case ks => walk_at "sq"); (case ki => exact rfl))
  | ((with_reducible refine' k_ix_t ?ks ?ki ?_); (case ks => walk_at "st"); (case ki => exact rfl))
  | ((with_reducible refine' k_len_l ?ks ?_); (case ks => walk_at "sq"))
  | ((with_reducible refine' k_len_t ?ks ?_); (case ks => walk_at "st"))
  | ((with_reducible refine' k_setL ?ks ?ki ?_); (case ks => walk_at "hp"); (case ki => exact rfl))
  | ((with_reducible refine' k_nTyL ?ks ?_); (case ks => walk_at "sq"))
  | ((with_reducible refine' k_nItl ?ks ?_); (case ks => walk_at "sq"))
  | ((with_reducible refine' k_nItt ?ks ?_); (case ks => walk_at "st"))
  | ((with_reducible refine' k_nIte ?ks ?_); (case ks => walk_at "sq"))
  | ((with_reducible refine' k_mul ?km ?_); (case km => first | exact Or.inr ⟨by decide, by decide⟩ | exact Or.inl ⟨by decide, by decide⟩))
  | ((with_reducible refine' k_I ?km ?_); (case km => first | assumption | decide | exact ⟨by decide, by decide +kernel⟩ | exact ⟨by decide, by decide, by decide⟩))
  | ((with_reducible refine' k_nMeth ?kp ?kl ?_); (case kp => walk_at "hp"); (case kl => exact rfl))
  | ((with_reducible refine' k_nFld ?kp ?kc ?kn ?kl ?_); (case kp => walk_at "hp"); (case kc => assumption); (case kn => assumption); (case kl => exact rfl))
  | ((with_reducible refine' k_nSFld ?kp ?kc ?kn ?kl ?_); (case kp => walk_at "hp"); (case kc => assumption); (case kn => assumption); (case kl => exact of_decide_eq_true rfl))
  | ((with_reducible refine' k_nDg ?kp ?kl ?_); (case kp => walk_at "hp"); (case kl => exact rfl))
  | ((with_reducible refine' k_nRng1 ?k1 ?k2 ?_); (case k1 => omega); (case k2 => omega))
  | ((with_reducible refine' k_nKw ?k1 ?k2 ?_); (case k1 => exact rfl); (case k2 => exact rfl))
  | ((with_reducible refine' k_hsm ?kh ?_); (case kh => walk_at "hs"))
  | ((with_reducible refine' k_nMethH ?kh ?kl ?_); (case kh => walk_at "hs"); (case kl => exact fun _ _ => rfl))
  | ((with_reducible refine' k_mLet ?kh ?_); (case kh => walk_at "ms"))
  | ((with_reducible refine' k_mChew ?kh ?_); (case kh => walk_at "ms"))
  | ((with_reducible refine' k_mPut ?kh ?_); (case kh => walk_at "ms"))
  | ((with_reducible refine' k_mMost ?kh ?_); (case kh => walk_at "ms"))
  | ((with_reducible refine' k_mCut ?kh ?_); (case kh => walk_at "ms"))
  | ((with_reducible refine' k_gtup ?ks ?kl ?_); (case ks => walk_at "st"); (case kl => exact rfl)))
local macro_rules | `(tactic| walk_at "g") => `(tactic| repeat (walk_at "g1"))
local macro_rules | `(tactic| walk_at "w1") => `(tactic| first
  | walk_at "g1"
  | ((with_reducible refine' k_decT ?kp ?_); (case kp => omega))
  | ((with_reducible refine' k_decF ?kp ?_); (case kp => omega))
  | ((with_reducible refine' k_decNT ?kp ?_); (case kp => omega))
  | ((with_reducible refine' k_decNF ?kp ?_); (case kp => omega)))
local macro_rules | `(tactic| walk_at "w") => `(tactic| repeat (walk_at "w1"))


section
variable {P : Program} {w : World} {K : PySem.W.Frag} {mg : Str → Option Value} {base : Heap} {f : Addr} {fd : FuncData}
/-! ### what wishes are -/
def isNumD : PyData → Bool
  | .int i => decide (0 ≤ i)
  | _ => false
def strsD : List PyData → List (List Nat)
  | [] => []
  | .str z :: r => TL.tl z :: strsD r
  | _ :: r => strsD r
def isRowD (S : HsD) : PyData → Bool
  | .list ds => ds.all isStrD && (badAt S (strsD ds)).isNone
  | .tuple ds => ds.all isStrD && (badAt S (strsD ds)).isNone
  | _ => false
abbrev formsV : List (Str × Int) := [("row", 1), ("word", 1), ("words", 1), ("letters", 1), ("end", 0)]
def isWishD (S : HsD) (z : Str) (ds : List PyData) : Bool :=
  (match formsV.lookup z with
    | some n => decide ((ds.length : Int) = n)
    | none => false) &&
  (if z = Str.ofString "row" then (match ds with
    | d :: _ => isRowD S d
    | [] => false)
  else if z = Str.ofString "word" then (match ds with
    | .str x :: _ => isW S x
    | _ => false)
  else if z = Str.ofString "end" then true
  else (match ds with
    | d :: _ => isNumD d
    | [] => false))
/-- data that the doors take: texts not too long, rows not too long, no truth values -/
def Small : PyData → Prop
  | .str z => z.length ≤ 1000
  | .int _ => True
  | .list ds => ds.length ≤ 1000 ∧ ∀ d ∈ ds, ∀ z, d = .str z → z.length ≤ 1000
  | .tuple ds => ds.length ≤ 1000 ∧ ∀ d ∈ ds, ∀ z, d = .str z → z.length ≤ 1000
  | .none => True
  | _ => False
theorem strsD_vs {H : Hp} : ∀ {vs : List V} {ds : List PyData}, DpAll K H vs ds → ds.all isStrD = true → vs = tS (strsD ds) ∧ (strsD ds).length = ds.length
  | _, _, .nil, _ => ⟨rfl, rfl⟩
  | _, _, .cons (d := d) h r, ha => by
    rw [List.all_cons, Bool.and_eq_true] at ha
    obtain ⟨i1, i2⟩ := strsD_vs r ha.2
    cases h with
    | str z =>
      refine ⟨?_, ?_⟩
      · rw [i1]
        show _ = V.str (tx (TL.tl z)) :: tS _
        rw [tx_tl z]
      · show (strsD _).length + 1 = _
        rw [i2]
        rfl
    | _ => cases ha.1
theorem strsD_len {ds : List PyData} (h : ∀ d ∈ ds, ∀ z, d = .str z → z.length ≤ 1000) : ∀ u ∈ strsD ds, u.length ≤ 1000 := by
  induction ds with
  | nil => exact fun u hu => (nomatch hu)
  | cons d r ih =>
    have i := ih fun e he => h e (List.mem_cons_of_mem _ he)
    intro u hu
    cases d with
    | str z =>
      rcases List.mem_cons.mp hu with rfl | hu
      · exact h (.str z) (List.mem_cons_self ..) z rfl
      · exact i u hu
    | _ => exact i u hu
def spIsNumber (K : PySem.W.Frag) : Sp := fun vs H Q _ => ∃ (v : V) (d : PyData), vs = [v] ∧ Dp K H v d ∧ (∀ b, d ≠ .bool b) ∧ Q (.bl (isNumD d)) H
theorem ok_is_number (F : FnP K "is_number" s_is_number f fd) (hm : mg "is_number" = some (.ref f)) (f_isinstance : mg "isinstance" = none) (f_int : mg "int" = none) (f_bool : mg "bool" = none) : Callee P w K mg base CX0 "is_number" 1 [] (spIsNumber K) := by
  refine ⟨f, fd, _, [], F.ok sc_is_number (fun vs H Q E h => ?hl) (fun cdv A outer s H vs Q E hr h => ⟨_, PSs.nox (pss_one (ps_ret (pe_and (pe_callB (call_isiK K) (by rfl) f_isinstance (by decide +kernel) (pa_cons (pv 0) (pa_cons (pe_bltn (v := .ty "int") (by rfl) f_int (by decide +kernel) rfl) pa_nil))) (pe_and (pe_not (pe_callB (call_isiK K) (by rfl) f_isinstance (by decide +kernel) (pa_cons (pv 0) (pa_cons (pe_bltn (v := .ty "bool") (by rfl) f_bool (by decide +kernel) rfl) pa_nil)))) (pe_one (pe_cmpR op_ge (pv 0) pe_int (nomark _))))))), ?rd⟩), hm, F.kp, F.bindsN fun _ _ _ _ _ _ us hl => match us, hl with | [_], _ => rfl, .nil⟩
  case hl =>
    obtain ⟨v, d, rfl, _⟩ := h
    rfl
  case rd =>
    obtain ⟨v, d, rfl, hd, nb, q⟩ := h
    refine k_start (σ' := [some _]) rfl ?_
    walk_at "g"
    refine k_isiI hd ?_
    cases hd with
    | int i =>
      rw [show isIntD (.int i) = true from rfl]
      walk_at "g"
      refine k_isiBl (.int i) ?_
      rw [show isBlD (.int i) = false from rfl]
      walk_at "g"
      exact q
    | bl b => exact absurd rfl (nb b)
    | non =>
      rw [show isIntD .none = false from rfl]
      walk_at "g"
      exact q
    | str z =>
      rw [show isIntD (.str z) = false from rfl]
      walk_at "g"
      exact q
    | lst h1 h2 =>
      rw [show isIntD (.list _) = false from rfl]
      walk_at "g"
      exact q
    | tup h1 h2 =>
      rw [show isIntD (.tuple _) = false from rfl]
      walk_at "g"
      exact q
def spIsRow (K : PySem.W.Frag) : Sp := fun vs H Q _ => ∃ (a : Addr) (S : HsD) (v : V) (d : PyData), vs = [.ref a, v] ∧ HsAt K H a S ∧ Dp K H v d ∧ Small d ∧ ∀ H', Same H H' → Q (.bl (isRowD S d)) H'
theorem ok_is_row (F : FnP K "is_row" s_is_row f fd) (hm : mg "is_row" = some (.ref f)) (f_isinstance : mg "isinstance" = none) (f_all : mg "all" = none) (f_list : mg "list" = none) (f_tuple : mg "tuple" = none) (f_str : mg "str" = none) (xm_BadWord_BadWord : PySem.W.exmOne K (.ref (He.ga K "BadWord")) (.ref (He.ga K "BadWord")) = some true) (c_BadWord : XCls P w K mg base "BadWord" 1 "BadWord" "at") (c_need_row : Callee P w K mg base (L2.CX P w) "need_row" 3 [] (spNeedRow K)) : Callee P w K mg base CX0 "is_row" 4 [] (spIsRow K) := by
  refine ⟨f, fd, _, [], F.ok sc_is_row (fun vs H Q E h => ?hl) (fun cdv A outer s H vs Q E hr h => ⟨_, PSs.nox (pss_cons (ps_if (PW.pt (pw_or (pt_not (pt_val (pe_callB (call_isiK K) (by rfl) f_isinstance (by decide +kernel) (pa_cons (pv 1) (pa_cons (pe_tup (pa_cons (pe_bltn (v := .ty "list") (by rfl) f_list (by decide +kernel) rfl) (pa_cons (pe_bltn (v := .ty "tuple") (by rfl) f_tuple (by decide +kernel) rfl) pa_nil))) pa_nil))))) (pw_or1 (pt_not (pt_val (pe_callB (cr_allK K) (by rfl) f_all (by decide +kernel) (pa_cons (pe_lc (own := [("word", 2)]) rfl sc_is_row.nd (pi_anyK K (pv 1)) (blkOk_by (N := ["house", "thing", "word"]) (sc := defScope s_is_row) (by decide +kernel)) (fun _ _ _ _ _ => (pg_name (i := 2) sc_is_row.nd rfl (by first | exact Or.inl rfl | exact Or.inr rfl))) (fun _ _ _ _ _ => pts_nil) (fun _ _ _ _ _ => (pe_callB (call_isiK K) (by rfl) f_isinstance (by decide +kernel) (pa_cons (pv 2) (pa_cons (pe_bltn (v := .ty "str") (by rfl) f_str (by decide +kernel) rfl) pa_nil))))) pa_nil))))))) (pss_one (ps_ret pe_bl)) pss_nil)
      (Evl.pss_cut (ps_try_only (Wout := fun _ _ _ _ => False) rfl rfl ⟨by rfl, by decide, Or.inl c_BadWord.gC⟩ takes0
      (fun W pn xe tk po => (pss_one (ps_expr (pe_clS c_need_row hr (pa_cons (pv 0) (pa_cons (pv 1) pa_nil)) (fun σ => passAt tk σ)))))
      (fun a oe cls d pn hz hf => (pss_one (ps_ret pe_bl))))
      (pss_one (ps_ret pe_bl)))), ?rd⟩), hm, F.kp, F.bindsN fun _ _ _ _ _ _ us hl => match us, hl with | [_, _], _ => rfl, .nil⟩
  case hl =>
    obtain ⟨a, S, v, d, rfl, _⟩ := h
    rfl
  case rd =>
    obtain ⟨a, S, v, d, rfl, hs, hd, sm, q⟩ := h
    refine k_start (σ' := [some _, some _, none]) rfl ?_
    walk_at "g"
    refine k_nTup (by walk_at "sz") (fun p1 H1 n1 s1 e1 => ?_)
    walk_at "g"
    refine k_isiLT (dp_sm s1 hd) e1 ?_
    cases es : isSeqD d with
    | false =>
      walk_at "g"
      have := q _ s1
      rw [show isRowD S d = false by cases d <;> first | rfl | cases es] at this
      exact this
    | true =>
      obtain ⟨t, r, ws, ds, rfl, hx, hds, er, l1, l2⟩ : ∃ (t : Bool) (r : Addr) (ws : List V) (ds : List PyData), v = .ref r ∧ SqB K t H r ws ∧ DpAll K H ws ds ∧ isRowD S d = (ds.all isStrD && (badAt S (strsD ds)).isNone) ∧ ds.length ≤ 1000 ∧ ∀ d ∈ ds, ∀ z, d = .str z → z.length ≤ 1000 := by
        cases hd with
        | lst h1 h2 => exact ⟨false, _, _, _, rfl, h1, h2, rfl, sm.1, sm.2⟩
        | tup h1 h2 => exact ⟨true, _, _, _, rfl, h1, h2, rfl, sm.1, sm.2⟩
        | _ => cases es
      have lw := dpall_len hds
      walk_at "g"
      refine k_nItB (sm_b s1 hx) ?_
      refine k_nLc (walk_listB (xs := ws)) (fun H' s => sm_b s (sm_b s1 hx)) (fun i us => us = (ds.take i).map fun d => V.bl (isStrD d)) rfl (fun i us hi hw => ?hz) (fun i x Hc Hd us Kp Ks hi sa hus hy hKp hKs => ?ht) (fun p H2 us np sp ep hus => ?he)
      case hz =>
        rw [hw, List.length_map, List.length_take]
        omega
      case ht =>
        obtain ⟨rfl, hv⟩ := hy
        obtain ⟨d0, h0, hd0⟩ := dpall_get hds hv
        walk_at "g"
        refine ⟨rfl, ?_⟩
        walk_at "g"
        refine k_isiS (dp_sm (s1.trans sa) hd0) ?_
        exact hKp _ _ (Same.refl _) (by rw [hus, take_more h0, List.map_append]; rfl)
      case he =>
        rw [lw, List.take_length] at hus
        walk_at "g"
        refine k_all (bs := ds.map isStrD) (sq_l (by rw [ep, hus, List.map_map]; rfl)) ?_
        rw [show (ds.map isStrD).all id = ds.all isStrD by rw [List.all_map]; rfl]
        have s2 := s1.trans sp
        cases ea : ds.all isStrD with
        | false =>
          walk_at "g"
          have := q _ s2
          rw [er, ea] at this
          exact this
        | true =>
          obtain ⟨ev, el⟩ := strsD_vs hds ea
          rw [ea, Bool.true_and] at er
          walk_at "g"
          with_reducible refine k_cut (fun σ' H' => (∃ y, σ' = [some (.ref a), some (.ref r), y]) ∧ Same H H' ∧ isRowD S d = true) ?_ (fun σ' H' hq => ?_)
          · walk_at "g"
            refine ⟨a, r, S, strsD ds, t, rfl, hs.sm s2, by rw [← ev]; exact sm_b s2 hx, by omega, strsD_len l2, fun hb H' s' => ?_, fun n hb dd H' nd sd ed => ?_⟩
            · exact ⟨⟨_, rfl⟩, s2.trans s', by rw [er, hb]; rfl⟩
            · refine ⟨true, xm_BadWord_BadWord, fun _ a0 h0 => ?_, fun q => Bool.noConfusion q⟩
              walk_at "g"
              have := q _ (s2.trans sd)
              rw [er, hb] at this
              exact this
          · obtain ⟨⟨y, rfl⟩, sq, hq⟩ := hq
            walk_at "g"
            rw [hq] at q
            exact q _ sq
theorem lookup_mem {z : Str} {n : Int} : ∀ {kvs : List (Str × Int)}, kvs.lookup z = some n → (z, n) ∈ kvs
  | (k, j) :: kvs, e => by
    rw [List.lookup_cons] at e
    cases hb : z == k with
    | true =>
      rw [hb] at e
      have e2 : j = n := Option.some.inj e
      rw [eq_of_beq hb, e2]
      exact List.mem_cons_self ..
    | false =>
      rw [hb] at e
      exact List.mem_cons_of_mem _ (lookup_mem e)
theorem forms_cases {z : Str} {n : Int} (h : formsV.lookup z = some n) : ((z = Str.ofString "row" ∨ z = Str.ofString "word" ∨ z = Str.ofString "words" ∨ z = Str.ofString "letters") ∧ n = 1) ∨ (z = Str.ofString "end" ∧ n = 0) := by
  have h := lookup_mem h
  rcases List.mem_cons.mp h with e | h
  · cases e; exact .inl ⟨.inl rfl, rfl⟩
  rcases List.mem_cons.mp h with e | h
  · cases e; exact .inl ⟨.inr (.inl rfl), rfl⟩
  rcases List.mem_cons.mp h with e | h
  · cases e; exact .inl ⟨.inr (.inr (.inl rfl)), rfl⟩
  rcases List.mem_cons.mp h with e | h
  · cases e; exact .inl ⟨.inr (.inr (.inr rfl)), rfl⟩
  rcases List.mem_cons.mp h with e | h
  · cases e; exact .inr ⟨rfl, rfl⟩
  cases h
theorem wish_no1 {S : HsD} {z : Str} {ds : List PyData} (h : formsV.lookup z = none) : isWishD S z ds = false := by
  unfold isWishD
  rw [h]
  rfl
theorem wish_no2 {S : HsD} {z : Str} {ds : List PyData} {n : Int} (h : formsV.lookup z = some n) (hn : ¬ (ds.length : Int) = n) : isWishD S z ds = false := by
  unfold isWishD
  rw [h]
  show (decide ((ds.length : Int) = n) && _) = false
  rw [decide_eq_false hn]
  rfl
theorem wish_row {S : HsD} {d : PyData} : isWishD S (Str.ofString "row") [d] = isRowD S d := by
  unfold isWishD
  rw [if_pos rfl]
  rfl
theorem wish_word {S : HsD} {d : PyData} : isWishD S (Str.ofString "word") [d] = (match d with
    | .str x => isW S x
    | _ => false) := by
  unfold isWishD
  rw [if_neg (by decide +kernel), if_pos rfl]
  cases d <;> rfl
theorem wish_end {S : HsD} : isWishD S (Str.ofString "end") [] = true := by
  unfold isWishD
  rw [if_neg (by decide +kernel), if_neg (by decide +kernel), if_pos rfl]
  rfl
theorem wish_num {S : HsD} {z : Str} {d : PyData} (hz : z = Str.ofString "words" ∨ z = Str.ofString "letters") : isWishD S z [d] = isNumD d := by
  unfold isWishD
  rcases hz with rfl | rfl
  · rw [if_neg (by decide +kernel), if_neg (by decide +kernel), if_neg (by decide +kernel)]
    rfl
  · rw [if_neg (by decide +kernel), if_neg (by decide +kernel), if_neg (by decide +kernel)]
    rfl
def spIsWish (K : PySem.W.Frag) : Sp := fun vs H Q _ => ∃ (a t : Addr) (S : HsD) (z : Str) (ws : List V) (ds : List PyData), vs = [.ref a, .ref t] ∧ HsAt K H a S ∧ SqT K H t (.str z :: ws) ∧ DpAll K H ws ds ∧ ds.length ≤ 100 ∧ (∀ d ∈ ds, Small d) ∧ ∀ H', Same H H' → Q (.bl (isWishD S z ds)) H'
theorem ok_is_wish (F : FnP K "is_wish" s_is_wish f fd) (hm : mg "is_wish" = some (.ref f)) (f_isinstance : mg "isinstance" = none) (f_len : mg "len" = none) (f_str : mg "str" = none) (c_FORMS : GloD K w mg "FORMS" formsV) (c_is_number : Callee P w K mg base CX0 "is_number" 1 [] (spIsNumber K)) (c_is_row : Callee P w K mg base CX0 "is_row" 4 [] (spIsRow K)) (c_is_word : Callee P w K mg base CX0 "is_word" 2 [] (spIsWord K)) : Callee P w K mg base CX0 "is_wish" 5 [] (spIsWish K) := by
  refine ⟨f, fd, _, [], F.ok sc_is_wish (fun vs H Q E h => ?hl) (fun cdv A outer s H vs Q E hr h => ⟨_, PSs.nox (pss_cons (ps_asg (pv 1) (pg_star1 K (pgs_cons (pg_name (i := 2) sc_is_wish.nd rfl (by first | exact Or.inl rfl | exact Or.inr rfl)) (pgs_cons (pg_name (i := 3) sc_is_wish.nd rfl (by first | exact Or.inl rfl | exact Or.inr rfl)) pgs_nil)) (by rfl)))
      (pss_cons (ps_if (PW.pt (pw_or (pt_cmpR (op_niG c_FORMS) (pv 2) (pe_gr c_FORMS.g) (by rfl)) (pw_or1 (pt_cmpR (op_neK K hr.units) (pe_callB (call_lenK K) (by rfl) f_len PySem.boot_len (pa_cons (pv 3) pa_nil)) (pe_ix (ix_G c_FORMS) (pe_gr c_FORMS.g) (pv 2) (fun _ _ => rfl)) (nomark _))))) (pss_one (ps_ret pe_bl)) pss_nil)
      (pss_cons (ps_if (pt_cmpR (op_eqK K hr.units) (pv 2) pe_str (nomark _)) (pss_one (ps_ret (pe_cl c_is_row hr (pa_cons (pv 0) (pa_cons (pe_ix (ix_k K) (pv 3) pe_int (fun _ _ => rfl)) pa_nil)) pass0))) pss_nil)
      (pss_cons (ps_if (pt_cmpR (op_eqK K hr.units) (pv 2) pe_str (nomark _)) (pss_one (ps_ret (pe_and (pe_callB (call_isiK K) (by rfl) f_isinstance (by decide +kernel) (pa_cons (pe_ix (ix_k K) (pv 3) pe_int (fun _ _ => rfl)) (pa_cons (pe_bltn (v := .ty "str") (by rfl) f_str (by decide +kernel) rfl) pa_nil))) (pe_one (pe_cl c_is_word hr (pa_cons (pv 0) (pa_cons (pe_ix (ix_k K) (pv 3) pe_int (fun _ _ => rfl)) pa_nil)) pass0))))) pss_nil)
      (pss_one (ps_ret (pe_or (pe_cmpR (op_eqK K hr.units) (pv 2) pe_str (nomark _)) (pe_one (pe_cl c_is_number hr (pa_cons (pe_ix (ix_k K) (pv 3) pe_int (fun _ _ => rfl)) pa_nil) pass0))))))))), ?rd⟩), hm, F.kp, F.bindsN fun _ _ _ _ _ _ us hl => match us, hl with | [_, _], _ => rfl, .nil⟩
  case hl =>
    obtain ⟨a, t, S, z, ws, ds, rfl, _⟩ := h
    rfl
  case rd =>
    obtain ⟨a, t, S, z, ws, ds, rfl, hs, ht, hds, ld, sm, q⟩ := h
    refine k_start (σ' := [some _, some _, none, none]) rfl ?_
    have lw := dpall_len hds
    walk_at "g"
    refine k_star1 ht (by omega) (fun p H1 n1 s1 e1 => ?_)
    walk_at "g"
    refine k_inG ?_
    cases ef : formsV.lookup z with
    | none =>
      walk_at "g"
      refine (show nIte true _ _ from ?_)
      walk_at "g"
      have := q _ s1
      rw [wish_no1 ef] at this
      exact this
    | some n =>
      walk_at "g"
      refine (show nIte false _ _ from ?_)
      walk_at "g"
      refine k_ixG ef ?_
      walk_at "g"
      rw [lw]
      refine k_dec (fun dn => ?_) (fun dn => ?_)
      rotate_left
      · walk_at "g"
        have := q _ s1
        rw [wish_no2 ef dn] at this
        exact this
      have hd1 := dpall_sm s1 hds
      have hs1 := hs.sm s1
      walk_at "g"
      rcases forms_cases ef with ⟨hz, rfl⟩ | ⟨rfl, rfl⟩
      · obtain ⟨d, rfl⟩ : ∃ d, ds = [d] := by
          match ds, dn with
          | [d], _ => exact ⟨d, rfl⟩
          | d :: d' :: r, h =>
            rw [List.length_cons, List.length_cons] at h
            omega
        obtain ⟨v, rfl, hv⟩ : ∃ v, ws = [v] ∧ Dp K H1 v d := by
          cases hd1 with
          | cons h r =>
            cases r
            exact ⟨_, rfl, h⟩
        have sd := sm d (List.mem_singleton.mpr rfl)
        rcases hz with rfl | rfl | hz
        · refine k_dec (fun d1 => ?_) (fun d1 => absurd rfl d1)
          walk_at "g"
          refine ⟨a, S, v, d, rfl, hs1, hv, sd, fun H2 s2 => ?_⟩
          have := q _ (s1.trans s2)
          rw [wish_row] at this
          exact this
        · refine k_dec (fun d1 => absurd d1 (by decide +kernel)) (fun d1 => ?_)
          walk_at "g"
          refine k_dec (fun d1 => ?_) (fun d1 => absurd rfl d1)
          walk_at "g"
          refine k_isiS hv ?_
          rw [wish_word] at q
          cases hv with
          | str x =>
            rw [show isStrD (.str x) = true from rfl]
            walk_at "g"
            exact ⟨a, S, x, rfl, hs1, sd, fun H2 s2 => q _ (s1.trans s2)⟩
          | non =>
            rw [show isStrD .none = false from rfl]
            walk_at "g"
            exact q _ s1
          | int i =>
            rw [show isStrD (.int i) = false from rfl]
            walk_at "g"
            exact q _ s1
          | bl i =>
            rw [show isStrD (.bool i) = false from rfl]
            walk_at "g"
            exact q _ s1
          | lst h1 h2 =>
            rw [show isStrD (.list _) = false from rfl]
            walk_at "g"
            exact q _ s1
          | tup h1 h2 =>
            rw [show isStrD (.tuple _) = false from rfl]
            walk_at "g"
            exact q _ s1
        · have z1 : z ≠ Str.ofString "row" := by rcases hz with rfl | rfl <;> decide +kernel
          have z2 : z ≠ Str.ofString "word" := by rcases hz with rfl | rfl <;> decide +kernel
          have z3 : z ≠ Str.ofString "end" := by rcases hz with rfl | rfl <;> decide +kernel
          rw [wish_num hz] at q
          refine k_dec (fun d1 => absurd d1 z1) (fun d1 => ?_)
          walk_at "g"
          refine k_dec (fun d1 => absurd d1 z2) (fun d1 => ?_)
          walk_at "g"
          rw [decide_eq_false z3]
          walk_at "g"
          refine ⟨v, d, rfl, hv, fun b e => ?_, q _ s1⟩
          rw [e] at sd
          exact sd
      · obtain rfl : ds = [] := List.eq_nil_of_length_eq_zero (by omega)
        rw [wish_end] at q
        refine k_dec (fun d1 => absurd d1 (by decide +kernel)) (fun d1 => ?_)
        walk_at "g"
        refine k_dec (fun d1 => absurd d1 (by decide +kernel)) (fun d1 => ?_)
        walk_at "g"
        rw [decide_eq_true rfl]
        walk_at "g"
        exact q _ s1

theorem made_BadWish (F : FunD K "__init__" "BadWish.__init__" (defArgs s_BadWish_init) (defBody s_BadWish_init) (defScope s_BadWish_init) [] [] (He.ma K (He.ga K "BadWish") "__init__") fd) (gC : mg "BadWish" = some (.ref (He.ga K "BadWish"))) (O : Oex K (He.ga K "BadWish") (He.ma K (He.ga K "BadWish") "__init__"))
    (nw : PySem.W.findIn K (.ref (He.ga K "BadWish")) "word" = some none) : XCls0 P w K mg base "BadWish" 1 "BadWish" := by
  refine ⟨gC, O, nw, fd, ["self"], F.ok sc_BadWish_init (fun vs H Q E h => ?_) (fun cdv A outer s H vs Q E hr h => ⟨_, PSs.nox (pss_one (ps_ost (pv 0) pe_str)), x0_read O.T nw h rfl⟩), F.bindsN fun _ _ _ _ _ _ us hl => match us, hl with | [_], _ => rfl⟩
  obtain ⟨a, rfl, _⟩ := h
  rfl

def spNeedWish (K : PySem.W.Frag) : Sp := fun vs H Q E => ∃ (a t : Addr) (S : HsD) (z : Str) (ws : List V) (ds : List PyData), vs = [.ref a, .ref t] ∧ HsAt K H a S ∧ SqT K H t (.str z :: ws) ∧ DpAll K H ws ds ∧ ds.length ≤ 100 ∧ (∀ d ∈ ds, Small d) ∧
  (isWishD S z ds = true → ∀ H', Same H H' → Q .non H') ∧ (isWishD S z ds = false → ∀ d H', H d = none → Same H H' → H' d = some (.xd [("word", .str "BadWish")]) → E (.ref (He.ga K "BadWish")) (some d) H')
theorem ok_need_wish (F : FnP K "need_wish" s_need_wish f fd) (hm : mg "need_wish" = some (.ref f)) (c_is_wish : Callee P w K mg base CX0 "is_wish" 5 [] (spIsWish K)) (c_BadWish : XCls0 P w K mg base "BadWish" 1 "BadWish") : Callee P w K mg base (L2.CX P w) "need_wish" 6 [] (spNeedWish K) := by
  refine ⟨f, fd, _, [], F.ok sc_need_wish (fun vs H Q E h => ?hl) (fun cdv A outer s H vs Q E hr h => ⟨_, (pss_one (ps_if (pt_not (pt_val (pe_cl c_is_wish hr (pa_cons (pv 0) (pa_cons (pv 1) pa_nil)) pass0))) (pss_one (ps_raise rfl (takes_of rfl rfl rfl rfl) (pmk_x0 c_BadWish hr))) pss_nil)), ?rd⟩), hm, F.kp, F.bindsN fun _ _ _ _ _ _ us hl => match us, hl with | [_, _], _ => rfl, .nil⟩
  case hl =>
    obtain ⟨a, t, S, z, ws, ds, rfl, _⟩ := h
    rfl
  case rd =>
    obtain ⟨a, t, S, z, ws, ds, rfl, hs, ht, hds, ld, sm, q1, q2⟩ := h
    refine k_start (σ' := [some _, some _]) rfl ?_
    walk_at "g"
    refine ⟨a, t, S, z, ws, ds, rfl, hs, ht, hds, ld, sm, fun H1 s1 => ?_⟩
    cases e : isWishD S z ds with
    | true =>
      walk_at "g"
      exact q1 e _ s1
    | false =>
      walk_at "g"
      exact k_x0 fun d H' nd sd ed => q2 e d H' (s1.free nd) (s1.trans sd) ed
theorem sum_cast2 : ∀ ns : List Nat, (ns.map fun n => ((n : Nat) : Int)).sum = ((ns.sum : Nat) : Int)
  | [] => rfl
  | n :: r => by
    rw [List.map_cons, List.sum_cons, List.sum_cons, sum_cast2 r]
    omega
theorem sum_tS (us : List (List Nat)) : (us.map (·.length)).sum = us.flatten.length := List.length_flatten.symm
def spLetIn (K : PySem.W.Frag) : Sp := fun vs H Q _ => ∃ (r : Addr) (us : List (List Nat)) (t : Bool), vs = [.ref r] ∧ SqB K t H r (tS us) ∧ us.length ≤ 10000 ∧ (∀ u ∈ us, u.length ≤ 1000) ∧ ∀ H', Same H H' → Q (.int (us.flatten.length : Nat)) H'
theorem ok_letters_in (F : FnP K "letters_in" s_letters_in f fd) (hm : mg "letters_in" = some (.ref f)) (f_len : mg "len" = none) (f_sum : mg "sum" = none) : Callee P w K mg base CX0 "letters_in" 1 [] (spLetIn K) := by
  refine ⟨f, fd, _, [], F.ok sc_letters_in (fun vs H Q E h => ?hl) (fun cdv A outer s H vs Q E hr h => ⟨_, PSs.nox (pss_one (ps_ret (pe_callB (cr_sumK K) (by rfl) f_sum (by decide +kernel) (pa_cons (pe_lc (own := [("word", 1)]) rfl sc_letters_in.nd (pi_anyK K (pv 0)) (blkOk_by (N := ["row", "word"]) (sc := defScope s_letters_in) (by decide +kernel)) (fun _ _ _ _ _ => (pg_name (i := 1) sc_letters_in.nd rfl (by first | exact Or.inl rfl | exact Or.inr rfl))) (fun _ _ _ _ _ => pts_nil) (fun _ _ _ _ _ => (pe_callB (call_lenK K) (by rfl) f_len PySem.boot_len (pa_cons (pv 1) pa_nil)))) pa_nil)))), ?rd⟩), hm, F.kp, F.bindsN fun _ _ _ _ _ _ us hl => match us, hl with | [_], _ => rfl, .nil⟩
  case hl =>
    obtain ⟨b, u, t, rfl, _⟩ := h
    rfl
  case rd =>
    obtain ⟨r, us, t, rfl, hx, hl, hw, q⟩ := h
    refine k_start (σ' := [some _, none]) rfl ?_
    walk_at "g"
    have le : (tS us).length = us.length := len_tS us
    refine k_nItB hx ?_
    refine k_nLc (walk_listB (xs := tS us)) (fun H' s2 => sm_b s2 hx) (fun i vs => vs = ((us.take i).map fun u => V.int (u.length : Nat))) rfl (fun i vs hi hw => ?hz) (fun i v Ha Hb vs Kp Ks hi sa hws hy2 hKp hKs => ?ht) (fun p Hp vs np sp ep hws => ?he)
    case hz =>
      rw [hw, List.length_map, List.length_take]
      omega
    case ht =>
      obtain ⟨rfl, hx2⟩ := hy2
      obtain ⟨u, hu, rfl⟩ := map_get hx2
      have lu := len_tx u
      have l1 := hw u (List.mem_of_getElem? hu)
      walk_at "g"
      refine ⟨rfl, ?_⟩
      walk_at "g"
      refine k_len_s (by omega) (hKp _ _ (Same.refl _) ?_)
      rw [hws, take_more hu, List.map_append, lu]
      rfl
    case he =>
      walk_at "g"
      rw [hws, le, List.take_length] at ep
      refine k_sum (ns := (us.map (·.length)).map fun n => ((n : Nat) : Int)) (sq_l (by rw [ep, List.map_map, List.map_map]; rfl)) ?_
      rw [sum_cast2, sum_tS]
      exact q _ sp
/-! ### what a wish asks of a row -/
def fulD (S : HsD) (z : Str) (ds : List PyData) (us : List (List Nat)) : Bool :=
  if z = Str.ofString "row" then (match ds with
    | .list es :: _ => decide (strsD es = us)
    | .tuple es :: _ => decide (strsD es = us)
    | _ => false)
  else if z = Str.ofString "word" then (match ds with
    | .str x :: _ => decide (TL.tl x ∈ us)
    | _ => false)
  else if z = Str.ofString "words" then (match ds with
    | .int n :: _ => decide ((us.length : Int) = n)
    | _ => false)
  else if z = Str.ofString "letters" then (match ds with
    | .int n :: _ => decide (((us.flatten.length : Nat) : Int) = n)
    | _ => false)
  else decide (bitesF S us = [])
theorem ful_row {S : HsD} {es : List PyData} {us : List (List Nat)} {d : PyData} (hd : d = .list es ∨ d = .tuple es) : fulD S (Str.ofString "row") [d] us = decide (strsD es = us) := by
  unfold fulD
  rw [if_pos rfl]
  rcases hd with rfl | rfl <;> rfl
theorem ful_word {S : HsD} {x : Str} {us : List (List Nat)} : fulD S (Str.ofString "word") [.str x] us = decide (TL.tl x ∈ us) := by
  unfold fulD
  rw [if_neg (by decide +kernel), if_pos rfl]
theorem ful_words {S : HsD} {n : Int} {us : List (List Nat)} : fulD S (Str.ofString "words") [.int n] us = decide ((us.length : Int) = n) := by
  unfold fulD
  rw [if_neg (by decide +kernel), if_neg (by decide +kernel), if_pos rfl]
theorem ful_letters {S : HsD} {n : Int} {us : List (List Nat)} : fulD S (Str.ofString "letters") [.int n] us = decide (((us.flatten.length : Nat) : Int) = n) := by
  unfold fulD
  rw [if_neg (by decide +kernel), if_neg (by decide +kernel), if_neg (by decide +kernel), if_pos rfl]
theorem ful_end {S : HsD} {us : List (List Nat)} : fulD S (Str.ofString "end") [] us = decide (bitesF S us = []) := by
  unfold fulD
  rw [if_neg (by decide +kernel), if_neg (by decide +kernel), if_neg (by decide +kernel), if_neg (by decide +kernel)]
theorem wish_yes {S : HsD} {z : Str} {ds : List PyData} (h : isWishD S z ds = true) :
    (z = Str.ofString "row" ∧ ∃ d es, ds = [d] ∧ (d = .list es ∨ d = .tuple es) ∧ es.all isStrD = true ∧ badAt S (strsD es) = none) ∨ (z = Str.ofString "word" ∧ ∃ x, ds = [.str x] ∧ isW S x = true) ∨
    (z = Str.ofString "words" ∧ ∃ n, ds = [.int n] ∧ 0 ≤ n) ∨ (z = Str.ofString "letters" ∧ ∃ n, ds = [.int n] ∧ 0 ≤ n) ∨ (z = Str.ofString "end" ∧ ds = []) := by
  cases ef : formsV.lookup z with
  | none => rw [wish_no1 ef] at h; cases h
  | some n =>
    by_cases dn : (ds.length : Int) = n
    · rcases forms_cases ef with ⟨hz, rfl⟩ | ⟨rfl, rfl⟩
      · obtain ⟨d, rfl⟩ : ∃ d, ds = [d] := by
          match ds, dn with
          | [d], _ => exact ⟨d, rfl⟩
          | d :: d' :: r, h =>
            rw [List.length_cons, List.length_cons] at h
            omega
        have num : isNumD d = true → ∃ n, d = .int n ∧ 0 ≤ n := fun hn => by
          cases d with
          | int n => exact ⟨n, rfl, of_decide_eq_true hn⟩
          | _ => cases hn
        rcases hz with rfl | rfl | rfl | rfl
        · rw [wish_row] at h
          have key : ∀ es, (es.all isStrD && (badAt S (strsD es)).isNone) = true → es.all isStrD = true ∧ badAt S (strsD es) = none := fun es he => by
            obtain ⟨h1, h2⟩ := Bool.and_eq_true_iff.mp he
            exact ⟨h1, Option.isNone_iff_eq_none.mp h2⟩
          cases d with
          | list es => exact .inl ⟨rfl, _, es, rfl, .inl rfl, key es h⟩
          | tuple es => exact .inl ⟨rfl, _, es, rfl, .inr rfl, key es h⟩
          | _ => cases h
        · rw [wish_word] at h
          cases d with
          | str x => exact .inr (.inl ⟨rfl, x, rfl, h⟩)
          | _ => cases h
        · rw [wish_num (.inl rfl)] at h
          obtain ⟨n, rfl, h0⟩ := num h
          exact .inr (.inr (.inl ⟨rfl, n, rfl, h0⟩))
        · rw [wish_num (.inr rfl)] at h
          obtain ⟨n, rfl, h0⟩ := num h
          exact .inr (.inr (.inr (.inl ⟨rfl, n, rfl, h0⟩)))
      · exact .inr (.inr (.inr (.inr ⟨rfl, List.eq_nil_of_length_eq_zero (by omega)⟩)))
    · rw [wish_no2 ef dn] at h
      cases h
def spFul (K : PySem.W.Frag) : Sp := fun vs H Q _ => ∃ (a t r : Addr) (S : HsD) (z : Str) (ws : List V) (ds : List PyData) (us : List (List Nat)) (tq : Bool), vs = [.ref a, .ref t, .ref r] ∧ HsAt K H a S ∧ HsOk S ∧ SqT K H t (.str z :: ws) ∧ DpAll K H ws ds ∧ isWishD S z ds = true ∧ SqB K tq H r (tS us) ∧ AllW S us ∧ us.length ≤ 5000 ∧ ∀ H', Same H H' → Q (.bl (fulD S z ds us)) H'
theorem ok_fulfilled (F : FnP K "fulfilled" s_fulfilled f fd) (hm : mg "fulfilled" = some (.ref f)) (f_len : mg "len" = none) (f_list : mg "list" = none) (c_letters_in : Callee P w K mg base CX0 "letters_in" 1 [] (spLetIn K)) (c_bites_of : Callee P w K mg base CX0 "bites_of" 4 [] (spBitesOf K)) : Callee P w K mg base CX0 "fulfilled" 5 [] (spFul K) := by
  refine ⟨f, fd, _, [], F.ok sc_fulfilled (fun vs H Q E h => ?hl) (fun cdv A outer s H vs Q E hr h => ⟨_, PSs.nox (pss_cons (ps_asg (pv 1) (pg_star1 K (pgs_cons (pg_name (i := 3) sc_fulfilled.nd rfl (by first | exact Or.inl rfl | exact Or.inr rfl)) (pgs_cons (pg_name (i := 4) sc_fulfilled.nd rfl (by first | exact Or.inl rfl | exact Or.inr rfl)) pgs_nil)) (by rfl)))
      (pss_cons (ps_if (pt_cmpR (op_eqK K hr.units) (pv 3) pe_str (nomark _)) (pss_one (ps_ret (pe_cmpR (op_eqK K hr.units) (pe_callTy (call_listK K) (by rfl) f_list (by decide +kernel) (pa_cons (pe_ix (ix_k K) (pv 4) pe_int (fun _ _ => rfl)) pa_nil)) (pe_callTy (call_listK K) (by rfl) f_list (by decide +kernel) (pa_cons (pv 2) pa_nil)) (nomark _)))) pss_nil)
      (pss_cons (ps_if (pt_cmpR (op_eqK K hr.units) (pv 3) pe_str (nomark _)) (pss_one (ps_ret (pe_cmpR (op_inK K) (pe_ix (ix_k K) (pv 4) pe_int (fun _ _ => rfl)) (pv 2) (by rfl)))) pss_nil)
      (pss_cons (ps_if (pt_cmpR (op_eqK K hr.units) (pv 3) pe_str (nomark _)) (pss_one (ps_ret (pe_cmpR (op_eqK K hr.units) (pe_callB (call_lenK K) (by rfl) f_len PySem.boot_len (pa_cons (pv 2) pa_nil)) (pe_ix (ix_k K) (pv 4) pe_int (fun _ _ => rfl)) (nomark _)))) pss_nil)
      (pss_cons (ps_if (pt_cmpR (op_eqK K hr.units) (pv 3) pe_str (nomark _)) (pss_one (ps_ret (pe_cmpR (op_eqK K hr.units) (pe_cl c_letters_in hr (pa_cons (pv 2) pa_nil) pass0) (pe_ix (ix_k K) (pv 4) pe_int (fun _ _ => rfl)) (nomark _)))) pss_nil)
      (pss_one (ps_ret (pe_cmpR (op_eqK K hr.units) (pe_cl c_bites_of hr (pa_cons (pv 0) (pa_cons (pe_callTy (call_listK K) (by rfl) f_list (by decide +kernel) (pa_cons (pv 2) pa_nil)) pa_nil)) pass0) (pe_lst pa_nil) (nomark _))))))))), ?rd⟩), hm, F.kp, F.bindsN fun _ _ _ _ _ _ us hl => match us, hl with | [_, _, _], _ => rfl, .nil⟩
  case hl =>
    obtain ⟨a, t, r, S, z, ws, ds, us, tq, rfl, _⟩ := h
    rfl
  case rd =>
    obtain ⟨a, t, r, S, z, ws, ds, us, tq, rfl, hs, ok, ht, hds, hW, hx, hw, lu, q⟩ := h
    refine k_start (σ' := [some _, some _, some _, none, none]) rfl ?_
    have lw := dpall_len hds
    have lW : ds.length ≤ 1 := by
      rcases wish_yes hW with ⟨_, d, es, rfl, _⟩ | ⟨_, x, rfl, _⟩ | ⟨_, n, rfl, _⟩ | ⟨_, n, rfl, _⟩ | ⟨_, rfl⟩ <;> simp
    walk_at "g"
    refine k_star1 ht (by omega) (fun p H1 n1 s1 e1 => ?_)
    have hd1 := dpall_sm s1 hds
    have hs1 := hs.sm s1
    have hx1 := sm_b s1 hx
    walk_at "g"
    have one : ∀ {d : PyData}, ds = [d] → ∃ v, ws = [v] ∧ Dp K H1 v d := fun {d} e => by
      rw [e] at hd1
      cases hd1 with
      | cons h r =>
        cases r
        exact ⟨_, rfl, h⟩
    rcases wish_yes hW with ⟨rfl, d, es, rfl, hd, he, hb⟩ | ⟨rfl, x, rfl, hx2⟩ | ⟨rfl, n, rfl, h0⟩ | ⟨rfl, n, rfl, h0⟩ | ⟨rfl, rfl⟩
    · obtain ⟨v, rfl, hv⟩ := one rfl
      rw [ful_row hd] at q
      obtain ⟨aw, l12⟩ := badAt_none ok hb
      obtain ⟨t2, r2, rfl, hr2⟩ : ∃ (t2 : Bool) (r2 : Addr), v = .ref r2 ∧ SqB K t2 H1 r2 (tS (strsD es)) := by
        rcases hd with rfl | rfl
        · cases hv with
          | lst h1 h2 => exact ⟨false, _, rfl, by rw [← (strsD_vs h2 he).1]; exact h1⟩
        · cases hv with
          | tup h1 h2 => exact ⟨true, _, rfl, by rw [← (strsD_vs h2 he).1]; exact h1⟩
      refine k_dec (fun d1 => ?_) (fun d1 => absurd rfl d1)
      walk_at "g"
      refine k_list_b hr2 (fun p2 H2 n2 s2 e2 => ?_)
      walk_at "g"
      refine k_list_b (sm_b s2 hx1) (fun p3 H3 n3 s3 e3 => ?_)
      exact row_eq ok hw (by omega) aw (by omega) (sq_l (s3 _ _ e2)) (sq_l e3) (q _ (s1.trans (s2.trans s3)))
    · obtain ⟨v, rfl, hv⟩ := one rfl
      rw [ful_word] at q
      cases hv
      refine k_dec (fun d1 => absurd d1 (by decide +kernel)) (fun d1 => ?_)
      walk_at "g"
      refine k_dec (fun d1 => ?_) (fun d1 => absurd rfl d1)
      walk_at "g"
      cases tq with
      | true => exact k_inT hx1 rfl (flat_tS us) (inV_tS x us) (q _ s1)
      | false => exact k_inL hx1 rfl (flat_tS us) (inV_tS x us) (q _ s1)
    · obtain ⟨v, rfl, hv⟩ := one rfl
      rw [ful_words] at q
      cases hv
      refine k_dec (fun d1 => absurd d1 (by decide +kernel)) (fun d1 => ?_)
      walk_at "g"
      refine k_dec (fun d1 => absurd d1 (by decide +kernel)) (fun d1 => ?_)
      walk_at "g"
      refine k_dec (fun d1 => ?_) (fun d1 => absurd rfl d1)
      walk_at "g"
      refine k_len_b hx1 ?_
      walk_at "g"
      rw [len_tS]
      exact q _ s1
    · obtain ⟨v, rfl, hv⟩ := one rfl
      rw [ful_letters] at q
      cases hv
      refine k_dec (fun d1 => absurd d1 (by decide +kernel)) (fun d1 => ?_)
      walk_at "g"
      refine k_dec (fun d1 => absurd d1 (by decide +kernel)) (fun d1 => ?_)
      walk_at "g"
      refine k_dec (fun d1 => absurd d1 (by decide +kernel)) (fun d1 => ?_)
      walk_at "g"
      refine k_dec (fun d1 => ?_) (fun d1 => absurd rfl d1)
      walk_at "g"
      refine ⟨r, us, tq, rfl, hx1, by omega, fun u hu => by have := (hw.len ok) u hu; omega, fun H2 s2 => ?_⟩
      have e12 := s2 _ _ e1
      walk_at "g"
      exact q _ (s1.trans s2)
    · rw [ful_end] at q
      refine k_dec (fun d1 => absurd d1 (by decide +kernel)) (fun d1 => ?_)
      walk_at "g"
      refine k_dec (fun d1 => absurd d1 (by decide +kernel)) (fun d1 => ?_)
      walk_at "g"
      refine k_dec (fun d1 => absurd d1 (by decide +kernel)) (fun d1 => ?_)
      walk_at "g"
      refine k_dec (fun d1 => absurd d1 (by decide +kernel)) (fun d1 => ?_)
      walk_at "g"
      refine k_list_b hx1 (fun p2 H2 n2 s2 e2 => ?_)
      walk_at "g"
      refine ⟨a, p2, S, us, rfl, hs1.sm s2, ok, sq_l e2, hw, by omega, fun p3 ws3 H3 n3 s3 e3 b3 => ?_⟩
      have d3 := b3.dp
      walk_at "g"
      refine k_nLst (by walk_at "sz") (fun p4 H4 n4 s4 e4 => ?_)
      exact k_bmNil ok hw (by omega) (sq_l (s4 _ _ e3)) (dpall_sm s4 d3) (sq_l e4) (q _ (s1.trans (s2.trans (s3.trans s4))))
end
end Lw
set_option autoImplicit true
set_option pp.maxSteps 1200
set_option Elab.async false
set_option linter.all false
set_option maxRecDepth 100000
set_option maxHeartbeats 1000000
namespace Lw
open PySem PySem.Spec PyProof.Rows L2 Gk NdefX
open LamX hiding takes0

local macro_rules | `(tactic| walk_at "hp") => `(tactic| first | assumption | exact upd_same | (refine' (upd_ne ?n).trans ?h; (case n => assumption); (case h => walk_at "hp")) | (refine' sm_get ?s ?h; (case s => assumption); (case h => walk_at "hp")))
local macro_rules | `(tactic| walk_at "sq") => `(tactic| first | assumption | (refine' sq_l ?h; (case h => walk_at "hp")) | (refine' sm_l ?s ?h; (case s => assumption); (case h => walk_at "sq")))
local macro_rules | `(tactic| walk_at "st") => `(tactic| first | assumption | (refine' sq_t ?h; (case h => walk_at "hp")) | (refine' sm_t ?s ?h; (case s => assumption); (case h => walk_at "st")))
local macro_rules | `(tactic| walk_at "bg") => `(tactic| first | assumption | (refine' BagOk.sm ?s ?h; (case s => assumption); (case h => walk_at "bg")))
local macro_rules | `(tactic| walk_at "sm") => `(tactic| first | assumption | exact Same.refl _ | (refine' Same.trans ?h ?s; (case s => assumption); (case h => walk_at "sm")))
local macro_rules | `(tactic| walk_at "hs") => `(tactic| first | assumption | (refine' HsAt.sm ?s ?h; (case s => assumption); (case h => walk_at "hs")))
local macro_rules | `(tactic| walk_at "ms") => `(tactic| first | assumption | (refine' MAt.sm ?s ?h; (case s => assumption); (case h => walk_at "ms")))
local macro_rules | `(tactic| walk_at "dp") => `(tactic| first | assumption | (refine' dp_sm ?s ?h; (case s => assumption); (case h => walk_at "dp")))
local macro_rules | `(tactic| walk_at "sz") => `(tactic| first | decide | assumption | omega | (simp only [List.length_cons, List.length_nil, List.length_map, List.length_append]; omega))
local macro_rules | `(tactic| walk_at "g1") => `(tactic| first
  | with_reducible refine k_seq ?_
  | with_reducible refine k_itB ?_
  | with_reducible refine k_next ?_
  | with_reducible refine k_asg ?_
  | with_reducible refine k_name ?_
  | with_reducible refine k_ret ?_
  | with_reducible refine k_retN ?_
  | with_reducible refine k_drop ?_
  | with_reducible refine k_ifs ?_
  | with_reducible refine k_brk ?_
  | with_reducible refine k_cont ?_
  | with_reducible refine k_ipI ?_
  | with_reducible refine k_test ?_
  | with_reducible refine k_tB ?_
  | with_reducible refine k_bl ?_
  | with_reducible refine k_not ?_
  | with_reducible refine k_and ?_
  | with_reducible refine k_or ?_
  | with_reducible refine k_yes ?_
  | with_reducible refine k_true ?_
  | with_reducible refine k_false ?_
  | with_reducible refine k_nt ?_
  | with_reducible refine k_c ?_
  | with_reducible refine k_op ?_
  | with_reducible refine k_un ?_
  | with_reducible refine k_if ?_
  | with_reducible refine k_chain ?_
  | with_reducible refine k_nil ?_
  | with_reducible refine k_cons ?_
  | with_reducible refine k_cb ?_
  | with_reducible refine k_call ?_
  | with_reducible refine k_callS ?_
  | with_reducible refine k_andV ?_
  | with_reducible refine k_orV ?_
  | with_reducible refine k_notV ?_
  | with_reducible refine k_lst ?_
  | with_reducible refine k_tup ?_
  | with_reducible refine k_nopart ?_
  | with_reducible refine k_part ?_
  | with_reducible refine k_nInt ?_
  | with_reducible refine k_sl ?_
  | with_reducible refine k_bm ?_
  | with_reducible refine k_bm0 ?_
  | with_reducible refine k_nTyS ?_
  | with_reducible refine k_m1 ?_
  | with_reducible refine k_m0 ?_
  | with_reducible refine k_nStr ?_
  | with_reducible refine k_I0 ?_
  | with_reducible refine k_U ?_
  | with_reducible refine k_add_i ?_
  | with_reducible refine k_eq_i ?_
  | with_reducible refine k_eq_s ?_
  | with_reducible refine k_eq_b ?_
  | with_reducible refine k_ne_i ?_
  | with_reducible refine k_ne_s ?_
  | with_reducible refine k_ne_b ?_
  | with_reducible refine k_le_i ?_
  | with_reducible refine k_le_s ?_
  | with_reducible refine k_gnil ?_
  | with_reducible refine k_gcons ?_
  | with_reducible refine k_gsub ?_
  | with_reducible refine k_for ?_
  | with_reducible refine k_lc ?_
  | with_reducible refine k_rng1 ?_
  | with_reducible refine k_rng2 ?_
  | with_reducible refine k_itl ?_
  | with_reducible refine k_itt ?_
  | with_reducible refine k_its ?_
  | with_reducible refine k_ite ?_
  | with_reducible refine k_iteB ?_
  | with_reducible refine k_lrg2 ?_
  | with_reducible refine k_itz ?_
  | with_reducible refine k_nIts ?_
  | with_reducible refine k_inS ?_
  | with_reducible refine k_niS ?_
  | with_reducible refine k_mk ?_
  | with_reducible refine k_meth ?_
  | with_reducible refine k_fld ?_
  | with_reducible refine k_sfld ?_
  | with_reducible refine k_dg ?_
  | with_reducible refine k_dp ?_
  | with_reducible refine k_pr ?_
  | with_reducible refine k_pr0 ?_
  | with_reducible refine k_sg ?_
  | with_reducible refine k_lc2 ?_
  | with_reducible refine k_callN ?_
  | with_reducible refine k_callNS ?_
  | with_reducible refine k_par ?_
  | with_reducible refine k_nPar ?_
  | with_reducible refine k_isNn ?_
  | with_reducible refine k_isNr ?_
  | with_reducible refine k_ntNn ?_
  | with_reducible refine k_ntNr ?_
  | with_reducible refine k_min2 ?_
  | with_reducible refine k_max2 ?_
  | with_reducible refine k_intB ?_
  | with_reducible refine k_intI ?_
  | with_reducible refine k_isBl ?_
  | with_reducible refine k_ntBl ?_
  | ((with_reducible refine' k_var ?kv ?_); (case kv => exact rfl))
  | ((with_reducible refine' k_aug ?kv ?_); (case kv => exact rfl))
  | ((with_reducible refine' k_ix_l ?ks ?ki ?_); (case ks => walk_at "sq"); (case ki => exact rfl))
  | ((with_reducible refine' k_ix_t ?ks ?ki ?_); (case ks => walk_at "st"); (case ki => exact rfl))
  | ((with_reducible refine' k_len_l ?ks ?_); (case ks => walk_at "sq"))
  | ((with_reducible refine' k_len_t ?ks ?_); (case ks => walk_at "st"))
  | ((with_reducible refine' k_setL ?ks ?ki ?_); (case ks => walk_at "hp"); (case ki => exact rfl))
  | ((with_reducible refine' k_nTyL ?ks ?_); (case ks => walk_at "sq"))
  | ((with_reducible refine' k_nItl ?ks ?_); (case ks => walk_at "sq"))
  | ((with_reducible refine' k_nItt ?ks ?_); (case ks => walk_at "st"))
  | ((with_reducible refine' k_nIte ?ks ?_); (case ks => walk_at "sq"))
  | ((with_reducible refine' k_mul ?km ?_); (case km => first | exact Or.inr ⟨by decide, by decide⟩ | exact Or.inl ⟨by decide, by decide⟩))
  | ((with_reducible refine' k_I ?km ?_); (case km => first | assumption | decide | exact ⟨by decide, by decide +kernel⟩ | exact ⟨by decide, by decide, by decide⟩))
  | ((with_reducible refine' k_nMeth ?kp ?kl ?_); (case kp => walk_at "hp"); (case kl => exact rfl))
  | ((with_reducible refine' k_nFld ?kp ?kc ?kn ?kl ?_); (case kp => walk_at "hp"); (case kc => assumption); (case kn => assumption); (case kl => exact rfl))
  | ((with_reducible refine' k_nSFld ?kp ?kc ?kn ?kl ?_); (case kp => walk_at "hp"); (case kc => assumption); (case kn => assumption); (case kl => exact of_decide_eq_true rfl))
  | ((with_reducible refine' k_nDg ?kp ?kl ?_); (case kp => walk_at "hp"); (case kl => exact rfl))
  | ((with_reducible refine' k_nRng1 ?k1 ?k2 ?_); (case k1 => omega); (case k2 => omega))
  | ((with_reducible refine' k_nKw ?k1 ?k2 ?_); (case k1 => exact rfl); (case k2 => exact rfl))
  | ((with_reducible refine' k_hsm ?kh ?_); (case kh => walk_at "hs"))
  | ((with_reducible refine' k_nMethH ?kh ?kl ?_); (case kh => walk_at "hs"); (case kl => exact fun _ _ => rfl))
  | ((with_reducible refine' k_mLet ?kh ?_); (case kh => walk_at "ms"))
  | ((with_reducible refine' k_mChew ?kh ?_); (case kh => walk_at "ms"))
  | ((with_reducible refine' k_mPut ?kh ?_); (case kh => walk_at "ms"))
  | ((with_reducible refine' k_mMost ?kh ?_); (case kh => walk_at "ms"))
  | ((with_reducible refine' k_mCut ?kh ?_); (case kh => walk_at "ms"))
  | ((with_reducible refine' k_gtup ?ks ?kl ?_); (case ks => walk_at "st"); (case kl => exact rfl)))
local macro_rules | `(tactic| walk_at "g") => `(tactic| repeat (walk_at "g1"))
local macro_rules | `(tactic| walk_at "w1") => `(tactic| first
  | walk_at "g1"
  | ((with_reducible refine' k_decT ?kp ?_); (case kp => omega))
  | ((with_reducible refine' k_decF ?kp ?_); (case kp => omega))
  | ((with_reducible refine' k_decNT ?kp ?_); (case kp => omega))
  | ((with_reducible refine' k_decNF ?kp ?_); (case kp => omega)))
local macro_rules | `(tactic| walk_at "w") => `(tactic| repeat (walk_at "w1"))

local macro_rules | `(tactic| walk_at "g1") => `(tactic| first
  | with_reducible refine k_mkP ?_
  | with_reducible refine k_din ?_
  | with_reducible refine k_dni ?_
  | with_reducible refine k_sortF ?_
  | with_reducible refine k_sortL ?_
  | with_reducible refine k_itk ?_
  | with_reducible refine k_revL ?_)


section
variable {P : Program} {w : World} {K : PySem.W.Frag} {mg : Str → Option Value} {base : Heap} {f : Addr} {fd : FuncData}
/-! ### depth by depth, in plain Lean -/
abbrev rowsC (rs : List Came) : List (List (List Nat)) := rs.map (·.row)
theorem addB_most (here : List (List Nat)) (dep : Nat) : ∀ (xs : List (Bt × List (List Nat))) (st : List Came × List (List (List Nat))), (xs.foldl (addB here dep) st).1.length ≤ st.1.length + xs.length
  | [], st => Nat.le_refl _
  | x :: xs, st => by
    have h1 := addB_most here dep xs (addB here dep st x)
    have h2 : (addB here dep st x).1.length ≤ st.1.length + 1 := by
      unfold addB
      split
      · omega
      · show (st.1 ++ [_]).length ≤ _
        rw [List.length_append]
        exact Nat.le_refl _
    rw [List.foldl_cons, List.length_cons]
    omega
/-! ### all that come -/
/-! ### ranks -/
/-! ### sorted by ranks -/
/-- the tables of code objects, each with its lambda's name -/
abbrev lq (x : Str) : Str := (envOfC x ⟨.function, [], false, false, []⟩ 0 0 .none).qual ++ "<lambda>"
abbrev TT (K : PySem.W.Frag) : List (Addr × Str) := [((He.cT K ("law", none)).2, lq "law")]

open PySem.W (AllAlike Sortable dataLe)
theorem paired_at {α β : Type} {R : α → β → Prop} : ∀ {as : List α} {bs : List β} {i : Nat} {a : α}, Paired R as bs → as[i]? = some a → ∃ b, bs[i]? = some b ∧ R a b
  | _, _, _, _, .nil, h => by simp at h
  | _, _, 0, a, .cons h _, e => by
    simp at e
    subst e
    exact ⟨_, rfl, h⟩
  | _, _, i + 1, a, .cons _ t, e => by
    obtain ⟨b, h1, h2⟩ := paired_at (i := i) (a := a) t (by simpa using e)
    exact ⟨b, by simpa using h1, h2⟩
end
end Lw
set_option autoImplicit true
set_option pp.maxSteps 1200
set_option Elab.async false
set_option linter.all false
set_option maxRecDepth 100000
set_option maxHeartbeats 1000000
namespace Lw
open PySem PySem.Spec PyProof.Rows L2 Gk NdefX
open LamX hiding takes0

local macro_rules | `(tactic| walk_at "hp") => `(tactic| first | assumption | exact upd_same | (refine' (upd_ne ?n).trans ?h; (case n => assumption); (case h => walk_at "hp")) | (refine' sm_get ?s ?h; (case s => assumption); (case h => walk_at "hp")))
local macro_rules | `(tactic| walk_at "sq") => `(tactic| first | assumption | (refine' sq_l ?h; (case h => walk_at "hp")) | (refine' sm_l ?s ?h; (case s => assumption); (case h => walk_at "sq")))
local macro_rules | `(tactic| walk_at "st") => `(tactic| first | assumption | (refine' sq_t ?h; (case h => walk_at "hp")) | (refine' sm_t ?s ?h; (case s => assumption); (case h => walk_at "st")))
local macro_rules | `(tactic| walk_at "bg") => `(tactic| first | assumption | (refine' BagOk.sm ?s ?h; (case s => assumption); (case h => walk_at "bg")))
local macro_rules | `(tactic| walk_at "sm") => `(tactic| first | assumption | exact Same.refl _ | (refine' Same.trans ?h ?s; (case s => assumption); (case h => walk_at "sm")))
local macro_rules | `(tactic| walk_at "hs") => `(tactic| first | assumption | (refine' HsAt.sm ?s ?h; (case s => assumption); (case h => walk_at "hs")))
local macro_rules | `(tactic| walk_at "ms") => `(tactic| first | assumption | (refine' MAt.sm ?s ?h; (case s => assumption); (case h => walk_at "ms")))
local macro_rules | `(tactic| walk_at "dp") => `(tactic| first | assumption | (refine' dp_sm ?s ?h; (case s => assumption); (case h => walk_at "dp")))
local macro_rules | `(tactic| walk_at "sz") => `(tactic| first | decide | assumption | omega | (simp only [List.length_cons, List.length_nil, List.length_map, List.length_append]; omega))
local macro_rules | `(tactic| walk_at "g1") => `(tactic| first
  | with_reducible refine k_seq ?_
  | with_reducible refine k_itB ?_
  | with_reducible refine k_next ?_
  | with_reducible refine k_asg ?_
  | with_reducible refine k_name ?_
  | with_reducible refine k_ret ?_
  | with_reducible refine k_retN ?_
  | with_reducible refine k_drop ?_
  | with_reducible refine k_ifs ?_
  | with_reducible refine k_brk ?_
  | with_reducible refine k_cont ?_
  | with_reducible refine k_ipI ?_
  | with_reducible refine k_test ?_
  | with_reducible refine k_tB ?_
  | with_reducible refine k_bl ?_
  | with_reducible refine k_not ?_
  | with_reducible refine k_and ?_
  | with_reducible refine k_or ?_
  | with_reducible refine k_yes ?_
  | with_reducible refine k_true ?_
  | with_reducible refine k_false ?_
  | with_reducible refine k_nt ?_
  | with_reducible refine k_c ?_
  | with_reducible refine k_op ?_
  | with_reducible refine k_un ?_
  | with_reducible refine k_if ?_
  | with_reducible refine k_chain ?_
  | with_reducible refine k_nil ?_
  | with_reducible refine k_cons ?_
  | with_reducible refine k_cb ?_
  | with_reducible refine k_call ?_
  | with_reducible refine k_callS ?_
  | with_reducible refine k_andV ?_
  | with_reducible refine k_orV ?_
  | with_reducible refine k_notV ?_
  | with_reducible refine k_lst ?_
  | with_reducible refine k_tup ?_
  | with_reducible refine k_nopart ?_
  | with_reducible refine k_part ?_
  | with_reducible refine k_nInt ?_
  | with_reducible refine k_sl ?_
  | with_reducible refine k_bm ?_
  | with_reducible refine k_bm0 ?_
  | with_reducible refine k_nTyS ?_
  | with_reducible refine k_m1 ?_
  | with_reducible refine k_m0 ?_
  | with_reducible refine k_nStr ?_
  | with_reducible refine k_I0 ?_
  | with_reducible refine k_U ?_
  | with_reducible refine k_add_i ?_
  | with_reducible refine k_eq_i ?_
  | with_reducible refine k_eq_s ?_
  | with_reducible refine k_eq_b ?_
  | with_reducible refine k_ne_i ?_
  | with_reducible refine k_ne_s ?_
  | with_reducible refine k_ne_b ?_
  | with_reducible refine k_le_i ?_
  | with_reducible refine k_le_s ?_
  | with_reducible refine k_gnil ?_
  | with_reducible refine k_gcons ?_
  | with_reducible refine k_gsub ?_
  | with_reducible refine k_for ?_
  | with_reducible refine k_lc ?_
  | with_reducible refine k_rng1 ?_
  | with_reducible refine k_rng2 ?_
  | with_reducible refine k_itl ?_
  | with_reducible refine k_itt ?_
  | with_reducible refine k_its ?_
  | with_reducible refine k_ite ?_
  | with_reducible refine k_iteB ?_
  | with_reducible refine k_lrg2 ?_
  | with_reducible refine k_itz ?_
  | with_reducible refine k_nIts ?_
  | with_reducible refine k_inS ?_
  | with_reducible refine k_niS ?_
  | with_reducible refine k_mk ?_
  | with_reducible refine k_meth ?_
  | with_reducible refine k_fld ?_
  | with_reducible refine k_sfld ?_
  | with_reducible refine k_dg ?_
  | with_reducible refine k_dp ?_
  | with_reducible refine k_pr ?_
  | with_reducible refine k_pr0 ?_
  | with_reducible refine k_sg ?_
  | with_reducible refine k_lc2 ?_
  | with_reducible refine k_callN ?_
  | with_reducible refine k_callNS ?_
  | with_reducible refine k_par ?_
  | with_reducible refine k_nPar ?_
  | with_reducible refine k_isNn ?_
  | with_reducible refine k_isNr ?_
  | with_reducible refine k_ntNn ?_
  | with_reducible refine k_ntNr ?_
  | with_reducible refine k_min2 ?_
  | with_reducible refine k_max2 ?_
  | with_reducible refine k_intB ?_
  | with_reducible refine k_intI ?_
  | with_reducible refine k_isBl ?_
  | with_reducible refine k_ntBl ?_
  | ((with_reducible refine' k_var ?kv ?_); (case kv => exact rfl))
  | ((with_reducible refine' k_aug ?kv ?_); (case kv => exact rfl))
  | ((with_reducible refine' k_ix_l ?ks ?ki ?_); (case ks => walk_at "sq"); (case ki => exact rfl))
  | ((with_reducible refine' k_ix_t ?ks ?ki ?_); (case ks => walk_at "st"); (case ki => exact rfl))
  | ((with_reducible refine' k_len_l ?ks ?_); (case ks => walk_at "sq"))
  | ((with_reducible refine' k_len_t ?ks ?_); (case ks => walk_at "st"))
  | ((with_reducible refine' k_setL ?ks ?ki ?_); (case ks => walk_at "hp"); (case ki => exact rfl))
  | ((with_reducible refine' k_nTyL ?ks ?_); (case ks => walk_at "sq"))
  | ((with_reducible refine' k_nItl ?ks ?_); (case ks => walk_at "sq"))
  | ((with_reducible refine' k_nItt ?ks ?_); (case ks => walk_at "st"))
  | ((with_reducible refine' k_nIte ?ks ?_); (case ks => walk_at "sq"))
  | ((with_reducible refine' k_mul ?km ?_); (case km => first | exact Or.inr ⟨by decide, by decide⟩ | exact Or.inl ⟨by decide, by decide⟩))
  | ((with_reducible refine' k_I ?km ?_); (case km => first | assumption | decide | exact ⟨by decide, by decide +kernel⟩ | exact ⟨by decide, by decide, by decide⟩))
  | ((with_reducible refine' k_nMeth ?kp ?kl ?_); (case kp => walk_at "hp"); (case kl => exact rfl))
  | ((with_reducible refine' k_nFld ?kp ?kc ?kn ?kl ?_); (case kp => walk_at "hp"); (case kc => assumption); (case kn => assumption); (case kl => exact rfl))
  | ((with_reducible refine' k_nSFld ?kp ?kc ?kn ?kl ?_); (case kp => walk_at "hp"); (case kc => assumption); (case kn => assumption); (case kl => exact of_decide_eq_true rfl))
  | ((with_reducible refine' k_nDg ?kp ?kl ?_); (case kp => walk_at "hp"); (case kl => exact rfl))
  | ((with_reducible refine' k_nRng1 ?k1 ?k2 ?_); (case k1 => omega); (case k2 => omega))
  | ((with_reducible refine' k_nKw ?k1 ?k2 ?_); (case k1 => exact rfl); (case k2 => exact rfl))
  | ((with_reducible refine' k_hsm ?kh ?_); (case kh => walk_at "hs"))
  | ((with_reducible refine' k_nMethH ?kh ?kl ?_); (case kh => walk_at "hs"); (case kl => exact fun _ _ => rfl))
  | ((with_reducible refine' k_mLet ?kh ?_); (case kh => walk_at "ms"))
  | ((with_reducible refine' k_mChew ?kh ?_); (case kh => walk_at "ms"))
  | ((with_reducible refine' k_mPut ?kh ?_); (case kh => walk_at "ms"))
  | ((with_reducible refine' k_mMost ?kh ?_); (case kh => walk_at "ms"))
  | ((with_reducible refine' k_mCut ?kh ?_); (case kh => walk_at "ms"))
  | ((with_reducible refine' k_gtup ?ks ?kl ?_); (case ks => walk_at "st"); (case kl => exact rfl)))
local macro_rules | `(tactic| walk_at "g") => `(tactic| repeat (walk_at "g1"))
local macro_rules | `(tactic| walk_at "w1") => `(tactic| first
  | walk_at "g1"
  | ((with_reducible refine' k_decT ?kp ?_); (case kp => omega))
  | ((with_reducible refine' k_decF ?kp ?_); (case kp => omega))
  | ((with_reducible refine' k_decNT ?kp ?_); (case kp => omega))
  | ((with_reducible refine' k_decNF ?kp ?_); (case kp => omega)))
local macro_rules | `(tactic| walk_at "w") => `(tactic| repeat (walk_at "w1"))

local macro_rules | `(tactic| walk_at "g1") => `(tactic| first
  | with_reducible refine k_mkP ?_
  | with_reducible refine k_din ?_
  | with_reducible refine k_dni ?_
  | with_reducible refine k_sortF ?_
  | with_reducible refine k_sortL ?_
  | with_reducible refine k_itk ?_
  | with_reducible refine k_revL ?_)

local macro_rules | `(tactic| walk_at "g1") => `(tactic| first
  | with_reducible refine k_dcT ?_)

section
variable {P : Program} {w : World} {K : PySem.W.Frag} {mg : Str → Option Value} {base : Heap} {f : Addr} {fd : FuncData}
/-! ### lots -/
theorem k_bF {b : Bool} {A B : Prop} (e : b = false) (h : B) : nIte b A B := by
  subst e
  exact (if_neg Bool.false_ne_true).mpr h
theorem k_bT {b : Bool} {A B : Prop} (e : b = true) (h : A) : nIte b A B := by
  subst e
  exact (if_pos rfl).mpr h
def fitF (S : HsD) (us : List (List Nat)) : Bool := us.all fun u => isW S (tx u)
theorem fitF_all {S : HsD} (ok : HsOk S) {us : List (List Nat)} : fitF S us = true ↔ AllW S us := by
  unfold fitF
  rw [List.all_eq_true]
  exact ⟨fun h u hu => word_isW ok (h u hu), fun h u hu => isW_word ok (h u hu)⟩
def spFits (K : PySem.W.Frag) : Sp := fun vs H Q _ => ∃ (a r : Addr) (S : HsD) (us : List (List Nat)) (tq : Bool), vs = [.ref a, .ref r] ∧ HsAt K H a S ∧ SqB K tq H r (tS us) ∧ us.length ≤ 20000 ∧ (∀ u ∈ us, u.length ≤ 1000) ∧ ∀ H', Same H H' → Q (.bl (fitF S us)) H'
theorem ok_fits (F : FnP K "fits" s_fits f fd) (hm : mg "fits" = some (.ref f)) (f_all : mg "all" = none) (c_is_word : Callee P w K mg base CX0 "is_word" 2 [] (spIsWord K)) : Callee P w K mg base CX0 "fits" 3 [] (spFits K) := by
  refine ⟨f, fd, _, [], F.ok sc_fits (fun vs H Q E h => ?hl) (fun cdv A outer s H vs Q E hr h => ⟨_, PSs.nox (pss_one (ps_ret (pe_callB (cr_allK K) (by rfl) f_all (by decide +kernel) (pa_cons (pe_lc (own := [("word", 2)]) rfl sc_fits.nd (pi_anyK K (pv 1)) (blkOk_by (N := ["house", "row", "word"]) (sc := defScope s_fits) (by decide +kernel)) (fun _ _ _ _ _ => (pg_name (i := 2) sc_fits.nd rfl (by first | exact Or.inl rfl | exact Or.inr rfl))) (fun _ _ _ _ _ => pts_nil) (fun _ _ _ _ _ => (pe_cl c_is_word hr (pa_cons (pv 0) (pa_cons (pv 2) pa_nil)) pass0))) pa_nil)))), ?rd⟩), hm, F.kp, F.bindsN fun _ _ _ _ _ _ us hl => match us, hl with | [_, _], _ => rfl, .nil⟩
  case hl =>
    obtain ⟨a, r, S, us, tq, rfl, _⟩ := h
    rfl
  case rd =>
    obtain ⟨a, r, S, us, tq, rfl, hs, hx, lu, lw, q⟩ := h
    refine k_start (σ' := [some _, some _, none]) rfl ?_
    walk_at "g"
    refine k_nItB hx ?_
    refine k_nLc (walk_listB (xs := tS us)) (fun H' s => sm_b s hx) (fun i ws => ws = (us.take i).map fun u => V.bl (isW S (tx u))) rfl (fun i ws hi hw => ?hz) (fun i x Hc Hd ws Kp Ks hi sa hws hy hKp hKs => ?ht) (fun p H2 ws np sp ep hws => ?he)
    case hz =>
      rw [hw, List.length_map, List.length_take]
      omega
    case ht =>
      obtain ⟨rfl, hv⟩ := hy
      obtain ⟨u, hu, rfl⟩ := map_get hv
      have l1 := lw u (List.mem_of_getElem? hu)
      walk_at "g"
      refine ⟨rfl, ?_⟩
      walk_at "g"
      refine ⟨a, S, tx u, rfl, hs.sm sa, by rw [len_tx]; omega, fun H3 s3 => hKp _ _ s3 ?_⟩
      rw [hws, take_more hu, List.map_append]
      rfl
    case he =>
      rw [len_tS, List.take_length] at hws
      walk_at "g"
      refine k_all (bs := us.map fun u => isW S (tx u)) (sq_l (by rw [ep, hws, List.map_map]; rfl)) ?_
      rw [show (us.map fun u => isW S (tx u)).all id = fitF S us by rw [List.all_map]; rfl]
      exact q _ sp
/-- a row among others, a list or a tuple -/
def RwB (K : PySem.W.Frag) (tq : Bool) (H : Hp) (v : V) (u : List (List Nat)) : Prop := ∃ r, v = .ref r ∧ RowB K tq H r u
theorem RwB.sm {tq : Bool} {H H' : Hp} (s : Same H H') : ∀ {vs : List V} {rs : List (List (List Nat))}, Paired (RwB K tq H) vs rs → Paired (RwB K tq H') vs rs
  | _, _, .nil => .nil
  | _, _, .cons ⟨r, h1, h2⟩ t => .cons ⟨r, h1, h2.sm s⟩ (RwB.sm s t)
def lotF (S : HsD) (z : Str) (ds : List PyData) (us : List (List Nat)) (rs : List (List (List Nat))) : Bool :=
  rs.all (fitF S) && (decide (us ∈ rs) && (!(rs.any (fulD S z ds)) && rs.all fun r => (bitesF S r).all fun x => decide (x.2 ∈ rs)))
structure KnowsR (kvs : List (List Key × V)) (rs : List (List (List Nat))) (i : Nat) : Prop where
  l : kvs.length ≤ i
  h : ∀ u, (valV kvs (rk u)).isSome = decide (u ∈ rs)
theorem put_some {κ : Type} [DecidableEq κ] {kvs : List (κ × V)} {k k' : κ} {v : V} : (valV (putK kvs k v) k').isSome = (decide (k = k') || (valV kvs k').isSome) := by
  by_cases c : k = k'
  · subst c
    rw [valV_put, if_pos rfl, decide_eq_true rfl]
    rfl
  · rw [valV_put, if_neg (fun z => c z.symm), decide_eq_false c, Bool.false_or]
def spLot (K : PySem.W.Frag) : Sp := fun vs H Q E => ∃ (a r t l : Addr) (S : HsD) (us : List (List Nat)) (tq tr : Bool) (z : Str) (ws : List V) (ds : List PyData) (vs2 : List V) (rs : List (List (List Nat))), vs = [.ref a, .ref r, .ref t, .ref l] ∧ HsAt K H a S ∧ HsOk S ∧ RowB K tq H r us ∧ us.length ≤ 1000 ∧ (∀ u ∈ us, u.length ≤ 1000) ∧ SqT K H t (.str z :: ws) ∧ DpAll K H ws ds ∧ ds.length ≤ 100 ∧ (∀ d ∈ ds, Small d) ∧
  SqL K H l vs2 ∧ Paired (RwB K tr H) vs2 rs ∧ rs.length ≤ 20000 ∧ (∀ v ∈ rs, v.length ≤ 5000 ∧ ∀ u ∈ v, u.length ≤ 1000) ∧
  (badAt S us = none → isWishD S z ds = true → ∀ H', Same H H' → Q (.bl (lotF S z ds us rs)) H') ∧
  (badAt S us = none → isWishD S z ds = false → ∀ d H', H d = none → Same H H' → H' d = some (.xd [("word", .str (Str.ofString "BadWish"))]) → E (.ref (He.ga K "BadWish")) (some d) H') ∧
  (∀ i, badAt S us = some i → ∀ d H', H d = none → Same H H' → H' d = some (.xd (xfs "BadWord" "at" (.int (i : Nat)))) → E (.ref (He.ga K "BadWord")) (some d) H')
theorem ok_lot_holds (F : FnP K "lot_holds" s_lot_holds f fd) (hm : mg "lot_holds" = some (.ref f)) (f_all : mg "all" = none) (f_any : mg "any" = none) (f_list : mg "list" = none) (f_tuple : mg "tuple" = none) (c_need_row : Callee P w K mg base (L2.CX P w) "need_row" 3 [] (spNeedRow K)) (c_need_wish : Callee P w K mg base (L2.CX P w) "need_wish" 6 [] (spNeedWish K)) (c_fits : Callee P w K mg base CX0 "fits" 3 [] (spFits K)) (c_fulfilled : Callee P w K mg base CX0 "fulfilled" 5 [] (spFul K)) (c_bites_of : Callee P w K mg base CX0 "bites_of" 4 [] (spBitesOf K)) : Callee P w K mg base (L2.CX P w) "lot_holds" 7 [] (spLot K) := by
  refine ⟨f, fd, _, [], F.ok sc_lot_holds (fun vs H Q E h => ?hl) (fun cdv A outer s H vs Q E hr h => ⟨_, (pss_cons (ps_expr (pe_cl c_need_row hr (pa_cons (pv 0) (pa_cons (pv 1) pa_nil)) (passE (takes_of rfl rfl rfl rfl))))
      (pss_cons (ps_expr (pe_cl c_need_wish hr (pa_cons (pv 0) (pa_cons (pv 2) pa_nil)) (passE (takes_of rfl rfl rfl rfl))))
      (pss_cons (ps_if (pt_not (pt_val (pe_callB (cr_allK K) (by rfl) f_all (by decide +kernel) (pa_cons (pe_lc (own := [("one", 5)]) rfl sc_lot_holds.nd (pi_listK K (pv 3)) (blkOk_by (N := ["house", "row", "wish", "rows", "known", "one", "bite", "made"]) (sc := defScope s_lot_holds) (by decide +kernel)) (fun _ _ _ _ _ => (pg_name (i := 5) sc_lot_holds.nd rfl (by first | exact Or.inl rfl | exact Or.inr rfl))) (fun _ _ _ _ _ => pts_nil) (fun _ _ _ _ _ => (pe_cl c_fits hr (pa_cons (pv 0) (pa_cons (pv 5) pa_nil)) pass0))) pa_nil)))) (pss_one (ps_ret pe_bl)) pss_nil)
      (pss_cons (ps_set (i := 4) sc_lot_holds.nd rfl (by first | exact Or.inl rfl | exact Or.inr rfl) (pe_dcT (own := [("one", 5)]) hr.units sc_lot_holds.nd (pi_listK K (pv 3)) (blkOk_by (N := ["house", "row", "wish", "rows", "known", "one", "bite", "made"]) (sc := defScope s_lot_holds) (by decide +kernel)) (fun _ _ _ _ _ => (pg_name (i := 5) sc_lot_holds.nd rfl (by first | exact Or.inl rfl | exact Or.inr rfl))) (fun _ _ _ _ _ => pts_nil) (fun _ _ _ _ _ => (pe_callTy (call_tupK K) (by rfl) f_tuple (by decide +kernel) (pa_cons (pv 5) pa_nil))) (fun _ _ _ _ _ => pe_bl)))
      (pss_cons (ps_if (PW.pt (pw_or (pt_cmp (pc_dnotin (hu_of hr) (pe_callTy (call_tupK K) (by rfl) f_tuple (by decide +kernel) (pa_cons (pv 1) pa_nil)) (pv 4))) (pw_or1 (pt_val (pe_callB (cr_anyK K) (by rfl) f_any (by decide +kernel) (pa_cons (pe_lc (own := [("one", 5)]) rfl sc_lot_holds.nd (pi_listK K (pv 3)) (blkOk_by (N := ["house", "row", "wish", "rows", "known", "one", "bite", "made"]) (sc := defScope s_lot_holds) (by decide +kernel)) (fun _ _ _ _ _ => (pg_name (i := 5) sc_lot_holds.nd rfl (by first | exact Or.inl rfl | exact Or.inr rfl))) (fun _ _ _ _ _ => pts_nil) (fun _ _ _ _ _ => (pe_cl c_fulfilled hr (pa_cons (pv 0) (pa_cons (pv 2) (pa_cons (pv 5) pa_nil))) pass0))) pa_nil)))))) (pss_one (ps_ret pe_bl)) pss_nil)
      (pss_cons (ps_for (passes_of rfl) rfl (pi_listK K (pv 3)) (pg_name (i := 5) sc_lot_holds.nd rfl (by first | exact Or.inl rfl | exact Or.inr rfl)) (pss_one (ps_if (pt_not (pt_val (pe_callB (cr_allK K) (by rfl) f_all (by decide +kernel) (pa_cons (pe_lc (own := [("bite", 6), ("made", 7)]) rfl sc_lot_holds.nd (pi_listK K (pe_cl c_bites_of hr (pa_cons (pv 0) (pa_cons (pe_callTy (call_listK K) (by rfl) f_list (by decide +kernel) (pa_cons (pv 5) pa_nil)) pa_nil)) pass0)) (blkOk_by (N := ["house", "row", "wish", "rows", "known", "one", "bite", "made"]) (sc := defScope s_lot_holds) (by decide +kernel)) (fun _ _ _ _ _ => (pg_tupK K 2 (by rfl) (pgs_cons (pg_name (i := 6) sc_lot_holds.nd rfl (by first | exact Or.inl rfl | exact Or.inr rfl)) (pgs_cons (pg_name (i := 7) sc_lot_holds.nd rfl (by first | exact Or.inl rfl | exact Or.inr rfl)) pgs_nil)))) (fun _ _ _ _ _ => pts_nil) (fun _ _ _ _ _ => (pe_cmp (pc_din (hu_of hr) (pe_callTy (call_tupK K) (by rfl) f_tuple (by decide +kernel) (pa_cons (pv 7) pa_nil)) (pv 4))))) pa_nil)))) (pss_one (ps_ret pe_bl)) pss_nil)))
      (pss_one (ps_ret pe_bl)))))))), ?rd⟩), hm, F.kp, F.bindsN fun _ _ _ _ _ _ us hl => match us, hl with | [_, _, _, _], _ => rfl, .nil⟩
  case hl =>
    obtain ⟨a, r, t, l, S, us, tq, tr, z, ws, ds, vs2, rs, rfl, _⟩ := h
    rfl
  case rd =>
    obtain ⟨a, r, t, l, S, us, tq, tr, z, ws, ds, vs2, rs, rfl, hs, ok, hx, lu, lw, hT, hds, ld, hsm, hl, hp, lr, lrw, q1, q2, q3⟩ := h
    refine k_start (σ' := [some _, some _, some _, some _, none, none, none, none]) rfl ?_
    walk_at "g"
    refine ⟨a, r, S, us, tq, rfl, hs, hx.sq, by omega, lw, fun hb H1 s1 => ?_, fun i hb d H1 n1 s1 e1 => q3 i hb d H1 n1 s1 e1⟩
    obtain ⟨hw, l12⟩ := badAt_none ok hb
    walk_at "g"
    refine ⟨a, t, S, z, ws, ds, rfl, hs.sm s1, sm_t s1 hT, dpall_sm s1 hds, ld, hsm, fun hy H2 s2 => ?_, fun hn d H2 n2 s2 e2 => q2 hb hn d H2 (s1.free n2) (s1.trans s2) e2⟩
    have s02 := s1.trans s2
    have q := fun H' (s : Same H2 H') => q1 hb hy H' (s02.trans s)
    clear q1 q2 q3
    have hs2 := hs.sm s02
    have hx2 := hx.sm s02
    have hT2 := sm_t s02 hT
    have hds2 := dpall_sm s02 hds
    have hl2 := sm_l s02 hl
    have hp2 := RwB.sm s02 hp
    clear hs hx hT hds hl hp
    have lv := Paired.length hp2
    walk_at "g"
    refine k_nLc (walk_list (xs := vs2)) (fun H' s => sm_l s hl2) (fun i ws => ws = (rs.take i).map fun u => V.bl (fitF S u)) rfl (fun i ws hi hw => ?hz) (fun i x Hc Hd ws Kp Ks hi sa hws hy2 hKp hKs => ?ht) (fun p H3 ws3 np s3 ep hws => ?he)
    case hz =>
      rw [hw, List.length_map, List.length_take]
      omega
    case ht =>
      obtain ⟨rfl, hv⟩ := hy2
      obtain ⟨u, hu, ru, rfl, hru⟩ := paired_at hp2 hv
      obtain ⟨l1, l2⟩ := lrw u (List.mem_of_getElem? hu)
      walk_at "g"
      refine ⟨rfl, ?_⟩
      walk_at "g"
      refine ⟨a, ru, S, u, tr, rfl, hs2.sm sa, (hru.sm sa).sq, by omega, l2, fun H4 s4 => hKp _ _ s4 ?_⟩
      rw [hws, take_more hu, List.map_append]
      rfl
    case he =>
      rw [lv, List.take_length] at hws
      walk_at "g"
      refine k_all (bs := rs.map (fitF S)) (sq_l (by rw [ep, hws, List.map_map]; rfl)) ?_
      rw [show (rs.map (fitF S)).all id = rs.all (fitF S) by rw [List.all_map]; rfl]
      unfold lotF at q
      cases ea : rs.all (fitF S) with
      | false =>
        rw [ea] at q
        walk_at "g"
        exact q _ s3
      | true =>
        rw [ea, Bool.true_and] at q
        have hrw : ∀ u ∈ rs, AllW S u := fun u hu => (fitF_all ok).mp (List.all_eq_true.mp ea u hu)
        have hl3 := sm_l s3 hl2
        have hp3 := RwB.sm s3 hp2
        have hx3 := hx2.sm s3
        walk_at "g"
        refine k_nDcT (walk_list (xs := vs2)) (fun H' s => sm_l s hl3) (fun i kvs => KnowsR kvs (rs.take i) i) ⟨Nat.le_refl _, fun u => by rw [List.take_zero]; rfl⟩ (fun i kvs hi hk => ?hz2) (fun i x Hc Hd kvs Kp Ks hi sa hk hy2 hKp hKs => ?ht2) (fun pk H4 kvs nk s4 ek hk => ?he2)
        case hz2 =>
          have := hk.l
          omega
        case ht2 =>
          obtain ⟨rfl, hv⟩ := hy2
          obtain ⟨u, hu, ru, rfl, hru⟩ := paired_at hp3 hv
          walk_at "g"
          refine ⟨rfl, ?_⟩
          walk_at "g"
          refine k_tup_B (hru.sm sa) (fun pt H5 s5 e5 => ?_)
          walk_at "g"
          refine hKp pt (rk u) _ _ s5 (by rw [rk_kV]; exact e5) ⟨?_, fun v => ?_⟩
          · have := length_putK kvs (rk u) (V.bl true)
            have := hk.l
            omega
          · rw [put_some, hk.h v, take_more hu]
            by_cases c : u = v
            · subst c
              rw [decide_eq_true rfl, Bool.true_or, decide_eq_true (List.mem_append_right _ (List.mem_singleton.mpr rfl))]
            · rw [decide_eq_false (fun z => c (rk_inj z)), Bool.false_or]
              exact decide_eq_decide.mpr ⟨fun h => List.mem_append_left _ h, fun h => (List.mem_append.mp h).elim id fun h => absurd (List.mem_singleton.mp h).symm c⟩
        case he2 =>
          rw [lv, List.take_length] at hk
          have hl4 := sm_l s4 hl3
          have hp4 := RwB.sm s4 hp3
          have s24 := s3.trans s4
          walk_at "g"
          refine k_tup_B (hx3.sm s4) (fun pt H5 s5 e5 => ?_)
          have ek5 := s5 _ _ ek
          have s25 := s24.trans s5
          walk_at "g"
          refine k_nDiT ek5 (k := rk us) (by rw [rk_kV]; exact e5) ?_
          rw [hk.h us]
          by_cases hm : us ∈ rs
          · rw [decide_eq_true hm] at q ⊢
            rw [Bool.true_and] at q
            walk_at "g"
            refine k_bF rfl ?_
            have hl5 := sm_l s5 hl4
            have hp5 := RwB.sm s5 hp4
            walk_at "g"
            refine k_nLc (walk_list (xs := vs2)) (fun H' s => sm_l s hl5) (fun i ws => ws = (rs.take i).map fun u => V.bl (fulD S z ds u)) rfl (fun i ws hi hw => ?hz3) (fun i x Hc Hd ws6 Kp Ks hi sa hws hy2 hKp hKs => ?ht3) (fun p6 H6 ws6 n6 s6 e6 hws6 => ?he3)
            case hz3 =>
              rw [hw, List.length_map, List.length_take]
              omega
            case ht3 =>
              obtain ⟨rfl, hv⟩ := hy2
              obtain ⟨u, hu, ru, rfl, hru⟩ := paired_at hp5 hv
              have hum := List.mem_of_getElem? hu
              obtain ⟨l1, l2⟩ := lrw u hum
              walk_at "g"
              refine ⟨rfl, ?_⟩
              walk_at "g"
              have s2a := s25.trans sa
              refine ⟨a, t, ru, S, z, ws, ds, u, tr, rfl, hs2.sm s2a, ok, sm_t s2a hT2, dpall_sm s2a hds2, hy, (hru.sm sa).sq, hrw u hum, by omega, fun H7 s7 => hKp _ _ s7 ?_⟩
              rw [hws, take_more hu, List.map_append]
              rfl
            case he3 =>
              rw [lv, List.take_length] at hws6
              walk_at "g"
              refine k_any (bs := rs.map (fulD S z ds)) (sq_l (by rw [e6, hws6, List.map_map]; rfl)) ?_
              rw [show (rs.map (fulD S z ds)).any id = rs.any (fulD S z ds) by rw [List.any_map]; rfl]
              have s26 := s25.trans s6
              cases ef : rs.any (fulD S z ds) with
              | true =>
                rw [ef] at q
                walk_at "g"
                exact q _ s26
              | false =>
                rw [ef, Bool.not_false, Bool.true_and] at q
                have hl6 := sm_l s6 hl5
                have hp6 := RwB.sm s6 hp5
                have ek6 := s6 _ _ ek5
                walk_at "g"
                refine k_nFor (walk_list (xs := vs2)) (fun i σ H' => (∃ y5 y6 y7, σ = [some (.ref a), some (.ref r), some (.ref t), some (.ref l), some (.ref pk), y5, y6, y7]) ∧ Same H6 H' ∧ ((rs.take i).all fun u => (bitesF S u).all fun x => decide (x.2 ∈ rs)) = true) ⟨⟨_, _, _, rfl⟩, Same.refl _, rfl⟩ (fun i σ H' _ h => sm_l h.2.1 hl6) (fun i x σ Ha Hb hi h hy2 => ?ht4) (fun σ H' h => ?he4)
                case he4 =>
                  obtain ⟨⟨y5, y6, y7, rfl⟩, sa, hall⟩ := h
                  rw [lv, List.take_length] at hall
                  rw [hall] at q
                  walk_at "g"
                  exact q _ (s26.trans sa)
                case ht4 =>
                  obtain ⟨⟨y5, y6, y7, rfl⟩, sa, hall⟩ := h
                  obtain ⟨rfl, hv⟩ := hy2
                  obtain ⟨u, hu, ru, rfl, hru⟩ := paired_at hp6 hv
                  have hum := List.mem_of_getElem? hu
                  obtain ⟨l1, l2⟩ := lrw u hum
                  walk_at "g"
                  refine k_list_b (hru.sm sa).sq (fun p7 H7 n7 s7 e7 => ?_)
                  have s2a := s26.trans (sa.trans s7)
                  walk_at "g"
                  refine ⟨a, p7, S, u, rfl, hs2.sm s2a, ok, sq_l e7, hrw u hum, by omega, fun p8 ws8 H8 n8 s8 e8 b8 => ?_⟩
                  have ek8 := s8 _ _ (s7 _ _ (sa _ _ ek6))
                  have l8 := b8.len
                  have fl : (bitesF S u).length ≤ 10000 := Nat.le_trans (flat_len (S := S) (us := u) u.length) (by omega)
                  walk_at "g"
                  refine k_nLc (walk_list (xs := ws8)) (fun H' s => sq_l (s _ _ e8)) (fun i ws => ws = ((bitesF S u).take i).map fun x => V.bl (decide (x.2 ∈ rs))) rfl (fun i ws hi hw => ?hz5) (fun i x Hc Hd ws9 Kp Ks hi sc hws hy3 hKp hKs => ?ht5) (fun p9 H9 ws9 n9 s9 e9 hws9 => ?he5)
                  case hz5 =>
                    rw [hw, List.length_map, List.length_take]
                    omega
                  case ht5 =>
                    obtain ⟨rfl, hv3⟩ := hy3
                    obtain ⟨x, hx1, hbx⟩ := b8.get hv3
                    obtain ⟨tt, tb, tm, rfl, h1, h2, h3, h4⟩ := hbx
                    walk_at "g"
                    refine ⟨rfl, ?_⟩
                    walk_at "g"
                    refine k_tup_l (sq_l (sc _ _ h3)) (fun pm Hm nm sm em => ?_)
                    walk_at "g"
                    refine k_nDiT (sm _ _ (sc _ _ ek8)) (k := rk x.2) (by rw [rk_kV]; exact em) ?_
                    rw [hk.h x.2]
                    refine hKp _ _ sm ?_
                    rw [hws, take_more hx1, List.map_append]
                    rfl
                  case he5 =>
                    rw [l8, List.take_length] at hws9
                    walk_at "g"
                    refine k_all (bs := (bitesF S u).map fun x => decide (x.2 ∈ rs)) (sq_l (by rw [e9, hws9, List.map_map]; rfl)) ?_
                    rw [show ((bitesF S u).map fun x => decide (x.2 ∈ rs)).all id = (bitesF S u).all fun x => decide (x.2 ∈ rs) by rw [List.all_map]; rfl]
                    have s69 := sa.trans (s7.trans (s8.trans s9))
                    cases eb : (bitesF S u).all fun x => decide (x.2 ∈ rs) with
                    | false =>
                      walk_at "g"
                      have hno : (rs.all fun r => (bitesF S r).all fun x => decide (x.2 ∈ rs)) = false := by
                        rw [List.all_eq_false]
                        exact ⟨u, hum, by rw [eb]; exact Bool.false_ne_true⟩
                      rw [hno] at q
                      exact q _ (s26.trans s69)
                    | true =>
                      walk_at "g"
                      refine ⟨⟨_, _, _, rfl⟩, s69, ?_⟩
                      rw [take_more hu, List.all_append, hall, Bool.true_and, List.all_cons, eb]
                      rfl
          · rw [decide_eq_false hm] at q ⊢
            walk_at "g"
            refine k_bT rfl ?_
            walk_at "g"
            exact q _ s25
end
end Lw
set_option autoImplicit true
set_option pp.maxSteps 1200
set_option Elab.async false
set_option linter.all false
set_option maxRecDepth 100000
set_option maxHeartbeats 1000000
namespace Lw
open PySem PySem.Spec PyProof.Rows L2 Gk

local macro_rules | `(tactic| walk_at "hp") => `(tactic| first | assumption | exact upd_same | (refine' (upd_ne ?n).trans ?h; (case n => assumption); (case h => walk_at "hp")) | (refine' sm_get ?s ?h; (case s => assumption); (case h => walk_at "hp")))
local macro_rules | `(tactic| walk_at "sq") => `(tactic| first | assumption | (refine' sq_l ?h; (case h => walk_at "hp")) | (refine' sm_l ?s ?h; (case s => assumption); (case h => walk_at "sq")))
local macro_rules | `(tactic| walk_at "st") => `(tactic| first | assumption | (refine' sq_t ?h; (case h => walk_at "hp")) | (refine' sm_t ?s ?h; (case s => assumption); (case h => walk_at "st")))
local macro_rules | `(tactic| walk_at "bg") => `(tactic| first | assumption | (refine' BagOk.sm ?s ?h; (case s => assumption); (case h => walk_at "bg")))
local macro_rules | `(tactic| walk_at "sm") => `(tactic| first | assumption | exact Same.refl _ | (refine' Same.trans ?h ?s; (case s => assumption); (case h => walk_at "sm")))
local macro_rules | `(tactic| walk_at "hs") => `(tactic| first | assumption | (refine' HsAt.sm ?s ?h; (case s => assumption); (case h => walk_at "hs")))
local macro_rules | `(tactic| walk_at "ms") => `(tactic| first | assumption | (refine' MAt.sm ?s ?h; (case s => assumption); (case h => walk_at "ms")))
local macro_rules | `(tactic| walk_at "dp") => `(tactic| first | assumption | (refine' dp_sm ?s ?h; (case s => assumption); (case h => walk_at "dp")))
local macro_rules | `(tactic| walk_at "sz") => `(tactic| first | decide | assumption | omega | (simp only [List.length_cons, List.length_nil, List.length_map, List.length_append]; omega))
local macro_rules | `(tactic| walk_at "g1") => `(tactic| first
  | with_reducible refine k_seq ?_
  | with_reducible refine k_itB ?_
  | with_reducible refine k_next ?_
  | with_reducible refine k_asg ?_
  | with_reducible refine k_name ?_
  | with_reducible refine k_ret ?_
  | with_reducible refine k_retN ?_
  | with_reducible refine k_drop ?_
  | with_reducible refine k_ifs ?_
  | with_reducible refine k_brk ?_
  | with_reducible refine k_cont ?_
  | with_reducible refine k_ipI ?_
  | with_reducible refine k_test ?_
  | with_reducible refine k_tB ?_
  | with_reducible refine k_bl ?_
  | with_reducible refine k_not ?_
  | with_reducible refine k_and ?_
  | with_reducible refine k_or ?_
  | with_reducible refine k_yes ?_
  | with_reducible refine k_true ?_
  | with_reducible refine k_false ?_
  | with_reducible refine k_nt ?_
  | with_reducible refine k_c ?_
  | with_reducible refine k_op ?_
  | with_reducible refine k_un ?_
  | with_reducible refine k_if ?_
  | with_reducible refine k_chain ?_
  | with_reducible refine k_nil ?_
  | with_reducible refine k_cons ?_
  | with_reducible refine k_cb ?_
  | with_reducible refine k_call ?_
  | with_reducible refine k_callS ?_
  | with_reducible refine k_andV ?_
  | with_reducible refine k_orV ?_
  | with_reducible refine k_notV ?_
  | with_reducible refine k_lst ?_
  | with_reducible refine k_tup ?_
  | with_reducible refine k_nopart ?_
  | with_reducible refine k_part ?_
  | with_reducible refine k_nInt ?_
  | with_reducible refine k_sl ?_
  | with_reducible refine k_bm ?_
  | with_reducible refine k_bm0 ?_
  | with_reducible refine k_nTyS ?_
  | with_reducible refine k_m1 ?_
  | with_reducible refine k_m0 ?_
  | with_reducible refine k_nStr ?_
  | with_reducible refine k_I0 ?_
  | with_reducible refine k_U ?_
  | with_reducible refine k_add_i ?_
  | with_reducible refine k_eq_i ?_
  | with_reducible refine k_eq_s ?_
  | with_reducible refine k_eq_b ?_
  | with_reducible refine k_ne_i ?_
  | with_reducible refine k_ne_s ?_
  | with_reducible refine k_ne_b ?_
  | with_reducible refine k_le_i ?_
  | with_reducible refine k_le_s ?_
  | with_reducible refine k_gnil ?_
  | with_reducible refine k_gcons ?_
  | with_reducible refine k_gsub ?_
  | with_reducible refine k_for ?_
  | with_reducible refine k_lc ?_
  | with_reducible refine k_rng1 ?_
  | with_reducible refine k_rng2 ?_
  | with_reducible refine k_itl ?_
  | with_reducible refine k_itt ?_
  | with_reducible refine k_its ?_
  | with_reducible refine k_ite ?_
  | with_reducible refine k_iteB ?_
  | with_reducible refine k_lrg2 ?_
  | with_reducible refine k_itz ?_
  | with_reducible refine k_nIts ?_
  | with_reducible refine k_inS ?_
  | with_reducible refine k_niS ?_
  | with_reducible refine k_mk ?_
  | with_reducible refine k_meth ?_
  | with_reducible refine k_fld ?_
  | with_reducible refine k_sfld ?_
  | with_reducible refine k_dg ?_
  | with_reducible refine k_dp ?_
  | with_reducible refine k_pr ?_
  | with_reducible refine k_pr0 ?_
  | with_reducible refine k_sg ?_
  | with_reducible refine k_lc2 ?_
  | with_reducible refine k_callN ?_
  | with_reducible refine k_callNS ?_
  | with_reducible refine k_par ?_
  | with_reducible refine k_nPar ?_
  | with_reducible refine k_isNn ?_
  | with_reducible refine k_isNr ?_
  | with_reducible refine k_ntNn ?_
  | with_reducible refine k_ntNr ?_
  | with_reducible refine k_min2 ?_
  | with_reducible refine k_max2 ?_
  | with_reducible refine k_intB ?_
  | with_reducible refine k_intI ?_
  | with_reducible refine k_isBl ?_
  | with_reducible refine k_ntBl ?_
  | ((with_reducible refine' k_var ?kv ?_); (case kv => exact rfl))
  | ((with_reducible refine' k_aug ?kv ?_); (case kv => exact rfl))
  | ((with_reducible refine' k_ix_l ?ks ?ki ?_); (case ks => walk_at "sq"); (case ki => exact rfl))
  | ((with_reducible refine' k_ix_t ?ks ?ki ?_); (case ks => walk_at "st"); (case ki => exact rfl))
  | ((with_reducible refine' k_len_l ?ks ?_); (case ks => walk_at "sq"))
  | ((with_reducible refine' k_len_t ?ks ?_); (case ks => walk_at "st"))
  | ((with_reducible refine' k_setL ?ks ?ki ?_); (case ks => walk_at "hp"); (case ki => exact rfl))
  | ((with_reducible refine' k_nTyL ?ks ?_); (case ks => walk_at "sq"))
  | ((with_reducible refine' k_nItl ?ks ?_); (case ks => walk_at "sq"))
  | ((with_reducible refine' k_nItt ?ks ?_); (case ks => walk_at "st"))
  | ((with_reducible refine' k_nIte ?ks ?_); (case ks => walk_at "sq"))
  | ((with_reducible refine' k_mul ?km ?_); (case km => first | exact Or.inr ⟨by decide, by decide⟩ | exact Or.inl ⟨by decide, by decide⟩))
  | ((with_reducible refine' k_I ?km ?_); (case km => first | assumption | decide | exact ⟨by decide, by decide +kernel⟩ | exact ⟨by decide, by decide, by decide⟩))
  | ((with_reducible refine' k_nMeth ?kp ?kl ?_); (case kp => walk_at "hp"); (case kl => exact rfl))
  | ((with_reducible refine' k_nFld ?kp ?kc ?kn ?kl ?_); (case kp => walk_at "hp"); (case kc => assumption); (case kn => assumption); (case kl => exact rfl))
  | ((with_reducible refine' k_nSFld ?kp ?kc ?kn ?kl ?_); (case kp => walk_at "hp"); (case kc => assumption); (case kn => assumption); (case kl => exact of_decide_eq_true rfl))
  | ((with_reducible refine' k_nDg ?kp ?kl ?_); (case kp => walk_at "hp"); (case kl => exact rfl))
  | ((with_reducible refine' k_nRng1 ?k1 ?k2 ?_); (case k1 => omega); (case k2 => omega))
  | ((with_reducible refine' k_nKw ?k1 ?k2 ?_); (case k1 => exact rfl); (case k2 => exact rfl))
  | ((with_reducible refine' k_hsm ?kh ?_); (case kh => walk_at "hs"))
  | ((with_reducible refine' k_nMethH ?kh ?kl ?_); (case kh => walk_at "hs"); (case kl => exact fun _ _ => rfl))
  | ((with_reducible refine' k_mLet ?kh ?_); (case kh => walk_at "ms"))
  | ((with_reducible refine' k_mChew ?kh ?_); (case kh => walk_at "ms"))
  | ((with_reducible refine' k_mPut ?kh ?_); (case kh => walk_at "ms"))
  | ((with_reducible refine' k_mMost ?kh ?_); (case kh => walk_at "ms"))
  | ((with_reducible refine' k_mCut ?kh ?_); (case kh => walk_at "ms"))
  | ((with_reducible refine' k_gtup ?ks ?kl ?_); (case ks => walk_at "st"); (case kl => exact rfl)))
local macro_rules | `(tactic| walk_at "g") => `(tactic| repeat (walk_at "g1"))
local macro_rules | `(tactic| walk_at "w1") => `(tactic| first
  | walk_at "g1"
  | ((with_reducible refine' k_decT ?kp ?_); (case kp => omega))
  | ((with_reducible refine' k_decF ?kp ?_); (case kp => omega))
  | ((with_reducible refine' k_decNT ?kp ?_); (case kp => omega))
  | ((with_reducible refine' k_decNF ?kp ?_); (case kp => omega)))
local macro_rules | `(tactic| walk_at "w") => `(tactic| repeat (walk_at "w1"))


section
variable {P : Program} {w : World} {K : PySem.W.Frag} {mg : Str → Option Value} {base : Heap} {f : Addr} {fd : FuncData}
/-! ### orders -/
inductive Ord where
  | nm (z : Str)
  | nums (ns : List Int)
deriving DecidableEq
def OrdAt (K : PySem.W.Frag) (H : Hp) (v : V) : Ord → Prop
  | .nm z => v = .str z
  | .nums ns => ∃ p, v = .ref p ∧ SqL K H p (ns.map V.int)
theorem OrdAt.sm {H H' : Hp} {v : V} {o : Ord} (s : Same H H') (h : OrdAt K H v o) : OrdAt K H' v o := by
  cases o with
  | nm z => exact h
  | nums ns =>
    obtain ⟨p, e, h⟩ := h
    exact ⟨p, e, sm_l s h⟩
def dOrd : Ord → PyData
  | .nm z => .str z
  | .nums ns => .list (ns.map .int)
theorem OrdAt.dp {H : Hp} {v : V} {o : Ord} (h : OrdAt K H v o) : Dp K H v (dOrd o) := by
  cases o with
  | nm z => cases (show v = .str z from h); exact .str z
  | nums ns =>
    obtain ⟨p, rfl, h⟩ := h
    exact .lst h (dp_is ns)
/-- an order that can be handed in -/
def OrdFit : Ord → Prop
  | .nm z => Pl z ∧ z.length ≤ 1000
  | .nums ns => ns.length ≤ 1000 ∧ ∀ n ∈ ns, n.natAbs.log2 < 1900
theorem OrdFit.good {o : Ord} (h : OrdFit o) : Good 3 (dOrd o) := by
  cases o with
  | nm z => exact ⟨h.1, by have := h.2; omega⟩
  | nums ns => exact ⟨by rw [List.length_map]; have := h.1; omega, fun e he => by
      obtain ⟨n, hn, rfl⟩ := List.mem_map.mp he
      exact Nat.lt_of_lt_of_le (h.2 n hn) (by decide)⟩
theorem eqv_ordS (o : Ord) (z : Str) : PyData.eqv (dOrd o) (.str z) = decide (o = .nm z) := by
  cases o with
  | nm y =>
    simp only [dOrd, PyData.eqv]
    rw [Bool.eq_iff_iff]
    simp
  | nums ns => simp [dOrd, PyData.eqv]
theorem k_ordEq {H : Hp} {Q : VK} {v : V} {o : Ord} {z : Str} (h : OrdAt K H v o) (hf : OrdFit o) (hz : Good 1 (.str z)) (q : Q (.bl (decide (o = .nm z))) H) : rEqU K v (.str z) H Q := by
  refine k_eq_d h.dp (.str z) (hf.good.shaped (by decide)) (hz.shaped (by decide)) ?_
  rw [eqv_ordS]
  exact q
theorem good_last : Good 1 (.str (Str.ofString "last")) := ⟨pl_B (by decide +kernel), by decide +kernel⟩
theorem good_longest : Good 1 (.str (Str.ofString "longest")) := ⟨pl_B (by decide +kernel), by decide +kernel⟩
def isOrd : Ord → Bool
  | .nm z => decide (z = Str.ofString "first") || (decide (z = Str.ofString "last") || decide (z = Str.ofString "longest"))
  | .nums ns => ns.all fun n => decide (0 ≤ n)
/-! ### which bite -/
def eaterLen (us : List (List Nat)) (x : Bt × List (List Nat)) : Int := ((us.getD x.1.1 []).length : Nat)
def pickB (us : List (List Nat)) (bs : List (Bt × List (List Nat))) (o : Ord) (k : Nat) : Option (Bt × List (List Nat)) := match o with
  | .nm z => if z = Str.ofString "first" then bs.head? else if z = Str.ofString "last" then bs.getLast? else if z = Str.ofString "longest" then bs.find? (fun x => bs.all fun y => decide (eaterLen us y ≤ eaterLen us x)) else none
  | .nums ns => match ns[k]? with
    | some n => bs[(n % (bs.length : Int)).toNat]?
    | none => none
theorem getLast_at {α : Type} {l : List α} {x : α} (h : l.getLast? = some x) : l[l.length - 1]? = some x := by rw [← List.getLast?_eq_getElem?]; exact h
theorem at_last {xs : List V} {v : V} (h : xs[xs.length - 1]? = some v) (h0 : 0 < xs.length) : atI xs (-1) = some v := by
  unfold atI ixN
  rw [if_neg (by decide), if_pos (by omega)]
  show xs[((xs.length : Int) + -1).toNat]? = some v
  rw [show ((xs.length : Int) + -1).toNat = xs.length - 1 by omega]
  exact h
theorem find_filter {α : Type} (p : α → Bool) (l : List α) : (l.filter p).head? = l.find? p := by
  induction l with
  | nil => rfl
  | cons a l ih =>
    rw [List.filter_cons, List.find?_cons]
    cases h : p a with
    | true => rfl
    | false => exact ih
theorem top_eq {us : List (List Nat)} {bs : List (Bt × List (List Nat))} {m : Int} (h1 : m ∈ bs.map (eaterLen us)) (h2 : ∀ y, y ∈ bs.map (eaterLen us) → y ≤ m) : bs.find? (fun x => decide (eaterLen us x = m)) = bs.find? (fun x => bs.all fun y => decide (eaterLen us y ≤ eaterLen us x)) := by
  have key : ∀ x ∈ bs, (decide (eaterLen us x = m)) = (bs.all fun y => decide (eaterLen us y ≤ eaterLen us x)) := by
    intro x hx
    rw [Bool.eq_iff_iff, decide_eq_true_eq, List.all_eq_true]
    constructor
    · intro e y hy
      rw [decide_eq_true_eq, e]
      exact h2 _ (List.mem_map.mpr ⟨y, hy, rfl⟩)
    · intro h
      obtain ⟨z, hz, e⟩ := List.mem_map.mp h1
      have a := of_decide_eq_true (h z hz)
      have b := h2 _ (List.mem_map.mpr ⟨x, hx, rfl⟩)
      omega
  have gen : ∀ (p q : Bt × List (List Nat) → Bool) (l : List (Bt × List (List Nat))), (∀ x ∈ l, p x = q x) → l.find? p = l.find? q := by
    intro p q l
    induction l with
    | nil => intro _; rfl
    | cons a l ih =>
      intro h
      rw [List.find?_cons, List.find?_cons, h a (List.mem_cons_self ..), ih fun x hx => h x (List.mem_cons_of_mem _ hx)]
  exact gen _ _ _ key
theorem pick_mem {us : List (List Nat)} {bs : List (Bt × List (List Nat))} {o : Ord} {k : Nat} {x : Bt × List (List Nat)} (h : pickB us bs o k = some x) : x ∈ bs := by
  unfold pickB at h
  cases o with
  | nm z =>
    dsimp only at h
    by_cases h1 : z = Str.ofString "first"
    · rw [if_pos h1] at h
      exact List.mem_of_head? h
    rw [if_neg h1] at h
    by_cases h2 : z = Str.ofString "last"
    · rw [if_pos h2] at h
      exact List.mem_of_getLast? h
    rw [if_neg h2] at h
    by_cases h3 : z = Str.ofString "longest"
    · rw [if_pos h3] at h
      exact List.mem_of_find?_eq_some h
    rw [if_neg h3] at h
    cases h
  | nums ns =>
    dsimp only at h
    cases e : ns[k]? with
    | none => rw [e] at h; cases h
    | some n => rw [e] at h; exact List.mem_of_getElem? h
theorem pick_some {us : List (List Nat)} {bs : List (Bt × List (List Nat))} {o : Ord} {k : Nat} (h0 : bs ≠ []) (ho : isOrd o = true) (hk : ∀ ns, o = .nums ns → k < ns.length) : ∃ x, pickB us bs o k = some x := by
  have l0 : 0 < bs.length := List.length_pos_iff.mpr h0
  cases o with
  | nm z =>
    unfold isOrd at ho
    dsimp only at ho
    by_cases h1 : z = Str.ofString "first"
    · refine ⟨bs.head h0, ?_⟩
      show (if z = _ then _ else _) = _
      rw [if_pos h1]
      exact List.head?_eq_some_head h0
    by_cases h2 : z = Str.ofString "last"
    · refine ⟨bs.getLast h0, ?_⟩
      show (if z = _ then _ else _) = _
      rw [if_neg h1, if_pos h2]
      exact List.getLast?_eq_some_getLast h0
    have h3 : z = Str.ofString "longest" := by
      rw [decide_eq_false h1, decide_eq_false h2, Bool.false_or, Bool.false_or] at ho
      exact of_decide_eq_true ho
    show ∃ x, (if z = _ then _ else _) = _
    rw [if_neg h1, if_neg h2, if_pos h3]
    have ex : ∃ x ∈ bs, ∀ y ∈ bs, eaterLen us y ≤ eaterLen us x := by
      clear ho h1 h2 h3 hk l0
      induction bs with
      | nil => exact absurd rfl h0
      | cons a l ih =>
        by_cases hl : l = []
        · subst hl
          exact ⟨a, List.mem_cons_self .., fun y hy => by rw [List.mem_singleton.mp hy]; exact Int.le_refl _⟩
        · obtain ⟨x, hx, hm⟩ := ih hl
          by_cases hle : eaterLen us a ≤ eaterLen us x
          · exact ⟨x, List.mem_cons_of_mem _ hx, fun y hy => (List.mem_cons.mp hy).elim (fun e => by rw [e]; exact hle) (hm y)⟩
          · exact ⟨a, List.mem_cons_self .., fun y hy => (List.mem_cons.mp hy).elim (fun e => by rw [e]; exact Int.le_refl _) fun h => by have := hm y h; omega⟩
    obtain ⟨x, hx, hm⟩ := ex
    cases e : bs.find? (fun x => bs.all fun y => decide (eaterLen us y ≤ eaterLen us x)) with
    | some y => exact ⟨y, rfl⟩
    | none =>
      have := List.find?_eq_none.mp e x hx
      exact absurd (List.all_eq_true.mpr fun y hy => decide_eq_true (hm y hy)) this
  | nums ns =>
    have hk := hk ns rfl
    show ∃ x, (match ns[k]? with | some n => _ | none => none) = some x
    rw [List.getElem?_eq_getElem hk]
    have m1 := Int.emod_lt_of_pos ns[k] (show (0 : Int) < bs.length by omega)
    have m0 := Int.emod_nonneg ns[k] (show (bs.length : Int) ≠ 0 by omega)
    exact ⟨_, List.getElem?_eq_getElem (show (ns[k] % (bs.length : Int)).toNat < bs.length by omega)⟩
/-! ### a run -/
def runF (S : HsD) (o : Ord) : Nat → Nat → List (List Nat) → List (List Nat) × List Bt
  | 0, _, us => (us, [])
  | n + 1, k, us => match pickB us (bitesF S us) o k with
    | none => (us, [])
    | some x => ((runF S o n (k + 1) x.2).1, x.1 :: (runF S o n (k + 1) x.2).2)
theorem runF_none {S : HsD} {o : Ord} {n k : Nat} {us : List (List Nat)} (h : pickB us (bitesF S us) o k = none) : runF S o (n + 1) k us = (us, []) := by
  show (match pickB us (bitesF S us) o k with | none => _ | some x => _) = _
  rw [h]
theorem runF_some {S : HsD} {o : Ord} {n k : Nat} {us : List (List Nat)} {x : Bt × List (List Nat)} (h : pickB us (bitesF S us) o k = some x) : runF S o (n + 1) k us = ((runF S o n (k + 1) x.2).1, x.1 :: (runF S o n (k + 1) x.2).2) := by
  show (match pickB us (bitesF S us) o k with | none => _ | some x => _) = _
  rw [h]
theorem pick_nil {us : List (List Nat)} {o : Ord} {k : Nat} : pickB us [] o k = none := by
  cases e : pickB us [] o k with
  | none => rfl
  | some x => exact absurd (pick_mem e) List.not_mem_nil
def boundF (o : Ord) (most : Nat) : Nat := match o with
  | .nm _ => most
  | .nums ns => min most ns.length
end
end Lw
set_option autoImplicit true
set_option pp.maxSteps 1200
set_option Elab.async false
set_option linter.all false
set_option maxRecDepth 100000
set_option maxHeartbeats 1000000
namespace Lw
open PySem PySem.Spec PyProof.Rows L2 Gk NdefX
open LamX hiding takes0
/-! ### the law's own going out, row by row, held against the depths -/
def pStep (S : HsD) (L : List Came) (i : Nat) : List Came := match L[i]? with
  | none => L
  | some r => (addR S (L, []) r.row).1
def fitsW (mw : Option Nat) (n : Nat) : Bool := match mw with
  | none => true
  | some w => decide (n ≤ w)
/-- may the row at i be gone through -/
def mayQ (cap : Nat) (mw : Option Nat) (L : List Came) (i : Nat) : Bool := match L[i]? with
  | none => false
  | some r => decide (L.length ≤ cap) && fitsW mw r.row.length
def qStep (S : HsD) (cap : Nat) (mw : Option Nat) (L : List Came) (i : Nat) : List Came := if mayQ cap mw L i = true then pStep S L i else L
theorem qStep_yes {S : HsD} {cap : Nat} {mw : Option Nat} {L : List Came} {i : Nat} {r : Came} (h : L[i]? = some r) (h1 : L.length ≤ cap) (h2 : fitsW mw r.row.length = true) : qStep S cap mw L i = (addR S (L, []) r.row).1 := by
  unfold qStep mayQ pStep
  rw [h]
  exact if_pos (Bool.and_eq_true_iff.mpr ⟨decide_eq_true h1, h2⟩)
theorem qStep_out {S : HsD} {cap : Nat} {mw : Option Nat} {L : List Came} {i : Nat} (h : L.length ≤ i) : qStep S cap mw L i = L := by
  unfold qStep mayQ
  rw [List.getElem?_eq_none h]
  exact if_neg Bool.false_ne_true
theorem qStep_full {S : HsD} {cap : Nat} {mw : Option Nat} {L : List Came} {i : Nat} (h : cap < L.length) : qStep S cap mw L i = L := by
  unfold qStep mayQ
  cases e : L[i]? with
  | none => exact if_neg Bool.false_ne_true
  | some r =>
    refine if_neg fun z => ?_
    have := of_decide_eq_true (ba z).1
    omega
def qF (S : HsD) (us : List (List Nat)) (cap : Nat) (mw : Option Nat) (n : Nat) : List Came := (List.range n).foldl (qStep S cap mw) [⟨us, 0, none⟩]
def pF (S : HsD) (us : List (List Nat)) (n : Nat) : List Came := (List.range n).foldl (pStep S) [⟨us, 0, none⟩]
theorem qF_succ (S : HsD) (us : List (List Nat)) (cap : Nat) (mw : Option Nat) (n : Nat) : qF S us cap mw (n + 1) = qStep S cap mw (qF S us cap mw n) n := by
  unfold qF
  rw [List.range_succ, List.foldl_append]
  rfl
/-- words, lengths -/
theorem qF_ok {S : HsD} (ok : HsOk S) {us : List (List Nat)} (hw : AllW S us) {cap : Nat} {mw : Option Nat} : ∀ n, (∀ r ∈ qF S us cap mw n, AllW S r.row ∧ r.row.length ≤ us.length + 8 * n) ∧ (qF S us cap mw n).length ≤ cap + 1 + 2 * (us.length + 8 * n) ∧ us ∈ rowsC (qF S us cap mw n) := by
  intro n
  induction n with
  | zero =>
    refine ⟨fun r hr => ?_, ?_, List.mem_singleton.mpr rfl⟩
    · have e : r = ⟨us, 0, none⟩ := List.mem_singleton.mp hr
      rw [e]
      exact ⟨hw, Nat.le_add_right _ _⟩
    · show 1 ≤ _
      omega
  | succ n ih =>
    obtain ⟨h1, h2, h3⟩ := ih
    rw [qF_succ]
    unfold qStep
    split
    · rename_i hc
      unfold pStep
      unfold mayQ at hc
      cases hr : (qF S us cap mw n)[n]? with
      | none => rw [hr] at hc; cases hc
      | some r =>
        rw [hr] at hc
        have lc : (qF S us cap mw n).length ≤ cap := of_decide_eq_true (ba hc).1
        obtain ⟨w1, w2⟩ := h1 r (List.mem_of_getElem? hr)
        have hb : ∀ x ∈ bitesF S r.row, AllW S x.2 ∧ x.2.length ≤ us.length + 8 * (n + 1) := fun x hx => by
          obtain ⟨z1, z2⟩ := behF_words ok w1 (bitesF_in.mp hx).2
          exact ⟨z1, by omega⟩
        have fold : ∀ (xs : List (Bt × List (List Nat))) (st : List Came × List (List (List Nat))), (∀ x ∈ xs, x ∈ bitesF S r.row) → (∀ q ∈ st.1, AllW S q.row ∧ q.row.length ≤ us.length + 8 * (n + 1)) → us ∈ rowsC st.1 →
            (∀ q ∈ (xs.foldl (addB r.row (depOf (qF S us cap mw n) r.row)) st).1, AllW S q.row ∧ q.row.length ≤ us.length + 8 * (n + 1)) ∧ us ∈ rowsC (xs.foldl (addB r.row (depOf (qF S us cap mw n) r.row)) st).1 := by
          intro xs
          induction xs with
          | nil => exact fun st _ h hu => ⟨h, hu⟩
          | cons x xs ih2 =>
            intro st hx h hu
            rw [List.foldl_cons]
            have step : (∀ q ∈ (addB r.row (depOf (qF S us cap mw n) r.row) st x).1, AllW S q.row ∧ q.row.length ≤ us.length + 8 * (n + 1)) ∧ us ∈ rowsC (addB r.row (depOf (qF S us cap mw n) r.row) st x).1 := by
              unfold addB
              split
              · exact ⟨h, hu⟩
              · refine ⟨fun q hq => ?_, ?_⟩
                · rcases List.mem_append.mp hq with hq | hq
                  · exact h q hq
                  · rw [List.mem_singleton.mp hq]
                    exact hb x (hx x (List.mem_cons_self ..))
                · show us ∈ (st.1 ++ [_]).map _
                  rw [List.map_append]
                  exact List.mem_append_left _ hu
            exact ih2 _ (fun y hy => hx y (List.mem_cons_of_mem _ hy)) step.1 step.2
        obtain ⟨f1, f2⟩ := fold (bitesF S r.row) (qF S us cap mw n, []) (fun _ z => z) (fun q hq => by
          obtain ⟨a, b⟩ := h1 q hq
          exact ⟨a, by omega⟩) h3
        refine ⟨f1, ?_, f2⟩
        have m1 := addB_most r.row (depOf (qF S us cap mw n) r.row) (bitesF S r.row) (qF S us cap mw n, [])
        have m2 : (bitesF S r.row).length ≤ 2 * r.row.length := flat_len (S := S) (us := r.row) r.row.length
        show ((bitesF S r.row).foldl (addB r.row (depOf (qF S us cap mw n) r.row)) (qF S us cap mw n, [])).1.length ≤ _
        have e : (qF S us cap mw n, ([] : List (List (List Nat)))).1.length = (qF S us cap mw n).length := rfl
        omega
    · exact ⟨fun r hr => by
        obtain ⟨a, b⟩ := h1 r hr
        exact ⟨a, by omega⟩, by omega, h3⟩
end Lw
set_option autoImplicit true
set_option pp.maxSteps 1200
set_option Elab.async false
set_option linter.all false
set_option maxRecDepth 100000
set_option maxHeartbeats 1000000
namespace Lw
open PySem PySem.Spec PyProof.Rows L2 Gk

local macro_rules | `(tactic| walk_at "hp") => `(tactic| first | assumption | exact upd_same | (refine' (upd_ne ?n).trans ?h; (case n => assumption); (case h => walk_at "hp")) | (refine' sm_get ?s ?h; (case s => assumption); (case h => walk_at "hp")))
local macro_rules | `(tactic| walk_at "sq") => `(tactic| first | assumption | (refine' sq_l ?h; (case h => walk_at "hp")) | (refine' sm_l ?s ?h; (case s => assumption); (case h => walk_at "sq")))
local macro_rules | `(tactic| walk_at "st") => `(tactic| first | assumption | (refine' sq_t ?h; (case h => walk_at "hp")) | (refine' sm_t ?s ?h; (case s => assumption); (case h => walk_at "st")))
local macro_rules | `(tactic| walk_at "bg") => `(tactic| first | assumption | (refine' BagOk.sm ?s ?h; (case s => assumption); (case h => walk_at "bg")))
local macro_rules | `(tactic| walk_at "sm") => `(tactic| first | assumption | exact Same.refl _ | (refine' Same.trans ?h ?s; (case s => assumption); (case h => walk_at "sm")))
local macro_rules | `(tactic| walk_at "hs") => `(tactic| first | assumption | (refine' HsAt.sm ?s ?h; (case s => assumption); (case h => walk_at "hs")))
local macro_rules | `(tactic| walk_at "ms") => `(tactic| first | assumption | (refine' MAt.sm ?s ?h; (case s => assumption); (case h => walk_at "ms")))
local macro_rules | `(tactic| walk_at "dp") => `(tactic| first | assumption | (refine' dp_sm ?s ?h; (case s => assumption); (case h => walk_at "dp")))
local macro_rules | `(tactic| walk_at "sz") => `(tactic| first | decide | assumption | omega | (simp only [List.length_cons, List.length_nil, List.length_map, List.length_append]; omega))
local macro_rules | `(tactic| walk_at "g1") => `(tactic| first
  | with_reducible refine k_seq ?_
  | with_reducible refine k_itB ?_
  | with_reducible refine k_next ?_
  | with_reducible refine k_asg ?_
  | with_reducible refine k_name ?_
  | with_reducible refine k_ret ?_
  | with_reducible refine k_retN ?_
  | with_reducible refine k_drop ?_
  | with_reducible refine k_ifs ?_
  | with_reducible refine k_brk ?_
  | with_reducible refine k_cont ?_
  | with_reducible refine k_ipI ?_
  | with_reducible refine k_test ?_
  | with_reducible refine k_tB ?_
  | with_reducible refine k_bl ?_
  | with_reducible refine k_not ?_
  | with_reducible refine k_and ?_
  | with_reducible refine k_or ?_
  | with_reducible refine k_yes ?_
  | with_reducible refine k_true ?_
  | with_reducible refine k_false ?_
  | with_reducible refine k_nt ?_
  | with_reducible refine k_c ?_
  | with_reducible refine k_op ?_
  | with_reducible refine k_un ?_
  | with_reducible refine k_if ?_
  | with_reducible refine k_chain ?_
  | with_reducible refine k_nil ?_
  | with_reducible refine k_cons ?_
  | with_reducible refine k_cb ?_
  | with_reducible refine k_call ?_
  | with_reducible refine k_callS ?_
  | with_reducible refine k_andV ?_
  | with_reducible refine k_orV ?_
  | with_reducible refine k_notV ?_
  | with_reducible refine k_lst ?_
  | with_reducible refine k_tup ?_
  | with_reducible refine k_nopart ?_
  | with_reducible refine k_part ?_
  | with_reducible refine k_nInt ?_
  | with_reducible refine k_sl ?_
  | with_reducible refine k_bm ?_
  | with_reducible refine k_bm0 ?_
  | with_reducible refine k_nTyS ?_
  | with_reducible refine k_m1 ?_
  | with_reducible refine k_m0 ?_
  | with_reducible refine k_nStr ?_
  | with_reducible refine k_I0 ?_
  | with_reducible refine k_U ?_
  | with_reducible refine k_add_i ?_
  | with_reducible refine k_eq_i ?_
  | with_reducible refine k_eq_s ?_
  | with_reducible refine k_eq_b ?_
  | with_reducible refine k_ne_i ?_
  | with_reducible refine k_ne_s ?_
  | with_reducible refine k_ne_b ?_
  | with_reducible refine k_le_i ?_
  | with_reducible refine k_le_s ?_
  | with_reducible refine k_gnil ?_
  | with_reducible refine k_gcons ?_
  | with_reducible refine k_gsub ?_
  | with_reducible refine k_for ?_
  | with_reducible refine k_lc ?_
  | with_reducible refine k_rng1 ?_
  | with_reducible refine k_rng2 ?_
  | with_reducible refine k_itl ?_
  | with_reducible refine k_itt ?_
  | with_reducible refine k_its ?_
  | with_reducible refine k_ite ?_
  | with_reducible refine k_iteB ?_
  | with_reducible refine k_lrg2 ?_
  | with_reducible refine k_itz ?_
  | with_reducible refine k_nIts ?_
  | with_reducible refine k_inS ?_
  | with_reducible refine k_niS ?_
  | with_reducible refine k_mk ?_
  | with_reducible refine k_meth ?_
  | with_reducible refine k_fld ?_
  | with_reducible refine k_sfld ?_
  | with_reducible refine k_dg ?_
  | with_reducible refine k_dp ?_
  | with_reducible refine k_pr ?_
  | with_reducible refine k_pr0 ?_
  | with_reducible refine k_sg ?_
  | with_reducible refine k_lc2 ?_
  | with_reducible refine k_callN ?_
  | with_reducible refine k_callNS ?_
  | with_reducible refine k_par ?_
  | with_reducible refine k_nPar ?_
  | with_reducible refine k_isNn ?_
  | with_reducible refine k_isNr ?_
  | with_reducible refine k_ntNn ?_
  | with_reducible refine k_ntNr ?_
  | with_reducible refine k_min2 ?_
  | with_reducible refine k_max2 ?_
  | with_reducible refine k_intB ?_
  | with_reducible refine k_intI ?_
  | with_reducible refine k_isBl ?_
  | with_reducible refine k_ntBl ?_
  | ((with_reducible refine' k_var ?kv ?_); (case kv => exact rfl))
  | ((with_reducible refine' k_aug ?kv ?_); (case kv => exact rfl))
  | ((with_reducible refine' k_ix_l ?ks ?ki ?_); (case ks => walk_at "sq"); (case ki => exact rfl))
  | ((with_reducible refine' k_ix_t ?ks ?ki ?_); (case ks => walk_at "st"); (case ki => exact rfl))
  | ((with_reducible refine' k_len_l ?ks ?_); (case ks => walk_at "sq"))
  | ((with_reducible refine' k_len_t ?ks ?_); (case ks => walk_at "st"))
  | ((with_reducible refine' k_setL ?ks ?ki ?_); (case ks => walk_at "hp"); (case ki => exact rfl))
  | ((with_reducible refine' k_nTyL ?ks ?_); (case ks => walk_at "sq"))
  | ((with_reducible refine' k_nItl ?ks ?_); (case ks => walk_at "sq"))
  | ((with_reducible refine' k_nItt ?ks ?_); (case ks => walk_at "st"))
  | ((with_reducible refine' k_nIte ?ks ?_); (case ks => walk_at "sq"))
  | ((with_reducible refine' k_mul ?km ?_); (case km => first | exact Or.inr ⟨by decide, by decide⟩ | exact Or.inl ⟨by decide, by decide⟩))
  | ((with_reducible refine' k_I ?km ?_); (case km => first | assumption | decide | exact ⟨by decide, by decide +kernel⟩ | exact ⟨by decide, by decide, by decide⟩))
  | ((with_reducible refine' k_nMeth ?kp ?kl ?_); (case kp => walk_at "hp"); (case kl => exact rfl))
  | ((with_reducible refine' k_nFld ?kp ?kc ?kn ?kl ?_); (case kp => walk_at "hp"); (case kc => assumption); (case kn => assumption); (case kl => exact rfl))
  | ((with_reducible refine' k_nSFld ?kp ?kc ?kn ?kl ?_); (case kp => walk_at "hp"); (case kc => assumption); (case kn => assumption); (case kl => exact of_decide_eq_true rfl))
  | ((with_reducible refine' k_nDg ?kp ?kl ?_); (case kp => walk_at "hp"); (case kl => exact rfl))
  | ((with_reducible refine' k_nRng1 ?k1 ?k2 ?_); (case k1 => omega); (case k2 => omega))
  | ((with_reducible refine' k_nKw ?k1 ?k2 ?_); (case k1 => exact rfl); (case k2 => exact rfl))
  | ((with_reducible refine' k_hsm ?kh ?_); (case kh => walk_at "hs"))
  | ((with_reducible refine' k_nMethH ?kh ?kl ?_); (case kh => walk_at "hs"); (case kl => exact fun _ _ => rfl))
  | ((with_reducible refine' k_mLet ?kh ?_); (case kh => walk_at "ms"))
  | ((with_reducible refine' k_mChew ?kh ?_); (case kh => walk_at "ms"))
  | ((with_reducible refine' k_mPut ?kh ?_); (case kh => walk_at "ms"))
  | ((with_reducible refine' k_mMost ?kh ?_); (case kh => walk_at "ms"))
  | ((with_reducible refine' k_mCut ?kh ?_); (case kh => walk_at "ms"))
  | ((with_reducible refine' k_gtup ?ks ?kl ?_); (case ks => walk_at "st"); (case kl => exact rfl)))
local macro_rules | `(tactic| walk_at "g") => `(tactic| repeat (walk_at "g1"))
local macro_rules | `(tactic| walk_at "w1") => `(tactic| first
  | walk_at "g1"
  | ((with_reducible refine' k_decT ?kp ?_); (case kp => omega))
  | ((with_reducible refine' k_decF ?kp ?_); (case kp => omega))
  | ((with_reducible refine' k_decNT ?kp ?_); (case kp => omega))
  | ((with_reducible refine' k_decNF ?kp ?_); (case kp => omega)))
local macro_rules | `(tactic| walk_at "w") => `(tactic| repeat (walk_at "w1"))


section
variable {P : Program} {w : World} {K : PySem.W.Frag} {mg : Str → Option Value} {base : Heap} {f : Addr} {fd : FuncData}
/-! ### what is drawn for a house -/
structure MsOk (z : Str) (c k : Int) : Prop where
  c0 : 0 ≤ c
  c2 : c ≤ 2
  k0 : 0 ≤ k
  k2 : k ≤ 2
  lean : z = Str.ofString "lean" → 1 ≤ c ∧ k = 0
  even : z = Str.ofString "even" → c = k ∧ c ≤ 1
  fat : z = Str.ofString "fat" → c < k
def spMs : Sp := fun vs H Q _ => ∃ (b : Addr) (z : Str), vs = [.ref b, .str z] ∧ BagOk H b ∧ ∀ (T : Addr) (c k : Int) H', MsOk z c k → Same H H' → H' T = some (.tup [.int c, .int k]) → Q (.ref T) H'
theorem ok_Lmeasures (F : FnP K "_law_measures" s_Lmeasures f fd) (hm : mg "_law_measures" = some (.ref f)) (c_Lone : Callee P w K mg base CX0 "_law_one" 2 [] (spOne K)) : Callee P w K mg base CX0 "_law_measures" 3 [] spMs := by
  refine ⟨f, fd, _, [], F.ok sc_Lmeasures (fun vs H Q E h => ?hl) (fun cdv A outer s H vs Q E hr h => ⟨_, PSs.nox (pss_cons (ps_set (i := 2) sc_Lmeasures.nd rfl (by first | exact Or.inl rfl | exact Or.inr rfl) (pe_disp (pps_cons pe_str (pe_lst (pa_cons (pe_tup (pa_cons pe_int (pa_cons pe_int pa_nil))) (pa_cons (pe_tup (pa_cons pe_int (pa_cons pe_int pa_nil))) (pa_cons (pe_tup (pa_cons pe_int (pa_cons pe_int pa_nil))) pa_nil)))) (pps_cons pe_str (pe_lst (pa_cons (pe_tup (pa_cons pe_int (pa_cons pe_int pa_nil))) (pa_cons (pe_tup (pa_cons pe_int (pa_cons pe_int pa_nil))) pa_nil))) (pps_cons pe_str (pe_lst (pa_cons (pe_tup (pa_cons pe_int (pa_cons pe_int pa_nil))) (pa_cons (pe_tup (pa_cons pe_int (pa_cons pe_int pa_nil))) (pa_cons (pe_tup (pa_cons pe_int (pa_cons pe_int pa_nil))) pa_nil)))) pps_nil))) (by rfl) (by rfl) (fun z => by cases z) (by decide)))
      (pss_one (ps_ret (pe_cl c_Lone hr (pa_cons (pv 0) (pa_cons (pe_dget2 (hu_of hr) (pv 2) (pv 1) (pe_lst (pa_cons (pe_tup (pa_cons pe_int (pa_cons pe_int pa_nil))) (pa_cons (pe_tup (pa_cons pe_int (pa_cons pe_int pa_nil))) (pa_cons (pe_tup (pa_cons pe_int (pa_cons pe_int pa_nil))) (pa_cons (pe_tup (pa_cons pe_int (pa_cons pe_int pa_nil))) (pa_cons (pe_tup (pa_cons pe_int (pa_cons pe_int pa_nil))) (pa_cons (pe_tup (pa_cons pe_int (pa_cons pe_int pa_nil))) (pa_cons (pe_tup (pa_cons pe_int (pa_cons pe_int pa_nil))) (pa_cons (pe_tup (pa_cons pe_int (pa_cons pe_int pa_nil))) (pa_cons (pe_tup (pa_cons pe_int (pa_cons pe_int pa_nil))) pa_nil)))))))))) ⟨rfl, rfl, by rfl, rfl⟩) pa_nil)) pass0)))), ?rd⟩), hm, F.kp, F.bindsN fun _ _ _ _ _ _ us hl => match us, hl with | [_, _], _ => rfl, .nil⟩
  case hl =>
    obtain ⟨b, z, rfl, _⟩ := h
    rfl
  case rd =>
    obtain ⟨b, z, rfl, hb, q⟩ := h
    refine k_start (σ' := [some _, some _, none]) rfl ?_
    walk_at "g"
    refine k_disp fun p np => ?_
    with_reducible refine k_pr ?_
    with_reducible refine k_c ?_
    refine (show tLst (tPrs [(1, 0), (2, 0), (1, 0)]) _ _ _ from k_lprs _ (by decide) fun Z1 p1 H1 n1 s1 z1 q1 e1 => ?_)
    with_reducible refine k_pr ?_
    with_reducible refine k_c ?_
    refine (show tLst (tPrs [(0, 0), (1, 1)]) _ _ _ from k_lprs _ (by decide) fun Z2 p2 H2 n2 s2 z2 q2 e2 => ?_)
    with_reducible refine k_pr ?_
    with_reducible refine k_c ?_
    refine (show tLst (tPrs [(0, 1), (0, 2), (1, 2)]) _ _ _ from k_lprs _ (by decide) fun Z3 p3 H3 n3 s3 z3 q3 e3 => ?_)
    walk_at "g"
    have ep : H3 p = some (.dK []) := s3 _ _ (s2 _ _ (s1 _ _ upd_same))
    refine ⟨ep, [(.inr "lean", .ref p1), (.inr "even", .ref p2), (.inr "fat", .ref p3)], rfl, by show 3 ≤ 15; decide, ?_⟩
    have sm3 : Same H (upd H3 p (.dK (mergeK [] [(.inr "lean", .ref p1), (.inr "even", .ref p2), (.inr "fat", .ref p3)]))) := sm_mut (((sm_new np).trans s1).trans (s2.trans s3)) np
    have a1 : (upd H3 p (.dK (mergeK [] [(.inr "lean", .ref p1), (.inr "even", .ref p2), (.inr "fat", .ref p3)]))) p1 = some (.lst (Z1.map fun q => V.ref q.1)) := by
      have h := s3 _ _ (s2 _ _ e1)
      rw [upd_ne (ne_of h ep (fun z => by cases z))]
      exact h
    have a2 : (upd H3 p (.dK (mergeK [] [(.inr "lean", .ref p1), (.inr "even", .ref p2), (.inr "fat", .ref p3)]))) p2 = some (.lst (Z2.map fun q => V.ref q.1)) := by
      have h := s3 _ _ e2
      rw [upd_ne (ne_of h ep (fun z => by cases z))]
      exact h
    have a3 : (upd H3 p (.dK (mergeK [] [(.inr "lean", .ref p1), (.inr "even", .ref p2), (.inr "fat", .ref p3)]))) p3 = some (.lst (Z3.map fun q => V.ref q.1)) := by
      rw [upd_ne (ne_of e3 ep (fun z => by cases z))]
      exact e3
    have tt : ∀ (Z : List (Addr × Int × Int)), (∀ q ∈ Z, H3 q.1 = some (.tup [.int q.2.1, .int q.2.2])) → ∀ q ∈ Z, (upd H3 p (.dK (mergeK [] [(.inr "lean", .ref p1), (.inr "even", .ref p2), (.inr "fat", .ref p3)]))) q.1 = some (.tup [.int q.2.1, .int q.2.2]) := fun Z h q hq => by
      rw [upd_ne (ne_of (h q hq) ep (fun z => by cases z))]
      exact h q hq
    have t1 := tt Z1 fun q hq => s3 _ _ (s2 _ _ (q1 q hq))
    have t2 := tt Z2 fun q hq => s3 _ _ (q2 q hq)
    have t3 := tt Z3 q3
    have a0 : (upd H3 p (.dK (mergeK [] [(.inr "lean", .ref p1), (.inr "even", .ref p2), (.inr "fat", .ref p3)]))) p = some (.dK [(.inr "lean", .ref p1), (.inr "even", .ref p2), (.inr "fat", .ref p3)]) := upd_same
    generalize upd H3 p (.dK (mergeK [] [(.inr "lean", .ref p1), (.inr "even", .ref p2), (.inr "fat", .ref p3)])) = G at *
    walk_at "g"
    refine k_dg2 ?_
    walk_at "g"
    refine ⟨p, rfl, .inl ⟨_, .inl a0⟩, ?_⟩
    with_reducible refine k_var (v := .str z) rfl ?_
    refine (show tLst (tPrs [(2, 1), (2, 2), (1, 0), (0, 0), (0, 1), (1, 1), (1, 2), (2, 0), (0, 2)]) _ _ _ from k_lprs _ (by decide) fun Z4 p4 H4 n4 s4 z4 q4 e4 => ?_)
    have sAll := sm3.trans s4
    have hb4 := hb.sm sAll
    have done : ∀ (ps : List (Int × Int)) (Z : List (Addr × Int × Int)) (pz : Addr), 0 < ps.length → ps.length ≤ 9 → Z.map (·.2) = ps → (∀ q ∈ Z, H4 q.1 = some (.tup [.int q.2.1, .int q.2.2])) → H4 pz = some (.lst (Z.map fun q => V.ref q.1)) → (∀ u ∈ ps, MsOk z u.1 u.2) → spOne K [.ref b, .ref pz] H4 Q E0 := by
      intro ps Z pz l0 l9 ez hz hp hms
      have lz : (Z.map fun q => V.ref q.1).length = ps.length := by rw [← ez, List.length_map, List.length_map]
      refine ⟨b, .ref pz, rfl, hb4, .inl ⟨pz, _, rfl, sq_l hp, by omega, by omega, fun x hx => ?_⟩⟩
      obtain ⟨u, hu, rfl⟩ := List.mem_map.mp hx
      exact q u.1 u.2.1 u.2.2 H4 (hms u.2 (by rw [← ez]; exact List.mem_map.mpr ⟨u, hu, rfl⟩)) sAll (hz u hu)
    have big : ∀ u ∈ [((2 : Int), (1 : Int)), (2, 2), (1, 0), (0, 0), (0, 1), (1, 1), (1, 2), (2, 0), (0, 2)], 0 ≤ u.1 ∧ u.1 ≤ 2 ∧ 0 ≤ u.2 ∧ u.2 ≤ 2 := by decide
    have ne1 : ¬ (Str.ofString "lean" : Str) = Str.ofString "even" := by decide +kernel
    have ne2 : ¬ (Str.ofString "lean" : Str) = Str.ofString "fat" := by decide +kernel
    have ne3 : ¬ (Str.ofString "even" : Str) = Str.ofString "fat" := by decide +kernel
    by_cases d1 : z = Str.ofString "lean"
    · refine ⟨some (.ref p1), by rw [d1]; exact DGet.k (k := .inr "lean") (s4 _ _ a0), ?_⟩
      walk_at "g"
      refine done _ Z1 p1 (by decide) (by decide) z1 (fun q hq => s4 _ _ (t1 q hq)) (s4 _ _ a1) fun u hu => ?_
      rcases List.mem_cons.mp hu with rfl | hu
      · exact ⟨by decide, by decide, by decide, by decide, fun _ => by decide, fun e => absurd (d1.symm.trans e) ne1, fun e => absurd (d1.symm.trans e) ne2⟩
      rcases List.mem_cons.mp hu with rfl | hu
      · exact ⟨by decide, by decide, by decide, by decide, fun _ => by decide, fun e => absurd (d1.symm.trans e) ne1, fun e => absurd (d1.symm.trans e) ne2⟩
      rcases List.mem_cons.mp hu with rfl | hu
      · exact ⟨by decide, by decide, by decide, by decide, fun _ => by decide, fun e => absurd (d1.symm.trans e) ne1, fun e => absurd (d1.symm.trans e) ne2⟩
      cases hu
    by_cases d2 : z = Str.ofString "even"
    · refine ⟨some (.ref p2), by rw [d2]; exact DGet.k (k := .inr "even") (s4 _ _ a0), ?_⟩
      walk_at "g"
      refine done _ Z2 p2 (by decide) (by decide) z2 (fun q hq => s4 _ _ (t2 q hq)) (s4 _ _ a2) fun u hu => ?_
      rcases List.mem_cons.mp hu with rfl | hu
      · exact ⟨by decide, by decide, by decide, by decide, fun e => absurd e d1, fun _ => by decide, fun e => absurd (d2.symm.trans e) ne3⟩
      rcases List.mem_cons.mp hu with rfl | hu
      · exact ⟨by decide, by decide, by decide, by decide, fun e => absurd e d1, fun _ => by decide, fun e => absurd (d2.symm.trans e) ne3⟩
      cases hu
    by_cases d3 : z = Str.ofString "fat"
    · refine ⟨some (.ref p3), by rw [d3]; exact DGet.k (k := .inr "fat") (s4 _ _ a0), ?_⟩
      walk_at "g"
      refine done _ Z3 p3 (by decide) (by decide) z3 (fun q hq => s4 _ _ (t3 q hq)) (s4 _ _ a3) fun u hu => ?_
      rcases List.mem_cons.mp hu with rfl | hu
      · exact ⟨by decide, by decide, by decide, by decide, fun e => absurd e d1, fun e => absurd e d2, fun _ => by decide⟩
      rcases List.mem_cons.mp hu with rfl | hu
      · exact ⟨by decide, by decide, by decide, by decide, fun e => absurd e d1, fun e => absurd e d2, fun _ => by decide⟩
      rcases List.mem_cons.mp hu with rfl | hu
      · exact ⟨by decide, by decide, by decide, by decide, fun e => absurd e d1, fun e => absurd e d2, fun _ => by decide⟩
      cases hu
    · refine ⟨valV [((.inr "lean" : Key), V.ref p1), (.inr "even", .ref p2), (.inr "fat", .ref p3)] (.inr z), DGet.k (k := .inr z) (s4 _ _ a0), ?_⟩
      have en : valV [((.inr "lean" : Key), V.ref p1), (.inr "even", .ref p2), (.inr "fat", .ref p3)] (.inr z) = none := by
        rw [valV_neg (fun e => d1 (by injection e with e; exact e.symm)), valV_neg (fun e => d2 (by injection e with e; exact e.symm)), valV_neg (fun e => d3 (by injection e with e; exact e.symm))]
        rfl
      rw [en]
      walk_at "g"
      refine done _ Z4 p4 (by decide) (by decide) z4 q4 e4 fun u hu => ?_
      obtain ⟨b1, b2, b3, b4⟩ := big u hu
      exact ⟨b1, b2, b3, b4, fun e => absurd e d1, fun e => absurd e d2, fun e => absurd e d3⟩
theorem k_letters {H : Hp} {Q : VK} {E : XK} {b : Addr} {n : Int} (hb : BagOk H b) (h0 : 0 ≤ n) (h3 : n ≤ 3) (q : ∀ (cs : List Nat) H', Rise cs → cs.length = n.toNat → Same H H' → Q (.str (tx cs)) H') : spLetters ([.ref b, .int n] ++ []) H Q E :=
  ⟨b, n.toNat, by rw [Int.toNat_of_nonneg h0]; rfl, hb, by omega, q⟩
/-! ### a house drawn -/
def MAt (K : PySem.W.Frag) (H : Hp) (m : Addr) (S : HsD) : Prop := ∃ (tb ev : Addr) (R : List RwI) (L : List RwM),
  H m = some (.dK [(.inr "letters", .str (tx S.ls)), (.inr "table", .ref tb), (.inr "eats", .ref ev), (.inr "chew", .int S.ch), (.inr "put", .str (tx S.pt)), (.inr "most", .int S.mo), (.inr "cut", .int S.cu)]) ∧
  SqL K H tb (R.map fun q => V.ref q.1) ∧ (∀ q ∈ R, SqT K H q.1 (q.2.map V.int)) ∧ R.map (·.2) = S.tb ∧ SqL K H ev (L.map fun q => V.ref q.1) ∧ (∀ q ∈ L, SqT K H q.1 (q.2.map kV)) ∧ L.map (·.2) = S.tr
theorem MAt.sm {H H' : Hp} {m : Addr} {S : HsD} (s : Same H H') (h : MAt K H m S) : MAt K H' m S := by
  obtain ⟨tb, ev, R, L, h1, h2, h3, h4, h5, h6, h7⟩ := h
  exact ⟨tb, ev, R, L, s _ _ h1, sm_l s h2, fun q hq => sm_t s (h3 q hq), h4, sm_l s h5, fun q hq => sm_t s (h6 q hq), h7⟩
section
variable {H : Hp} {Q : VK} {m : Addr} {S : HsD}
theorem k_mLet (hM : MAt K H m S) (h : Q (.str (tx S.ls)) H) : nDg (.ref m) (.str "letters") H Q := by
  obtain ⟨tb, ev, R, L, h1, _⟩ := hM
  exact k_nDg h1 rfl h
theorem k_mChew (hM : MAt K H m S) (h : Q (.int S.ch) H) : nDg (.ref m) (.str "chew") H Q := by
  obtain ⟨tb, ev, R, L, h1, _⟩ := hM
  exact k_nDg h1 rfl h
theorem k_mPut (hM : MAt K H m S) (h : Q (.str (tx S.pt)) H) : nDg (.ref m) (.str "put") H Q := by
  obtain ⟨tb, ev, R, L, h1, _⟩ := hM
  exact k_nDg h1 rfl h
theorem k_mMost (hM : MAt K H m S) (h : Q (.int S.mo) H) : nDg (.ref m) (.str "most") H Q := by
  obtain ⟨tb, ev, R, L, h1, _⟩ := hM
  exact k_nDg h1 rfl h
theorem k_mCut (hM : MAt K H m S) (h : Q (.int S.cu) H) : nDg (.ref m) (.str "cut") H Q := by
  obtain ⟨tb, ev, R, L, h1, _⟩ := hM
  exact k_nDg h1 rfl h
end
def spLHouse (K : PySem.W.Frag) : Sp := fun vs H Q _ => ∃ (b : Addr) (z : Str) (n : Int), vs = [.ref b, .str z, .int n] ∧ BagOk H b ∧ n ≤ 14 ∧ ∀ (S : HsD) (m : Addr) H', HsOk S → MsOk z S.ch S.pt.length → Same H H' → MAt K H' m S → Q (.ref m) H'
theorem ok_Lhouse (F : FnP K "_law_house" s_Lhouse f fd) (hm : mg "_law_house" = some (.ref f)) (f_range : mg "range" = none) (f_tuple : mg "tuple" = none) (f_sum : mg "sum" = none) (c_Lpull : Callee P w K mg base CX0 "_law_pull" 1 [] spPull) (c_Lone : Callee P w K mg base CX0 "_law_one" 2 [] (spOne K))
    (c_Lmeasures : Callee P w K mg base CX0 "_law_measures" 3 [] spMs) (c_Lletters : Callee P w K mg base CX0 "_law_letters" 2 [] spLetters) : Callee P w K mg base CX0 "_law_house" 4 [] (spLHouse K) := by
  refine ⟨f, fd, _, [], F.ok sc_Lhouse (fun vs H Q E h => ?hl) (fun cdv A outer s H vs Q E hr h => ⟨_, PSs.nox (pss_cons (ps_set (i := 3) sc_Lhouse.nd rfl (by first | exact Or.inl rfl | exact Or.inr rfl) (pe_op (op_addK K) pe_int (pe_cl c_Lpull hr (pa_cons (pv 0) (pa_cons pe_int pa_nil)) pass0)))
      (pss_cons (ps_setLc (i := 4) (own := [("_law_size", 14)]) rfl sc_Lhouse.nd rfl rfl (sw_true rfl rfl rfl (by decide +kernel)) (pi_tupK K (pe_tup (pa_cons pe_int (pa_cons pe_int (pa_cons pe_int pa_nil))))) (blkOk_by (N := ["_law_bag_here", "_law_sort", "_law_most_words", "_law_many", "_law_sizes", "_law_letters_here", "_law_longest", "_law_rooms", "_law_table", "_law_triples", "_law_k", "_law_chewing", "_law_plus", "_law_m", "_law_size", "_law_row_here", "_law_sign"]) (sc := defScope s_Lhouse) (by decide +kernel)) (fun _ _ _ _ _ => (pg_name (i := 14) sc_Lhouse.nd rfl (by first | exact Or.inl rfl | exact Or.inr rfl))) (fun _ _ _ _ _ => (pts_one (pt_cmpR op_leU (pe_callB (cr_sumK K) (by rfl) f_sum (by decide +kernel) (pa_cons (pe_slice (sl_k K) (pe_lst (pa_cons (pv 3) (pa_cons (pe_op op_pow (pv 3) pe_int) (pa_cons (pe_op op_pow (pv 3) pe_int) pa_nil)))) po_none (po_some (pv 14))) pa_nil)) (pv 2) (nomark _)))) (fun _ _ _ _ _ => (pv 14)))
      (pss_cons (ps_set (i := 5) sc_Lhouse.nd rfl (by first | exact Or.inl rfl | exact Or.inr rfl) (pe_cl c_Lletters hr (pa_cons (pv 0) (pa_cons (pe_ifExp (pt_cmpR (op_neK K hr.units) (pv 4) (pe_lst pa_nil) (nomark _)) (pv 3) pe_int) pa_nil)) pass0))
      (pss_cons (ps_set (i := 6) sc_Lhouse.nd rfl (by first | exact Or.inl rfl | exact Or.inr rfl) (pe_cl c_Lone hr (pa_cons (pv 0) (pa_cons (pe_ifExp (pt_cmpR (op_neK K hr.units) (pv 4) (pe_lst pa_nil) (nomark _)) (pv 4) (pe_lst (pa_cons pe_int pa_nil))) pa_nil)) pass0))
      (pss_cons (ps_set (i := 7) sc_Lhouse.nd rfl (by first | exact Or.inl rfl | exact Or.inr rfl) (pe_op (op_addK K) pe_int (pe_cl c_Lpull hr (pa_cons (pv 0) (pa_cons pe_int pa_nil)) pass0)))
      (pss_cons (ps_setLc (i := 8) (own := [("_law_row_here", 15)]) rfl sc_Lhouse.nd rfl rfl (sw_true rfl rfl rfl (by decide +kernel)) (pi_range1 (by rfl) f_range (pa_cons (pv 7) pa_nil)) (blkOk_by (N := ["_law_bag_here", "_law_sort", "_law_most_words", "_law_many", "_law_sizes", "_law_letters_here", "_law_longest", "_law_rooms", "_law_table", "_law_triples", "_law_k", "_law_chewing", "_law_plus", "_law_m", "_law_size", "_law_row_here", "_law_sign"]) (sc := defScope s_Lhouse) (by decide +kernel)) (fun _ _ _ _ _ => (pg_name (i := 15) sc_Lhouse.nd rfl (by first | exact Or.inl rfl | exact Or.inr rfl))) (fun _ _ _ _ _ => pts_nil) (fun _ _ _ _ _ => (pe_callTy (call_tupK K) (by rfl) f_tuple (by decide +kernel) (pa_cons (pe_lc (own := [("_law_sign", 16)]) rfl sc_Lhouse.nd (pi_str (pv 5)) (blkOk_by (N := ["_law_bag_here", "_law_sort", "_law_most_words", "_law_many", "_law_sizes", "_law_letters_here", "_law_longest", "_law_rooms", "_law_table", "_law_triples", "_law_k", "_law_chewing", "_law_plus", "_law_m", "_law_size", "_law_row_here", "_law_sign"]) (sc := rlb _ (defScope s_Lhouse)) (by decide +kernel)) (fun _ _ _ _ _ => (pg_name (i := 16) sc_Lhouse.nd rfl (by first | exact Or.inl rfl | exact Or.inr rfl))) (fun _ _ _ _ _ => pts_nil) (fun _ _ _ _ _ => (pe_cl c_Lpull hr (pa_cons (pv 0) (pa_cons (pv 7) pa_nil)) pass0))) pa_nil))))
      (pss_cons (ps_set (i := 9) sc_Lhouse.nd rfl (by first | exact Or.inl rfl | exact Or.inr rfl) (pe_lst (pa_cons (pe_tup (pa_cons pe_str (pa_cons pe_int (pa_cons (pe_cl c_Lpull hr (pa_cons (pv 0) (pa_cons (pv 7) pa_nil)) pass0) pa_nil)))) pa_nil)))
      (pss_cons (ps_for PassesOwn.never rfl (pi_range1 (by rfl) f_range (pa_cons (pe_cl c_Lpull hr (pa_cons (pv 0) (pa_cons pe_int pa_nil)) pass0) pa_nil)) (pg_name (i := 10) sc_Lhouse.nd rfl (by first | exact Or.inl rfl | exact Or.inr rfl)) (pss_one (ps_expr (pe_bmK K PySem.F.plainAttrs_list PySem.F.slot_list_append PySem.F.type_list_append mt_append (pv 9) (pa_cons (pe_tup (pa_cons (pe_cl c_Lone hr (pa_cons (pv 0) (pa_cons (pe_lst (pa_cons pe_str (pa_cons pe_str pa_nil))) pa_nil)) pass0) (pa_cons (pe_cl c_Lpull hr (pa_cons (pv 0) (pa_cons (pv 7) pa_nil)) pass0) (pa_cons (pe_cl c_Lpull hr (pa_cons (pv 0) (pa_cons (pv 7) pa_nil)) pass0) pa_nil)))) pa_nil)))))
      (pss_cons (ps_asg (pe_cl c_Lmeasures hr (pa_cons (pv 0) (pa_cons (pv 1) pa_nil)) pass0) (pg_tupK K 2 (by rfl) (pgs_cons (pg_name (i := 11) sc_Lhouse.nd rfl (by first | exact Or.inl rfl | exact Or.inr rfl)) (pgs_cons (pg_name (i := 3) sc_Lhouse.nd rfl (by first | exact Or.inl rfl | exact Or.inr rfl)) pgs_nil))))
      (pss_cons (ps_set (i := 12) sc_Lhouse.nd rfl (by first | exact Or.inl rfl | exact Or.inr rfl) (pe_joinK K pe_str (pe_lc (own := [("_law_k", 10)]) rfl sc_Lhouse.nd (pi_range1 (by rfl) f_range (pa_cons (pv 3) pa_nil)) (blkOk_by (N := ["_law_bag_here", "_law_sort", "_law_most_words", "_law_many", "_law_sizes", "_law_letters_here", "_law_longest", "_law_rooms", "_law_table", "_law_triples", "_law_k", "_law_chewing", "_law_plus", "_law_m", "_law_size", "_law_row_here", "_law_sign"]) (sc := defScope s_Lhouse) (by decide +kernel)) (fun _ _ _ _ _ => (pg_name (i := 10) sc_Lhouse.nd rfl (by first | exact Or.inl rfl | exact Or.inr rfl))) (fun _ _ _ _ _ => pts_nil) (fun _ _ _ _ _ => (pe_cl c_Lone hr (pa_cons (pv 0) (pa_cons (pv 5) pa_nil)) pass0)))))
      (pss_cons (ps_set (i := 13) sc_Lhouse.nd rfl (by first | exact Or.inl rfl | exact Or.inr rfl) (pe_disp (pps_cons pe_str (pv 5) (pps_cons pe_str (pv 8) (pps_cons pe_str (pv 9) (pps_cons pe_str (pv 11) (pps_cons pe_str (pv 12) (pps_cons pe_str (pv 6) pps_nil)))))) (by rfl) (by rfl) (fun z => by cases z) (by decide)))
      (pss_cons (ps_dput (hu_of hr) (pv 13) pe_str (pe_op (op_addK K) pe_int (pe_cl c_Lpull hr (pa_cons (pv 0) (pa_cons (pv 6) pa_nil)) pass0)) rfl)
      (pss_one (ps_ret (pv 13))))))))))))))), ?rd⟩), hm, F.kp, F.bindsN fun _ _ _ _ _ _ us hl => match us, hl with | [_, _, _], _ => rfl, .nil⟩
  case hl =>
    obtain ⟨b, z, n, rfl, _⟩ := h
    rfl
  case rd =>
    obtain ⟨b, z, n, rfl, hb, hn, q⟩ := h
    refine k_start (σ' := [some _, some _, some _, none, none, none, none, none, none, none, none, none, none, none, none, none, none]) rfl ?_
    have hpw : ∀ (i j : Int), 0 ≤ j → j ≤ 3 → 0 ≤ i → i ≤ 3 → CPow i j := fun i j a b c d => ⟨a, by omega, by omega⟩
    walk_at "g"
    refine k_pull hb (by omega) (by omega) (fun m0 m1 m2 => ?_)
    obtain ⟨M, hM⟩ : ∃ M : Nat, (1 + m0 : Int) = (M : Int) := ⟨(1 + m0).toNat, by omega⟩
    walk_at "g"
    rw [hM]
    refine k_nTup (by walk_at "sz") (fun p1 H1 n1 s1 e1 => ?_)
    walk_at "g"
    refine k_nLc (walk_tup (xs := [.int 1, .int 2, .int 3])) (fun H' s2 => sm_t s2 (sq_t e1)) (fun i ws => ∃ ks : List Nat, ws = ks.map (fun k => V.int (k : Nat)) ∧ ks.length ≤ i ∧ ∀ k ∈ ks, 1 ≤ k ∧ k ≤ 3 ∧ wcount M k ≤ n) ⟨[], rfl, Nat.le_refl _, fun k hk => nomatch hk⟩ (fun i ws hi hw => ?hz) (fun i v Hc Hd ws Kp Ks hi sa hws hy2 hKp hKs => ?ht) (fun p2 H2 ws n2 s2 e2 hws => ?he)
    case hz =>
      obtain ⟨ks, rfl, lk, _⟩ := hw
      have : i ≤ 3 := hi
      rw [List.length_map]
      omega
    case ht =>
      obtain ⟨rfl, hv⟩ := hy2
      obtain ⟨k, hk, rfl⟩ : ∃ k : Nat, (1 ≤ k ∧ k ≤ 3) ∧ v = .int (k : Nat) := by
        have : i = 0 ∨ i = 1 ∨ i = 2 := by
          have : i < 3 := hi
          omega
        rcases this with rfl | rfl | rfl <;> cases hv
        · exact ⟨1, by decide, rfl⟩
        · exact ⟨2, by decide, rfl⟩
        · exact ⟨3, by decide, rfl⟩
      walk_at "g"
      refine ⟨rfl, ?_⟩
      walk_at "g"
      refine k_I (hpw _ 2 (by decide) (by decide) (by omega) (by omega)) ?_
      walk_at "g"
      refine k_I (hpw _ 3 (by decide) (by decide) (by omega) (by omega)) ?_
      walk_at "g"
      refine k_nLst (by walk_at "sz") (fun p3 H3 n3 s3 e3 => ?_)
      walk_at "g"
      refine k_sl_l (sq_l e3) (fun p4 H4 n4 s4 e4 => ?_)
      rw [cutV_to] at e4
      walk_at "g"
      refine k_sum (ns := [(M : Int) ^ 1, (M : Int) ^ 2, (M : Int) ^ 3].take k) (sq_l (by rw [e4, List.map_take]; show _ = some (HO.lst (List.take k [V.int ((M : Int) ^ 1), V.int ((M : Int) ^ 2), V.int ((M : Int) ^ 3)])); rw [show ((M : Int) ^ 1) = M from (show (M : Int) ^ (0 + 1) = M by rw [Int.pow_succ, Int.pow_zero, Int.one_mul])]; rfl)) ?_
      walk_at "g"
      obtain ⟨ks, hw, lk, hks⟩ := hws
      refine k_dec (fun d => ?_) (fun d => ?_)
      · walk_at "g"
        refine hKp _ _ (s3.trans s4) ⟨ks ++ [k], by rw [hw, List.map_append]; rfl, by rw [List.length_append]; exact Nat.succ_le_succ lk, fun j hj => ?_⟩
        rcases List.mem_append.mp hj with hj | hj
        · exact hks j hj
        · rw [List.mem_singleton.mp hj]
          exact ⟨hk.1, hk.2, d⟩
      · walk_at "g"
        exact hKs _ (s3.trans s4) ⟨ks, hw, Nat.le_succ_of_le lk, hks⟩
    case he =>
      obtain ⟨ks, hw, lk, hks⟩ := hws
      have lk3 : ks.length ≤ 3 := lk
      subst hw
      have eI : ks.map (fun k => V.int ((k : Nat) : Int)) = (ks.map fun k => ((k : Nat) : Int)).map V.int := by rw [List.map_map]; rfl
      have hsz : SqL K H2 p2 ((ks.map fun k => ((k : Nat) : Int)).map V.int) := by rw [← eI]; exact sq_l e2
      have hbd : ∀ x ∈ ks.map (fun k => ((k : Nat) : Int)), x.natAbs ≤ 2 ^ 63 := fun x hx => by
        obtain ⟨k, hk, rfl⟩ := List.mem_map.mp hx
        have := (hks k hk).2.1
        omega
      have enil : decide (ks.map (fun k => ((k : Nat) : Int)) = []) = decide (ks = []) := by cases ks <;> rfl
      have s02 := s1.trans s2
      have hb2 := hb.sm s02
      with_reducible refine k_name ?_
      with_reducible refine k_seq ?_
      with_reducible refine k_asg ?_
      with_reducible refine k_call ?_
      with_reducible refine k_cons ?_
      with_reducible refine k_var rfl ?_
      with_reducible refine k_cons ?_
      refine k_post (fun v H' => v = .int (if ks = [] then 1 else (M : Int)) ∧ Same H2 H') (fun Q' hQ => ?_) (fun v H3 hv => ?_)
      · walk_at "g"
        refine k_nLst (by walk_at "sz") (fun p3 H3 n3 s3 e3 => ?_)
        refine k_neNil (sm_l s3 hsz) (sq_l e3) hbd (by rw [List.length_map]; omega) ?_
        rw [enil]
        walk_at "g"
        refine k_dec (fun d => ?_) (fun d => ?_)
        · walk_at "g"
          exact hQ _ _ ⟨by rw [if_pos d], s3⟩
        · walk_at "g"
          exact hQ _ _ ⟨by rw [if_neg d], s3⟩
      obtain ⟨rfl, s3⟩ := hv
      have hb3 := hb2.sm s3
      have hsz3 := sm_l s3 hsz
      walk_at "g"
      refine k_letters (n := if ks = [] then 1 else (M : Int)) hb3 (by split <;> omega) (by split <;> omega) (fun cs H4 hr0 hc s4 => ?_)
      have hb4 := hb3.sm s4
      have hsz4 := sm_l s4 hsz3
      with_reducible refine k_name ?_
      with_reducible refine k_seq ?_
      with_reducible refine k_asg ?_
      with_reducible refine k_call ?_
      with_reducible refine k_cons ?_
      with_reducible refine k_var rfl ?_
      with_reducible refine k_cons ?_
      refine k_post (fun v H' => Same H4 H' ∧ ∃ (pl : Addr) (js : List Nat), v = .ref pl ∧ SqL K H' pl (js.map fun k => V.int (k : Nat)) ∧ 0 < js.length ∧ js.length ≤ 3 ∧ ∀ k ∈ js, 1 ≤ k ∧ k ≤ 3 ∧ wcount cs.length k ≤ 14) (fun Q' hQ => ?_) (fun v H5 hv => ?_)
      · walk_at "g"
        refine k_nLst (by walk_at "sz") (fun p5 H5 n5 s5 e5 => ?_)
        refine k_neNil (sm_l s5 hsz4) (sq_l e5) hbd (by rw [List.length_map]; omega) ?_
        rw [enil]
        walk_at "g"
        refine k_dec (fun d => ?_) (fun d => ?_)
        · walk_at "g"
          refine k_nLst (by walk_at "sz") (fun p6 H6 n6 s6 e6 => ?_)
          refine hQ _ _ ⟨s5.trans s6, p6, [1], rfl, sq_l e6, by decide, by decide, fun k hk => ?_⟩
          rw [List.mem_singleton.mp hk]
          have : cs.length = 1 := by rw [hc, if_pos d]; rfl
          rw [this]
          exact ⟨by decide, by decide, by decide⟩
        · walk_at "g"
          refine hQ _ _ ⟨s5, p2, ks, rfl, by rw [eI]; exact sm_l s5 hsz4, List.length_pos_iff.mpr d, lk3, fun k hk => ?_⟩
          obtain ⟨k1, k2, k3⟩ := hks k hk
          have : cs.length = M := by rw [hc, if_neg d]; rfl
          rw [this]
          exact ⟨k1, k2, by omega⟩
      obtain ⟨s5, pl, js, rfl, hjs, j0, j3, hj⟩ := hv
      have hb5 := hb4.sm s5
      have lcs : 1 ≤ cs.length ∧ cs.length ≤ 3 := by
        rw [hc]
        split <;> omega
      walk_at "g"
      refine ⟨b, .ref pl, rfl, hb5, .inl ⟨pl, _, rfl, hjs, by rw [List.length_map]; exact j0, by rw [List.length_map]; omega, fun x hx => ?_⟩⟩
      obtain ⟨lo, hlo, rfl⟩ := List.mem_map.mp hx
      obtain ⟨lo1, lo3, low⟩ := hj lo hlo
      walk_at "g"
      refine k_pull hb5 (by omega) (by omega) (fun r0 r1 r2 => ?_)
      walk_at "g"
      obtain ⟨rm, hrm⟩ : ∃ rm : Nat, (1 + r0 : Int) = (rm : Int) := ⟨(1 + r0).toNat, by omega⟩
      rw [hrm]
      have szc : (tx cs).cps.size = cs.length := len_tx cs
      refine k_nLcD walk_range (fun _ _ => trivial) (fun i ws H' => ∃ R : List RwI, ws = R.map (fun q => V.ref q.1) ∧ R.length = i ∧ ∀ q ∈ R, SqT K H' q.1 (q.2.map V.int) ∧ q.2.length = cs.length ∧ ∀ x ∈ q.2, 0 ≤ x ∧ x < rm) (fun i ws H1 H2 s h => ?hm1) ⟨[], rfl, rfl, fun q hq => nomatch hq⟩ (fun i ws H1 hi h => ?hz1) (fun i v p H6 H7 ws Kp Ks hi hp s6 e6 hws hy hKp hKs => ?ht1) (fun pt H6 ws nt s6 e6 hws => ?he1)
      case hm1 =>
        obtain ⟨R, h1, h2, h3⟩ := h
        exact ⟨R, h1, h2, fun q hq => ⟨sm_t s (h3 q hq).1, (h3 q hq).2⟩⟩
      case hz1 =>
        obtain ⟨R, h1, h2, h3⟩ := h
        rw [h1, List.length_map, h2]
        omega
      case ht1 =>
        obtain ⟨rfl, rfl⟩ := hy
        obtain ⟨R, h1, h2, h3⟩ := hws
        have hb6 := hb5.sm s6
        walk_at "g"
        refine ⟨rfl, ?_⟩
        walk_at "g"
        refine k_nLc (walk_str (z := tx cs)) (fun _ _ => trivial) (fun i ws => ∃ xs : List Int, ws = xs.map V.int ∧ xs.length = i ∧ ∀ x ∈ xs, 0 ≤ x ∧ x < rm) ⟨[], rfl, rfl, fun q hq => nomatch hq⟩ (fun i ws hi h => ?hz3) (fun i v H8 H9 ws Kp2 Ks2 hi s8 hws hy hKp2 hKs2 => ?ht3) (fun p8 H8 ws n8 s8 e8 hws => ?he3)
        case hz3 =>
          obtain ⟨xs, h1, h2, _⟩ := h
          rw [h1, List.length_map, h2]
          omega
        case ht3 =>
          obtain ⟨rfl, c, hc', rfl⟩ := hy
          obtain ⟨xs, h1, h2, h3⟩ := hws
          walk_at "g"
          refine ⟨rfl, ?_⟩
          walk_at "g"
          refine k_pull (hb6.sm s8) (by omega) (by omega) (fun x x0 x1 => hKp2 _ _ (Same.refl _) ⟨xs ++ [x], by rw [h1, List.map_append]; rfl, by rw [List.length_append, h2]; rfl, fun y hy => ?_⟩)
          rcases List.mem_append.mp hy with hy | hy
          · exact h3 y hy
          · rw [List.mem_singleton.mp hy]
            exact ⟨x0, by omega⟩
        case he3 =>
          obtain ⟨xs, hx1, hx2, hx3⟩ := hws
          subst hx1
          walk_at "g"
          refine k_tup_l (sq_l e8) (fun T H9 n9 s9 e9 => ?_)
          have s79 := s8.trans s9
          refine hKp _ _ s79 ⟨R ++ [(T, xs)], by rw [h1, List.map_append]; rfl, by rw [List.length_append, h2]; rfl, fun q hq => ?_⟩
          rcases List.mem_append.mp hq with hq | hq
          · exact ⟨sm_t (del_mono s79) (h3 q hq).1, (h3 q hq).2⟩
          · cases List.mem_singleton.mp hq
            exact ⟨del_t (s79 _ _ e6) (sq_t e9), by rw [hx2]; exact szc, hx3⟩
      case he1 =>
        obtain ⟨R, hR1, hR2, hR3⟩ := hws
        subst hR1
        have hb6 := hb5.sm s6
        have rm4 : 1 ≤ rm ∧ rm ≤ 4 := by omega
        have lR : R.length = rm := by rw [hR2]; omega
        walk_at "g"
        refine k_pull hb6 (by omega) (by omega) (fun x x0 x1 => ?_)
        walk_at "g"
        refine k_nTup (by walk_at "sz") (fun T7 H7 n7 s7 e7 => ?_)
        walk_at "g"
        refine k_nLst (by walk_at "sz") (fun p8 H8 n8 s8 e8 => ?_)
        have hb8 := hb6.sm (s7.trans s8)
        walk_at "g"
        refine k_pull hb8 (by omega) (by omega) (fun k k0 k1 => ?_)
        walk_at "g"
        have s68 := s6.trans (s7.trans s8)
        have nb8 : H6 p8 = none := s7.free n8
        refine k_nFor walk_range (fun i σ H' => (∃ y10, σ = [some (.ref b), some (.str z), some (.int n), some (.int M), some (.ref p2), some (.str (tx cs)), some (.int lo), some (.int rm), some (.ref pt), some (.ref p8), y10, none, none, none, none, none, none]) ∧ Same H6 H' ∧ ∃ L : List RwM, H' p8 = some (.lst (L.map fun q => V.ref q.1)) ∧ L.length = i + 1 ∧ ∀ q ∈ L, SqT K H' q.1 (q.2.map kV) ∧ ∃ s a c, q.2 = kEat s a c ∧ 0 ≤ a ∧ a < rm ∧ 0 ≤ c ∧ c < rm)
          ⟨⟨_, rfl⟩, s7.trans s8, [(T7, kEat true 0 x)], e8, rfl, fun q hq => ?h0⟩ (fun _ _ _ _ _ => trivial) (fun i v σ H9 H10 hi h hy => ?ht2) (fun σ H9 h => ?he2)
        case h0 =>
          rw [List.mem_singleton.mp hq]
          exact ⟨sm_t s8 (sq_t e7), true, 0, x, rfl, by omega, by omega, x0, by omega⟩
        case ht2 =>
          obtain ⟨⟨y10, rfl⟩, s9, L, eL, lL, hL⟩ := h
          obtain ⟨rfl, rfl⟩ := hy
          have hb9 := hb6.sm s9
          walk_at "g"
          refine k_nLst (by walk_at "sz") (fun p10 H10 n10 s10 e10 => ?_)
          have hb10 := hb9.sm s10
          walk_at "g"
          refine ⟨b, .ref p10, rfl, hb10, .inl ⟨p10, _, rfl, sq_l e10, by show 0 < 2; decide, by show 2 ≤ 100000; decide, fun v hv => ?_⟩⟩
          obtain ⟨sd, rfl⟩ : ∃ sd : Bool, v = .str (if sd = true then Str.ofString "right" else Str.ofString "left") := by
            rcases List.mem_cons.mp hv with rfl | hv
            · exact ⟨false, rfl⟩
            rcases List.mem_cons.mp hv with rfl | hv
            · exact ⟨true, rfl⟩
            cases hv
          walk_at "g"
          refine k_pull hb10 (by omega) (by omega) (fun a a0 a1 => ?_)
          walk_at "g"
          refine k_pull hb10 (by omega) (by omega) (fun c c0 c1 => ?_)
          walk_at "g"
          refine k_nTup (by walk_at "sz") (fun T11 H11 n11 s11 e11 => ?_)
          have eL11 := (s10.trans s11) _ _ eL
          walk_at "g"
          refine k_append eL11 (by rw [List.length_map]; omega) ?_
          walk_at "g"
          refine ⟨⟨_, rfl⟩, sm_mut ((s9.trans s10).trans s11) nb8, L ++ [(T11, kEat sd a c)], by rw [upd_same, List.map_append]; rfl, by rw [List.length_append, lL]; rfl, fun q hq => ?_⟩
          rcases List.mem_append.mp hq with hq | hq
          · exact ⟨t_lst eL11 (sm_t (s10.trans s11) (hL q hq).1), (hL q hq).2⟩
          · rw [List.mem_singleton.mp hq]
            exact ⟨t_lst eL11 (sq_t e11), sd, a, c, rfl, a0, by omega, c0, by omega⟩
        case he2 =>
          obtain ⟨⟨y10, rfl⟩, s9, L, eL, lL, hL⟩ := h
          have hb9 := hb6.sm s9
          walk_at "g"
          refine ⟨b, z, rfl, hb9, fun T ch pk H10 ms s10 e10 => ?_⟩
          have hb10 := hb9.sm s10
          have lcx := len_tx cs
          have mk0 := ms.k0
          have mk2 := ms.k2
          walk_at "g"
          refine k_nLc walk_range (fun _ _ => trivial) (fun i ws => ∃ ds : List Nat, ws = (ds.map sg).map V.str ∧ ds.length = i ∧ ∀ c ∈ ds, c ∈ cs) ⟨[], rfl, rfl, fun c hc => nomatch hc⟩ (fun i ws hi h => ?hz5) (fun i v H11 H12 ws Kp Ks hi s11 hws hy hKp hKs => ?ht5) (fun p11 H11 ws n11 s11 e11 hws => ?he5)
          case hz5 =>
            obtain ⟨ds, h1, h2, _⟩ := h
            rw [h1, List.length_map, List.length_map, h2]
            omega
          case ht5 =>
            obtain ⟨rfl, rfl⟩ := hy
            obtain ⟨ds, h1, h2, h3⟩ := hws
            walk_at "g"
            refine ⟨rfl, ?_⟩
            walk_at "g"
            refine ⟨b, .str (tx cs), rfl, hb10.sm s11, .inr ⟨tx cs, rfl, by omega, by omega, fun c hc => hKp _ _ (Same.refl _) ⟨ds ++ [c], by rw [h1, List.map_append, List.map_append]; rfl, by rw [List.length_append, h2]; rfl, fun d hd => ?_⟩⟩⟩
            rcases List.mem_append.mp hd with hd | hd
            · exact h3 d hd
            · rw [List.mem_singleton.mp hd]
              exact hc
          case he5 =>
            obtain ⟨ds, hd1, hd2, hd3⟩ := hws
            subst hd1
            have hb11 := hb10.sm s11
            walk_at "g"
            refine k_join (ys := ds.map sg) (sq_l e11) ?_ ?_
            · rw [show (Str.ofString "").length = 0 by decide +kernel, List.map_map, show (Str.length ∘ sg) = fun _ => 1 from rfl, List.length_map, sum_one, hd2]
              omega
            rw [join_sgs]
            walk_at "g"
            refine k_disp fun pm npm => ?_
            walk_at "g"
            refine ⟨upd_same, [(.inr "letters", .str (tx cs)), (.inr "table", .ref pt), (.inr "eats", .ref p8), (.inr "chew", .int ch), (.inr "put", .str (tx ds)), (.inr "most", .int lo)], rfl, by show 6 ≤ 15; decide, ?_⟩
            simp only [upd_upd]
            have em : mergeK [] [((.inr "letters" : Key), V.str (tx cs)), (.inr "table", .ref pt), (.inr "eats", .ref p8), (.inr "chew", .int ch), (.inr "put", .str (tx ds)), (.inr "most", .int lo)] = [((.inr "letters" : Key), V.str (tx cs)), (.inr "table", .ref pt), (.inr "eats", .ref p8), (.inr "chew", .int ch), (.inr "put", .str (tx ds)), (.inr "most", .int lo)] := rfl
            rw [em]
            have s12 := sm_new (o := .dK [((.inr "letters" : Key), V.str (tx cs)), (.inr "table", .ref pt), (.inr "eats", .ref p8), (.inr "chew", .int ch), (.inr "put", .str (tx ds)), (.inr "most", .int lo)]) npm
            have e12 : (upd H11 pm (.dK [((.inr "letters" : Key), V.str (tx cs)), (.inr "table", .ref pt), (.inr "eats", .ref p8), (.inr "chew", .int ch), (.inr "put", .str (tx ds)), (.inr "most", .int lo)])) pm = some (.dK [((.inr "letters" : Key), V.str (tx cs)), (.inr "table", .ref pt), (.inr "eats", .ref p8), (.inr "chew", .int ch), (.inr "put", .str (tx ds)), (.inr "most", .int lo)]) := upd_same
            generalize upd H11 pm (.dK [((.inr "letters" : Key), V.str (tx cs)), (.inr "table", .ref pt), (.inr "eats", .ref p8), (.inr "chew", .int ch), (.inr "put", .str (tx ds)), (.inr "most", .int lo)]) = H12 at s12 e12 ⊢
            have hb12 := hb11.sm s12
            walk_at "g"
            refine k_pull hb12 (by omega) (by omega) (fun u u0 u1 => ?_)
            walk_at "g"
            refine k_nDp e12 (by show 6 < 1000; decide) ?_
            have np0 : H pm = none := ((((((s02.trans s3).trans s4).trans s5).trans s6).trans s9).trans (s10.trans s11)).free npm
            have sAll : Same H (upd H12 pm (.dK (putK [((.inr "letters" : Key), V.str (tx cs)), (.inr "table", .ref pt), (.inr "eats", .ref p8), (.inr "chew", .int ch), (.inr "put", .str (tx ds)), (.inr "most", .int lo)] (.inr "cut") (.int (1 + u))))) :=
              sm_mut (((((((s02.trans s3).trans s4).trans s5).trans s6).trans s9).trans (s10.trans s11)).trans s12) np0
            have eF : (upd H12 pm (.dK (putK [((.inr "letters" : Key), V.str (tx cs)), (.inr "table", .ref pt), (.inr "eats", .ref p8), (.inr "chew", .int ch), (.inr "put", .str (tx ds)), (.inr "most", .int lo)] (.inr "cut") (.int (1 + u))))) pm = some (.dK [((.inr "letters" : Key), V.str (tx cs)), (.inr "table", .ref pt), (.inr "eats", .ref p8), (.inr "chew", .int ch), (.inr "put", .str (tx ds)), (.inr "most", .int lo), (.inr "cut", .int (1 + u))]) := upd_same
            have s612 := (s9.trans (s10.trans s11)).trans s12
            have s912 := (s10.trans s11).trans s12
            have kT : ∀ {a : Addr} {xs : List V}, SqT K H12 a xs → SqT K (upd H12 pm (.dK (putK [((.inr "letters" : Key), V.str (tx cs)), (.inr "table", .ref pt), (.inr "eats", .ref p8), (.inr "chew", .int ch), (.inr "put", .str (tx ds)), (.inr "most", .int lo)] (.inr "cut") (.int (1 + u))))) a xs := fun h => t_dk e12 h
            have kL : ∀ {a : Addr} {xs : List V}, H12 a = some (.lst xs) → SqL K (upd H12 pm (.dK (putK [((.inr "letters" : Key), V.str (tx cs)), (.inr "table", .ref pt), (.inr "eats", .ref p8), (.inr "chew", .int ch), (.inr "put", .str (tx ds)), (.inr "most", .int lo)] (.inr "cut") (.int (1 + u))))) a xs := fun h => sq_l (by rw [upd_ne (ne_of h e12 (fun z => by cases z))]; exact h)
            generalize upd H12 pm (.dK (putK [((.inr "letters" : Key), V.str (tx cs)), (.inr "table", .ref pt), (.inr "eats", .ref p8), (.inr "chew", .int ch), (.inr "put", .str (tx ds)), (.inr "most", .int lo)] (.inr "cut") (.int (1 + u)))) = H13 at *
            walk_at "g"
            have tbl : (R.map (·.2)).length = rm := by rw [List.length_map, lR]
            have mc0 := ms.c0
            have mc2 := ms.c2
            have ldk : (ds.length : Int) = pk := by rw [hd2]; omega
            refine q ⟨cs, R.map (·.2), L.map (·.2), ch, ds, lo, 1 + u⟩ pm H13 ⟨hr0, lcs.1, lcs.2, by rw [tbl]; exact rm4.1, by rw [tbl]; exact rm4.2, fun r hr => ?_, by rw [List.length_map, lL]; omega, fun kk hk => ?_, mc0, mc2, by show ds.length ≤ 2; omega, hd3, by show (1 : Int) ≤ lo; omega, by show (lo : Int) ≤ 3; omega, low, by show (1 : Int) ≤ 1 + u; omega, by show 1 + u ≤ (lo : Int); omega⟩ (by rw [ldk]; exact ms) sAll
              ⟨pt, p8, R, L, eF, kL (s612 _ _ e6), fun q hq => kT (sm_t s612 (hR3 q hq).1), rfl, kL (s912 _ _ eL), fun q hq => kT (sm_t s912 (hL q hq).1), rfl⟩
            · obtain ⟨q, hq, rfl⟩ := List.mem_map.mp hr
              obtain ⟨_, w1, w2⟩ := hR3 q hq
              exact ⟨w1, fun x hx => by rw [tbl]; exact w2 x hx⟩
            · obtain ⟨q, hq, rfl⟩ := List.mem_map.mp hk
              obtain ⟨_, s, a, c, e, b1, b2, b3, b4⟩ := hL q hq
              exact ⟨s, a, c, e, b1, by rw [tbl]; exact b2, b3, by rw [tbl]; exact b4⟩
/-! ### a house made -/
def gHouse : List V → List V → List V := fun vs zs => vs ++ zs
theorem House_made (F : FunD K "__init__" "House.__init__" (defArgs s_House_init) (defBody s_House_init) (defScope s_House_init) [] [("chew", .int 0)] (He.ma K (He.ga K "House") "__init__") fd) (gC : mg "House" = some (.ref (He.ga K "House"))) (mk0 : Mk K (He.ga K "House") (He.ma K (He.ga K "House") "__init__"))
    (ok : FnOk P w K mg base CX0 2 (He.ma K (He.ga K "House") "__init__") fd ["self", "letters", "table", "eats", "chew", "put", "most", "cut"] (spInit K)) : OwnMk P w K mg base CX0 "House" 2 2 ["eats", "chew", "put", "most", "cut"] gHouse (spInit K) := by
  refine ⟨gC, mk0, fd, _, ok, fun us ws => us ++ ws, ?_⟩
  have key := FunD.kbinds0 (ps := ["self", "letters", "table", "eats", "chew", "put", "most", "cut"]) F 3 ["eats", "chew", "put", "most", "cut"] [] (fun {α} us _ ws => us ++ ws) (by simp) (fun q hq => nomatch hq) (fun r1 _ r3 => r1.append r3) (fun D doc pm an cdv ct us mv ws l1 l2 l3 => by
    match us, mv, ws, l1, l2, l3 with
    | [_, _, _], [], [_, _, _, _, _], _, _, _ => rfl)
  exact key.elim fun mv h => h
--! have c_House := House_made $F(House.__init__) g_House (He.mkr_ok a_mk) c_House_init
def spMade (K : PySem.W.Frag) : Sp := fun vs H Q _ => ∃ (m : Addr) (S : HsD), vs = [.ref m] ∧ MAt K H m S ∧ HsOk S ∧ ∀ a H', H a = none → Same H H' → HsAt K H' a S → Q (.ref a) H'
theorem ok_Lmade (F : FnP K "_law_made" s_Lmade f fd) (hm : mg "_law_made" = some (.ref f)) (f_list : mg "list" = none) (c_House : OwnMk P w K mg base CX0 "House" 2 2 ["eats", "chew", "put", "most", "cut"] gHouse (spInit K)) : Callee P w K mg base CX0 "_law_made" 4 [] (spMade K) := by
  refine ⟨f, fd, _, [], F.ok sc_Lmade (fun vs H Q E h => ?hl) (fun cdv A outer s H vs Q E hr h => ⟨_, PSs.nox (pss_cons (ps_setLc (i := 1) (own := [("_law_row_here", 3)]) rfl sc_Lmade.nd rfl rfl (sw_true rfl rfl rfl (by decide +kernel)) (pi_listK K (pe_dget (hu_of hr) (pv 0) pe_str (fun _ _ => rfl))) (blkOk_by (N := ["_law_m", "_law_table", "_law_triples", "_law_row_here"]) (sc := defScope s_Lmade) (by decide +kernel)) (fun _ _ _ _ _ => (pg_name (i := 3) sc_Lmade.nd rfl (by first | exact Or.inl rfl | exact Or.inr rfl))) (fun _ _ _ _ _ => pts_nil) (fun _ _ _ _ _ => (pe_callTy (call_listK K) (by rfl) f_list (by decide +kernel) (pa_cons (pv 3) pa_nil))))
      (pss_cons (ps_set (i := 2) sc_Lmade.nd rfl (by first | exact Or.inl rfl | exact Or.inr rfl) (pe_callTy (call_listK K) (by rfl) f_list (by decide +kernel) (pa_cons (pe_dget (hu_of hr) (pv 0) pe_str (fun _ _ => rfl)) pa_nil)))
      (pss_one (ps_ret (pe_mkK c_House hr (pa_cons (pe_dget (hu_of hr) (pv 0) pe_str (fun _ _ => rfl)) (pa_cons (pv 1) pa_nil)) (pk_cons (pv 2) (pk_cons (pe_dget (hu_of hr) (pv 0) pe_str (fun _ _ => rfl)) (pk_cons (pe_dget (hu_of hr) (pv 0) pe_str (fun _ _ => rfl)) (pk_cons (pe_dget (hu_of hr) (pv 0) pe_str (fun _ _ => rfl)) (pk_cons (pe_dget (hu_of hr) (pv 0) pe_str (fun _ _ => rfl)) pk_nil))))) pass0))))), ?rd⟩), hm, F.kp, F.bindsN fun _ _ _ _ _ _ us hl => match us, hl with | [_], _ => rfl, .nil⟩
  case hl =>
    obtain ⟨m, S, rfl, _⟩ := h
    rfl
  case rd =>
    obtain ⟨m, S, rfl, hM, ok, q⟩ := h
    obtain ⟨tb, ev, R, L, h1, h2, h3, h4, h5, h6, h7⟩ := hM
    refine k_start (σ' := [some _, none, none, none]) rfl ?_
    have lR : R.length = S.tb.length := by rw [← h4, List.length_map]
    have t4 := ok.t4
    walk_at "g"
    refine k_nLcD (walk_list (xs := R.map fun q => V.ref q.1)) (fun H' s2 => sm_l s2 h2) (fun i ws H1 => ∃ R' : List RwI, ws = R'.map (fun q => V.ref q.1) ∧ R'.map (·.2) = (R.take i).map (·.2) ∧ ∀ q ∈ R', SqL K H1 q.1 (q.2.map V.int)) (fun i ws H1 H2 s h => ?hm) ⟨[], rfl, rfl, fun q hq => nomatch hq⟩ (fun i ws H1 hi h => ?hz) (fun i v p H1 H2 ws Kp Ks hi hp s1 e1 hws hy hKp hKs => ?ht2) (fun pr Hr ws nr sr er hws => ?he2)
    case hm =>
      obtain ⟨R', e1, e2, h3⟩ := h
      exact ⟨R', e1, e2, fun q hq => sm_l s (h3 q hq)⟩
    case hz =>
      obtain ⟨R', e1, e2, h3⟩ := h
      have := congrArg List.length e2
      rw [List.length_map, List.length_map, List.length_take] at this
      rw [e1, List.length_map]
      omega
    case ht2 =>
      obtain ⟨rfl, hv⟩ := hy
      obtain ⟨r, hr0, rfl⟩ := map_get hv
      obtain ⟨R', e2, e3, h3'⟩ := hws
      have hr1 := sm_t s1 (h3 r (List.mem_of_getElem? hr0))
      walk_at "g"
      refine ⟨rfl, ?_⟩
      walk_at "g"
      refine k_list_t hr1 (fun t H6 n6 s6 e6 => hKp _ _ s6 ⟨R' ++ [(t, r.2)], by rw [e2, List.map_append]; rfl, by rw [List.map_append, e3, take_more hr0, List.map_append]; rfl, fun q hq => ?_⟩)
      rcases List.mem_append.mp hq with hq | hq
      · exact sm_l (del_mono s6) (h3' q hq)
      · cases List.mem_singleton.mp hq
        exact del_l (fun z => by have z : t = p := z; rw [z, e1] at n6; cases n6) (sq_l e6)
    case he2 =>
      obtain ⟨R', e2, e3, h3'⟩ := hws
      subst e2
      have lRm : (R.map fun q => V.ref q.1).length = R.length := List.length_map _
      rw [lRm, List.take_length, h4] at e3
      have h5r := sm_l sr h5
      have h1r := sr _ _ h1
      walk_at "g"
      refine k_list_l h5r (fun p5 H5 n5 s5 e5 => ?_)
      have h15 := s5 _ _ h1r
      walk_at "g"
      refine k_makeK ?_
      walk_at "g"
      refine ⟨rfl, rfl, fun x dx nx ndx nex => ?_⟩
      have sG : Same H5 (upd (upd H5 dx (.own x)) x (.ins (He.ga K "House") dx [])) := (sm_new ndx).trans (sm_new (by rw [upd_ne (Ne.symm nex)]; exact nx))
      have sR5 := sr.trans s5
      refine ⟨S, x, dx, pr, p5, R', L, rfl, ok, upd_same, sm_l (s5.trans sG) (sq_l er), fun q hq => sm_l (s5.trans sG) (h3' q hq), e3, sm_l sG (sq_l e5), fun q hq => sm_t (sR5.trans sG) (h6 q hq), h7, fun H' keep hs => ⟨rfl, q x H' (sR5.free nx) (fun b u hb => ?_) hs⟩⟩
      have hb5 := sR5 b u hb
      exact keep b u (ne_of_none hb5 nx) (sG b u hb5)
end
end Lw
set_option autoImplicit true
set_option pp.maxSteps 1200
set_option Elab.async false
set_option linter.all false
set_option maxRecDepth 100000
set_option maxHeartbeats 1000000
namespace Lw
open PySem PySem.Spec PyProof.Rows L2 Gk

local macro_rules | `(tactic| walk_at "hp") => `(tactic| first | assumption | exact upd_same | (refine' (upd_ne ?n).trans ?h; (case n => assumption); (case h => walk_at "hp")) | (refine' sm_get ?s ?h; (case s => assumption); (case h => walk_at "hp")))
local macro_rules | `(tactic| walk_at "sq") => `(tactic| first | assumption | (refine' sq_l ?h; (case h => walk_at "hp")) | (refine' sm_l ?s ?h; (case s => assumption); (case h => walk_at "sq")))
local macro_rules | `(tactic| walk_at "st") => `(tactic| first | assumption | (refine' sq_t ?h; (case h => walk_at "hp")) | (refine' sm_t ?s ?h; (case s => assumption); (case h => walk_at "st")))
local macro_rules | `(tactic| walk_at "bg") => `(tactic| first | assumption | (refine' BagOk.sm ?s ?h; (case s => assumption); (case h => walk_at "bg")))
local macro_rules | `(tactic| walk_at "sm") => `(tactic| first | assumption | exact Same.refl _ | (refine' Same.trans ?h ?s; (case s => assumption); (case h => walk_at "sm")))
local macro_rules | `(tactic| walk_at "hs") => `(tactic| first | assumption | (refine' HsAt.sm ?s ?h; (case s => assumption); (case h => walk_at "hs")))
local macro_rules | `(tactic| walk_at "ms") => `(tactic| first | assumption | (refine' MAt.sm ?s ?h; (case s => assumption); (case h => walk_at "ms")))
local macro_rules | `(tactic| walk_at "dp") => `(tactic| first | assumption | (refine' dp_sm ?s ?h; (case s => assumption); (case h => walk_at "dp")))
local macro_rules | `(tactic| walk_at "sz") => `(tactic| first | decide | assumption | omega | (simp only [List.length_cons, List.length_nil, List.length_map, List.length_append]; omega))
local macro_rules | `(tactic| walk_at "g1") => `(tactic| first
  | with_reducible refine k_seq ?_
  | with_reducible refine k_itB ?_
  | with_reducible refine k_next ?_
  | with_reducible refine k_asg ?_
  | with_reducible refine k_name ?_
  | with_reducible refine k_ret ?_
  | with_reducible refine k_retN ?_
  | with_reducible refine k_drop ?_
  | with_reducible refine k_ifs ?_
  | with_reducible refine k_brk ?_
  | with_reducible refine k_cont ?_
  | with_reducible refine k_ipI ?_
  | with_reducible refine k_test ?_
  | with_reducible refine k_tB ?_
  | with_reducible refine k_bl ?_
  | with_reducible refine k_not ?_
  | with_reducible refine k_and ?_
  | with_reducible refine k_or ?_
  | with_reducible refine k_yes ?_
  | with_reducible refine k_true ?_
  | with_reducible refine k_false ?_
  | with_reducible refine k_nt ?_
  | with_reducible refine k_c ?_
  | with_reducible refine k_op ?_
  | with_reducible refine k_un ?_
  | with_reducible refine k_if ?_
  | with_reducible refine k_chain ?_
  | with_reducible refine k_nil ?_
  | with_reducible refine k_cons ?_
  | with_reducible refine k_cb ?_
  | with_reducible refine k_call ?_
  | with_reducible refine k_callS ?_
  | with_reducible refine k_andV ?_
  | with_reducible refine k_orV ?_
  | with_reducible refine k_notV ?_
  | with_reducible refine k_lst ?_
  | with_reducible refine k_tup ?_
  | with_reducible refine k_nopart ?_
  | with_reducible refine k_part ?_
  | with_reducible refine k_nInt ?_
  | with_reducible refine k_sl ?_
  | with_reducible refine k_bm ?_
  | with_reducible refine k_bm0 ?_
  | with_reducible refine k_nTyS ?_
  | with_reducible refine k_m1 ?_
  | with_reducible refine k_m0 ?_
  | with_reducible refine k_nStr ?_
  | with_reducible refine k_I0 ?_
  | with_reducible refine k_U ?_
  | with_reducible refine k_add_i ?_
  | with_reducible refine k_eq_i ?_
  | with_reducible refine k_eq_s ?_
  | with_reducible refine k_eq_b ?_
  | with_reducible refine k_ne_i ?_
  | with_reducible refine k_ne_s ?_
  | with_reducible refine k_ne_b ?_
  | with_reducible refine k_le_i ?_
  | with_reducible refine k_le_s ?_
  | with_reducible refine k_gnil ?_
  | with_reducible refine k_gcons ?_
  | with_reducible refine k_gsub ?_
  | with_reducible refine k_for ?_
  | with_reducible refine k_lc ?_
  | with_reducible refine k_rng1 ?_
  | with_reducible refine k_rng2 ?_
  | with_reducible refine k_itl ?_
  | with_reducible refine k_itt ?_
  | with_reducible refine k_its ?_
  | with_reducible refine k_ite ?_
  | with_reducible refine k_iteB ?_
  | with_reducible refine k_lrg2 ?_
  | with_reducible refine k_itz ?_
  | with_reducible refine k_nIts ?_
  | with_reducible refine k_inS ?_
  | with_reducible refine k_niS ?_
  | with_reducible refine k_mk ?_
  | with_reducible refine k_meth ?_
  | with_reducible refine k_fld ?_
  | with_reducible refine k_sfld ?_
  | with_reducible refine k_dg ?_
  | with_reducible refine k_dp ?_
  | with_reducible refine k_pr ?_
  | with_reducible refine k_pr0 ?_
  | with_reducible refine k_sg ?_
  | with_reducible refine k_lc2 ?_
  | with_reducible refine k_callN ?_
  | with_reducible refine k_callNS ?_
  | with_reducible refine k_par ?_
  | with_reducible refine k_nPar ?_
  | with_reducible refine k_isNn ?_
  | with_reducible refine k_isNr ?_
  | with_reducible refine k_ntNn ?_
  | with_reducible refine k_ntNr ?_
  | with_reducible refine k_min2 ?_
  | with_reducible refine k_max2 ?_
  | with_reducible refine k_intB ?_
  | with_reducible refine k_intI ?_
  | with_reducible refine k_isBl ?_
  | with_reducible refine k_ntBl ?_
  | ((with_reducible refine' k_var ?kv ?_); (case kv => exact rfl))
  | ((with_reducible refine' k_aug ?kv ?_); (case kv => exact rfl))
  | ((with_reducible refine' k_ix_l ?ks ?ki ?_); (case ks => walk_at "sq"); (case ki => exact rfl))
  | ((with_reducible refine' k_ix_t ?ks ?ki ?_); (case ks => walk_at "st"); (case ki => exact rfl))
  | ((with_reducible refine' k_len_l ?ks ?_); (case ks => walk_at "sq"))
  | ((with_reducible refine' k_len_t ?ks ?_); (case ks => walk_at "st"))
  | ((with_reducible refine' k_setL ?ks ?ki ?_); (case ks => walk_at "hp"); (case ki => exact rfl))
  | ((with_reducible refine' k_nTyL ?ks ?_); (case ks => walk_at "sq"))
  | ((with_reducible refine' k_nItl ?ks ?_); (case ks => walk_at "sq"))
  | ((with_reducible refine' k_nItt ?ks ?_); (case ks => walk_at "st"))
  | ((with_reducible refine' k_nIte ?ks ?_); (case ks => walk_at "sq"))
  | ((with_reducible refine' k_mul ?km ?_); (case km => first | exact Or.inr ⟨by decide, by decide⟩ | exact Or.inl ⟨by decide, by decide⟩))
  | ((with_reducible refine' k_I ?km ?_); (case km => first | assumption | decide | exact ⟨by decide, by decide +kernel⟩ | exact ⟨by decide, by decide, by decide⟩))
  | ((with_reducible refine' k_nMeth ?kp ?kl ?_); (case kp => walk_at "hp"); (case kl => exact rfl))
  | ((with_reducible refine' k_nFld ?kp ?kc ?kn ?kl ?_); (case kp => walk_at "hp"); (case kc => assumption); (case kn => assumption); (case kl => exact rfl))
  | ((with_reducible refine' k_nSFld ?kp ?kc ?kn ?kl ?_); (case kp => walk_at "hp"); (case kc => assumption); (case kn => assumption); (case kl => exact of_decide_eq_true rfl))
  | ((with_reducible refine' k_nDg ?kp ?kl ?_); (case kp => walk_at "hp"); (case kl => exact rfl))
  | ((with_reducible refine' k_nRng1 ?k1 ?k2 ?_); (case k1 => omega); (case k2 => omega))
  | ((with_reducible refine' k_nKw ?k1 ?k2 ?_); (case k1 => exact rfl); (case k2 => exact rfl))
  | ((with_reducible refine' k_hsm ?kh ?_); (case kh => walk_at "hs"))
  | ((with_reducible refine' k_nMethH ?kh ?kl ?_); (case kh => walk_at "hs"); (case kl => exact fun _ _ => rfl))
  | ((with_reducible refine' k_mLet ?kh ?_); (case kh => walk_at "ms"))
  | ((with_reducible refine' k_mChew ?kh ?_); (case kh => walk_at "ms"))
  | ((with_reducible refine' k_mPut ?kh ?_); (case kh => walk_at "ms"))
  | ((with_reducible refine' k_mMost ?kh ?_); (case kh => walk_at "ms"))
  | ((with_reducible refine' k_mCut ?kh ?_); (case kh => walk_at "ms"))
  | ((with_reducible refine' k_gtup ?ks ?kl ?_); (case ks => walk_at "st"); (case kl => exact rfl)))
local macro_rules | `(tactic| walk_at "g") => `(tactic| repeat (walk_at "g1"))
local macro_rules | `(tactic| walk_at "w1") => `(tactic| first
  | walk_at "g1"
  | ((with_reducible refine' k_decT ?kp ?_); (case kp => omega))
  | ((with_reducible refine' k_decF ?kp ?_); (case kp => omega))
  | ((with_reducible refine' k_decNT ?kp ?_); (case kp => omega))
  | ((with_reducible refine' k_decNF ?kp ?_); (case kp => omega)))
local macro_rules | `(tactic| walk_at "w") => `(tactic| repeat (walk_at "w1"))


section
variable {P : Program} {w : World} {K : PySem.W.Frag} {mg : Str → Option Value} {base : Heap} {f : Addr} {fd : FuncData}
def spLWords (K : PySem.W.Frag) : Sp := fun vs H Q _ => ∃ (m : Addr) (S : HsD), vs = [.ref m] ∧ MAt K H m S ∧ HsOk S ∧ ∀ p H', H p = none → Same H H' → H' p = some (.lst (tS (wordsF S.ls S.mo.toNat))) → Q (.ref p) H'
theorem ok_Lwords (F : FnP K "_law_words" s_Lwords f fd) (hm : mg "_law_words" = some (.ref f)) (f_range : mg "range" = none) : Callee P w K mg base CX0 "_law_words" 1 [] (spLWords K) := by
  refine ⟨f, fd, _, [], F.ok sc_Lwords (fun vs H Q E h => ?hl) (fun cdv A outer s H vs Q E hr h => ⟨_, PSs.nox (pss_cons (ps_set (i := 1) sc_Lwords.nd rfl (by first | exact Or.inl rfl | exact Or.inr rfl) (pe_lst pa_nil))
      (pss_cons (ps_set (i := 2) sc_Lwords.nd rfl (by first | exact Or.inl rfl | exact Or.inr rfl) (pe_lst (pa_cons pe_str pa_nil)))
      (pss_cons (ps_for PassesOwn.never rfl (pi_range1 (by rfl) f_range (pa_cons (pe_dget (hu_of hr) (pv 0) pe_str (fun _ _ => rfl)) pa_nil)) (pg_name (i := 3) sc_Lwords.nd rfl (by first | exact Or.inl rfl | exact Or.inr rfl)) (pss_cons (ps_set (i := 4) sc_Lwords.nd rfl (by first | exact Or.inl rfl | exact Or.inr rfl) (pe_lst pa_nil))
      (pss_cons (ps_for PassesOwn.never rfl (pi_listK K (pv 2)) (pg_name (i := 5) sc_Lwords.nd rfl (by first | exact Or.inl rfl | exact Or.inr rfl)) (pss_one (ps_set (i := 4) sc_Lwords.nd rfl (by first | exact Or.inl rfl | exact Or.inr rfl) (pe_op (op_addK K) (pv 4) (pe_lc (own := [("_law_sign", 6)]) rfl sc_Lwords.nd (pi_str (pe_dget (hu_of hr) (pv 0) pe_str (fun _ _ => rfl))) (blkOk_by (N := ["_law_m", "_law_found", "_law_last", "_law_size", "_law_longer", "_law_word", "_law_sign"]) (sc := defScope s_Lwords) (by decide +kernel)) (fun _ _ _ _ _ => (pg_name (i := 6) sc_Lwords.nd rfl (by first | exact Or.inl rfl | exact Or.inr rfl))) (fun _ _ _ _ _ => pts_nil) (fun _ _ _ _ _ => (pe_op (op_addK K) (pv 5) (pv 6))))))))
      (pss_cons (ps_set (i := 1) sc_Lwords.nd rfl (by first | exact Or.inl rfl | exact Or.inr rfl) (pe_op (op_addK K) (pv 1) (pv 4)))
      (pss_one (ps_set (i := 2) sc_Lwords.nd rfl (by first | exact Or.inl rfl | exact Or.inr rfl) (pv 4)))))))
      (pss_one (ps_ret (pv 1)))))), ?rd⟩), hm, F.kp, F.bindsN fun _ _ _ _ _ _ us hl => match us, hl with | [_], _ => rfl, .nil⟩
  case hl =>
    obtain ⟨m, S, rfl, _⟩ := h
    rfl
  case rd =>
    obtain ⟨m, S, rfl, ⟨tb, ev, R, L, h1, h27⟩, ok, q⟩ := h
    refine k_start (σ' := [some _, none, none, none, none, none, none]) rfl ?_
    have m1 := ok.m1
    have m3 := ok.m3
    walk_at "g"
    refine k_nLst (by walk_at "sz") (fun p1 H1 n1 s1 e1 => ?_)
    walk_at "g"
    refine k_nLst (by walk_at "sz") (fun p2 H2 n2 s2 e2 => ?_)
    have h12 := (s1.trans s2) _ _ h1
    walk_at "g"
    have e12 := s2 _ _ e1
    refine k_nFor walk_range (fun i σ H' => ∃ pf pl y3 y4 y5, σ = [some (.ref m), some (.ref pf), some (.ref pl), y3, y4, y5, none] ∧ Same H H' ∧ (H pf = none ∧ H' pf = some (.lst (tS (wordsF S.ls i)))) ∧ H' pl = some (.lst (tS (lv S.ls i)))) ⟨p1, p2, none, none, none, rfl, s1.trans s2, ⟨n1, e12⟩, e2⟩ (fun _ _ _ _ _ => trivial) (fun i x σ Ha Hb hi h hy => ?ht) (fun σ H' h => ?he)
    case he =>
      obtain ⟨pf, pl, y3, y4, y5, rfl, sa, ⟨na, ea⟩, _⟩ := h
      walk_at "g"
      exact q _ _ na sa ea
    case ht =>
      obtain ⟨pf, pl, y3, y4, y5, rfl, sa, ⟨na, ea⟩, eb⟩ := h
      obtain ⟨rfl, rfl⟩ := hy
      have l1 := lv_small ok (i := i) (by omega)
      have l2 := lv_small ok (i := i + 1) (by omega)
      have ltS : (tS (lv S.ls i)).length = (lv S.ls i).length := List.length_map _
      walk_at "g"
      refine k_nLst (by walk_at "sz") (fun p3 H3 n3 s3 e3 => ?_)
      have eb3 := s3 _ _ eb
      walk_at "g"
      refine k_nFor (walk_list (xs := tS (lv S.ls i))) (fun j σ H' => ∃ pg y5, σ = [some (.ref m), some (.ref pf), some (.ref pl), some (.int (0 + i)), some (.ref pg), y5, none] ∧ Same H3 H' ∧ H' pg = some (.lst (tS (((lv S.ls i).take j).flatMap fun u => S.ls.map fun c => u ++ [c])))) ⟨p3, _, rfl, Same.refl _, e3⟩ (fun j σ H' _ h => by obtain ⟨pg, y5, _, s, _⟩ := h; exact sq_l (s _ _ eb3)) (fun j v σ H4 H5 hj h hy => ?ht2) (fun σ H4 h => ?he2)
      case ht2 =>
        obtain ⟨pg, y5, rfl, s4, e4⟩ := h
        obtain ⟨rfl, hv⟩ := hy
        obtain ⟨u, hu, rfl⟩ := map_get hv
        obtain ⟨lu, _⟩ := lv_ok S.ls i u (List.mem_of_getElem? hu)
        have hm4 := (sa.trans (s3.trans s4)) _ _ h1
        walk_at "g"
        have sz : (tx S.ls).cps.size = S.ls.length := len_tx S.ls
        have l3 := ok.l3
        refine k_nLc (walk_str (z := tx S.ls)) (fun _ _ => trivial) (fun k ws => ws = tS ((S.ls.take k).map fun c => u ++ [c])) rfl (fun k ws hk hw => ?hz) (fun k v H6 H7 ws Kp Ks hk s6 hw hy hKp hKs => ?ht3) (fun p6 H6 ws n6 s6 e6 hw => ?he3)
        case hz =>
          rw [hw]
          unfold tS
          rw [List.length_map, List.length_map, List.length_take]
          omega
        case ht3 =>
          obtain ⟨rfl, c, hc, rfl⟩ := hy
          have hci : S.ls[k]? = some c := by rw [← hc]; exact Array.getElem?_toList (xs := S.ls.toArray)
          walk_at "g"
          refine ⟨rfl, ?_⟩
          walk_at "g"
          refine k_add_s (by rw [len_tx, lu]; show i + 1 ≤ 100000; omega) ?_
          rw [tx_one]
          exact hKp _ _ (Same.refl _) (by rw [hw, take_more hci, List.map_append]; simp [tS])
        case he3 =>
          have el : S.ls.take (tx S.ls).cps.size = S.ls := List.take_of_length_le (by omega)
          rw [el] at hw
          subst hw
          have e46 := s6 _ _ e4
          have a1 : (tS (((lv S.ls i).take j).flatMap fun u => S.ls.map fun c => u ++ [c])).length ≤ 14 * 3 := by
            unfold tS
            rw [List.length_map, List.length_flatMap, show (((lv S.ls i).take j).map fun u => (S.ls.map fun c => u ++ [c]).length) = ((lv S.ls i).take j).map fun _ => S.ls.length by simp, List.map_const', List.sum_replicate_nat, List.length_take]
            exact Nat.mul_le_mul (Nat.le_trans (Nat.min_le_right ..) l1) ok.l3
          have a2 : (tS (S.ls.map fun c => u ++ [c])).length ≤ 3 := by
            unfold tS
            rw [List.length_map, List.length_map]
            exact ok.l3
          refine k_add_l e46 e6 (by omega) (fun p7 H7 n7 s7 e7 => ?_)
          walk_at "g"
          refine ⟨p7, _, rfl, s4.trans (s6.trans s7), ?_⟩
          rw [e7, longer S.ls (lv S.ls i) j u hu]
          simp [tS]
      case he2 =>
        obtain ⟨pg, y5, rfl, s4, e4⟩ := h
        rw [ltS, List.take_length] at e4
        have ea4 := (s3.trans s4) _ _ ea
        walk_at "g"
        have w1 := words_small ok i (by omega)
        have t1 : (tS (wordsF S.ls i)).length = (wordsF S.ls i).length := List.length_map _
        have t2 : (tS ((lv S.ls i).flatMap fun u => S.ls.map fun c => u ++ [c])).length = (lv S.ls (i + 1)).length := List.length_map _
        refine k_add_l ea4 e4 (by omega) (fun p5 H5 n5 s5 e5 => ?_)
        walk_at "g"
        refine ⟨p5, pg, _, _, _, rfl, sa.trans (s3.trans (s4.trans s5)), ⟨(sa.trans (s3.trans s4)).free n5, ?_⟩, ?_⟩
        · rw [e5]
          unfold wordsF tS
          rw [List.range_succ, List.flatMap_append, List.map_append]
          simp [lv]
        · rw [s5 _ _ e4]
          rfl
def spLTaste (K : PySem.W.Frag) : Sp := fun vs H Q _ => ∃ (m : Addr) (S : HsD) (cs : List Nat), vs = [.ref m, .str (tx cs)] ∧ MAt K H m S ∧ HsOk S ∧ (∀ c ∈ cs, c ∈ S.ls) ∧ Q (.int (tasteF S cs)) H
theorem ok_Ltaste (F : FnP K "_law_taste" s_Ltaste f fd) (hm : mg "_law_taste" = some (.ref f)) : Callee P w K mg base CX0 "_law_taste" 1 [] (spLTaste K) := by
  refine ⟨f, fd, _, [], F.ok sc_Ltaste (fun vs H Q E h => ?hl) (fun cdv A outer s H vs Q E hr h => ⟨_, PSs.nox (pss_cons (ps_set (i := 2) sc_Ltaste.nd rfl (by first | exact Or.inl rfl | exact Or.inr rfl) pe_int)
      (pss_cons (ps_for PassesOwn.never rfl (pi_str (pv 1)) (pg_name (i := 3) sc_Ltaste.nd rfl (by first | exact Or.inl rfl | exact Or.inr rfl)) (pss_one (ps_set (i := 2) sc_Ltaste.nd rfl (by first | exact Or.inl rfl | exact Or.inr rfl) (pe_ix (ix_k K) (pe_ix (ix_k K) (pe_dget (hu_of hr) (pv 0) pe_str (fun _ _ => rfl)) (pv 2) (fun _ _ => rfl)) (pe_bmK K PySem.F.plainAttrs_str PySem.F.slot_str_index PySem.F.type_str_index mt_sindex (pe_dget (hu_of hr) (pv 0) pe_str (fun _ _ => rfl)) (pa_cons (pv 3) pa_nil)) (fun _ _ => rfl)))))
      (pss_one (ps_ret (pv 2))))), ?rd⟩), hm, F.kp, F.bindsN fun _ _ _ _ _ _ us hl => match us, hl with | [_, _], _ => rfl, .nil⟩
  case hl =>
    obtain ⟨m, S, cs, rfl, _⟩ := h
    rfl
  case rd =>
    obtain ⟨m, S, cs, rfl, ⟨tb, ev, R, L, h1, h2, h3, h4, h5, h6, h7⟩, ok, hcs, q⟩ := h
    refine k_start (σ' := [some _, some _, none, none]) rfl ?_
    have t1 := ok.t1
    walk_at "g"
    refine k_nFor (walk_str (z := tx cs)) (fun i σ H' => (∃ y3, σ = [some (.ref m), some (.str (tx cs)), some (.int ((cs.take i).foldl (stepT S) 0)), y3]) ∧ H' = H) ⟨⟨_, rfl⟩, rfl⟩ (fun _ _ _ _ _ => trivial) (fun i x σ Ha Hb hi h hy => ?ht) (fun σ H' h => ?he)
    case he =>
      obtain ⟨⟨y3, rfl⟩, rfl⟩ := h
      have e : (tx cs).cps.size = cs.length := len_tx cs
      rw [e, List.take_length]
      walk_at "g"
      exact q
    case ht =>
      obtain ⟨⟨y3, rfl⟩, rfl⟩ := h
      obtain ⟨rfl, c, hc', rfl⟩ := hy
      have hci : cs[i]? = some c := by rw [← hc']; exact Array.getElem?_toList (xs := cs.toArray)
      have hcl := hcs c (List.mem_of_getElem? hci)
      obtain ⟨b0, b1⟩ := taste_in ok (cs.take i) 0 (Int.le_refl _) (by omega) fun d hd => hcs d (List.mem_of_mem_take hd)
      obtain ⟨row, er, es, _, _⟩ := stepT_ok ok b0 b1 hcl
      rw [take_more hci, List.foldl_append]
      generalize (cs.take i).foldl (stepT S) 0 = here at *
      have er2 := er
      rw [← h4, List.getElem?_map] at er2
      obtain ⟨q0, hq0, rfl⟩ := Option.map_eq_some_iff.mp er2
      walk_at "g"
      refine k_ix_l h2 (v := .ref q0.1) (at_pos b0 (by rw [List.getElem?_map, hq0]; rfl)) ?_
      walk_at "g"
      obtain ⟨rest, eo⟩ := occ_one (pos_ok hcl).1 (pos_ok hcl).2
      refine ⟨tx S.ls, ⟨#[c]⟩, pos c S.ls, rest, rfl, rfl, eo, ?_⟩
      refine k_ix_t (h3 q0 (List.mem_of_getElem? hq0)) (v := .int (stepT S here c)) (at_n (j := pos c S.ls) rfl (by rw [List.getElem?_map, es]; rfl)) ?_
      walk_at "g"
      exact ⟨⟨_, rfl⟩, rfl⟩
def spLCut (K : PySem.W.Frag) : Sp := fun vs H Q _ => ∃ (m : Addr) (S : HsD) (u : List Nat), vs = [.ref m, .str (tx u)] ∧ MAt K H m S ∧ HsOk S ∧ u.length ≤ 1000 ∧ ∀ p H', H p = none → Same H H' → H' p = some (.lst (tS (cutW S u))) → Q (.ref p) H'
theorem ok_Lcut (F : FnP K "_law_cut" s_Lcut f fd) (hm : mg "_law_cut" = some (.ref f)) (f_len : mg "len" = none) : Callee P w K mg base CX0 "_law_cut" 1 [] (spLCut K) := by
  refine ⟨f, fd, _, [], F.ok sc_Lcut (fun vs H Q E h => ?hl) (fun cdv A outer s H vs Q E hr h => ⟨_, PSs.nox (pss_cons (ps_set (i := 2) sc_Lcut.nd rfl (by first | exact Or.inl rfl | exact Or.inr rfl) (pe_lst pa_nil))
      (pss_cons (ps_set (i := 3) sc_Lcut.nd rfl (by first | exact Or.inl rfl | exact Or.inr rfl) (pv 1))
      (pss_cons (ps_while PassesOwn.never (pt_cmpR op_gt (pe_callB (call_lenK K) (by rfl) f_len PySem.boot_len (pa_cons (pv 3) pa_nil)) (pe_dget (hu_of hr) (pv 0) pe_str (fun _ _ => rfl)) (nomark _)) (pss_cons (ps_expr (pe_bmK K PySem.F.plainAttrs_list PySem.F.slot_list_append PySem.F.type_list_append mt_append (pv 2) (pa_cons (pe_slice (sl_k K) (pv 3) po_none (po_some (pe_dget (hu_of hr) (pv 0) pe_str (fun _ _ => rfl)))) pa_nil)))
      (pss_one (ps_set (i := 3) sc_Lcut.nd rfl (by first | exact Or.inl rfl | exact Or.inr rfl) (pe_slice (sl_k K) (pv 3) (po_some (pe_dget (hu_of hr) (pv 0) pe_str (fun _ _ => rfl))) po_none)))))
      (pss_one (ps_ret (pe_op (op_addK K) (pv 2) (pe_lst (pa_cons (pv 3) pa_nil)))))))), ?rd⟩), hm, F.kp, F.bindsN fun _ _ _ _ _ _ us hl => match us, hl with | [_, _], _ => rfl, .nil⟩
  case hl =>
    obtain ⟨m, S, u, rfl, _⟩ := h
    rfl
  case rd =>
    obtain ⟨m, S, u, rfl, hM, ok, lu, q⟩ := h
    refine k_start (σ' := [some _, some _, none, none]) rfl ?_
    have m1 := ok.m1
    have k1 := ok.k1
    have km := ok.km
    walk_at "g"
    refine k_nLst (by walk_at "sz") (fun p1 H1 n1 s1 e1 => ?_)
    walk_at "g"
    refine k_while (fun mm σ H' => ∃ (v : List Nat) (acc : List (List Nat)), σ = [some (.ref m), some (.str (tx u)), some (.ref p1), some (.str (tx v))] ∧ Same H H' ∧ H' p1 = some (.lst (tS acc)) ∧ acc ++ cutW S v = cutW S u ∧ mm = v.length ∧ acc.length + v.length ≤ u.length) ⟨_, u, [], rfl, s1, e1, rfl, rfl, by simp⟩ (fun mm σ H' h => ?hw)
    obtain ⟨v, acc, rfl, sa, ea, hcut, rfl, hl⟩ := h
    have lv := len_tx v
    walk_at "g"
    refine k_len_s (by omega) ?_
    walk_at "g"
    rw [lv]
    refine k_turnD (fun d => k_turnT ?_) (fun d => k_turnF ?_)
    · walk_at "g"
      refine k_sl_s (by omega) ?_
      rw [cutS_to _ _ (by omega)]
      walk_at "g"
      refine k_append ea (by rw [len_tS]; omega) ?_
      have sb : Same H (upd H' p1 (.lst (tS acc ++ [V.str (tx (v.take S.cu.toNat))]))) := sm_mut sa n1
      have eb : (upd H' p1 (.lst (tS acc ++ [V.str (tx (v.take S.cu.toNat))]))) p1 = some (.lst (tS acc ++ [V.str (tx (v.take S.cu.toNat))])) := upd_same
      generalize upd H' p1 (.lst (tS acc ++ [V.str (tx (v.take S.cu.toNat))])) = Hb at sb eb ⊢
      walk_at "g"
      refine k_sl_s (by omega) ?_
      rw [cutS_from _ _ (by omega)]
      walk_at "g"
      have ld : (v.drop S.cu.toNat).length = v.length - S.cu.toNat := List.length_drop
      refine ⟨_, ?_, v.drop S.cu.toNat, acc ++ [v.take S.cu.toNat], rfl, sb, by rw [eb, tS_app]; rfl, by rw [← hcut, cutW_more (u := v) ok (by omega), List.append_assoc]; rfl, rfl, by rw [List.length_append, ld]; show acc.length + 1 + _ ≤ _; omega⟩
      omega
    · walk_at "g"
      refine k_nLst (by walk_at "sz") (fun p2 H2 n2 s2 e2 => ?_)
      refine k_add_l (s2 _ _ ea) e2 (by rw [len_tS]; show _ + 1 ≤ _; omega) (fun p3 H3 n3 s3 e3 => ?_)
      refine q p3 H3 ((sa.trans s2).free n3) ((sa.trans s2).trans s3) ?_
      rw [e3, ← hcut, cutW_last (by omega), tS_app]
      rfl
def restF (b : Bool) (en : List Nat) (i : Nat) : List Nat := if b = true then en.drop i else en.take (en.length - i)
theorem restF_le (b : Bool) (en : List Nat) (i : Nat) : (restF b en i).length = en.length - i := by
  unfold restF
  split
  · rw [List.length_drop]
  · rw [List.length_take]
    omega
def spLGrown (K : PySem.W.Frag) : Sp := fun vs H Q _ => ∃ (m : Addr) (S : HsD) (er en : List Nat) (b : Bool), vs = [.ref m, .str (tx er), .str (tx en), .str (sdS b)] ∧ MAt K H m S ∧ HsOk S ∧ er.length ≤ 1000 ∧ en.length ≤ 1000 ∧ Q (.str (tx (growF S b er en))) H
theorem ok_Lgrown (F : FnP K "_law_grown" s_Lgrown f fd) (hm : mg "_law_grown" = some (.ref f)) (f_len : mg "len" = none) (f_range : mg "range" = none) : Callee P w K mg base CX0 "_law_grown" 1 [] (spLGrown K) := by
  refine ⟨f, fd, _, [], F.ok sc_Lgrown (fun vs H Q E h => ?hl) (fun cdv A outer s H vs Q E hr h => ⟨_, PSs.nox (pss_cons (ps_set (i := 4) sc_Lgrown.nd rfl (by first | exact Or.inl rfl | exact Or.inr rfl) (pv 2))
      (pss_cons (ps_for PassesOwn.never rfl (pi_range1 (by rfl) f_range (pa_cons (pe_dget (hu_of hr) (pv 0) pe_str (fun _ _ => rfl)) pa_nil)) (pg_name (i := 5) sc_Lgrown.nd rfl (by first | exact Or.inl rfl | exact Or.inr rfl)) (pss_one (ps_set (i := 4) sc_Lgrown.nd rfl (by first | exact Or.inl rfl | exact Or.inr rfl) (pe_ifExp (pt_cmpR (op_eqK K hr.units) (pv 3) pe_str (nomark _)) (pe_slice (sl_k K) (pv 4) (po_some pe_int) po_none) (pe_ifExp (pt_cmpR (op_neK K hr.units) (pv 4) pe_str (nomark _)) (pe_slice (sl_k K) (pv 4) po_none (po_some (pe_op op_sub (pe_callB (call_lenK K) (by rfl) f_len PySem.boot_len (pa_cons (pv 4) pa_nil)) pe_int))) pe_str)))))
      (pss_one (ps_ret (pe_ifExp (pt_cmpR (op_eqK K hr.units) (pv 3) pe_str (nomark _)) (pe_op (op_addK K) (pe_op (op_addK K) (pe_dget (hu_of hr) (pv 0) pe_str (fun _ _ => rfl)) (pv 1)) (pv 4)) (pe_op (op_addK K) (pe_op (op_addK K) (pv 4) (pv 1)) (pe_dget (hu_of hr) (pv 0) pe_str (fun _ _ => rfl)))))))), ?rd⟩), hm, F.kp, F.bindsN fun _ _ _ _ _ _ us hl => match us, hl with | [_, _, _, _], _ => rfl, .nil⟩
  case hl =>
    obtain ⟨m, S, er, en, b, rfl, _⟩ := h
    rfl
  case rd =>
    obtain ⟨m, S, er, en, b, rfl, hM, ok, l1, l2, q⟩ := h
    refine k_start (σ' := [some _, some _, some _, some _, none, none]) rfl ?_
    have c0 := ok.c0
    have c2 := ok.c2
    have p2 := ok.p2
    have lp := len_tx S.pt
    have lr := len_tx er
    walk_at "g"
    refine k_nFor walk_range (fun i σ H' => (∃ y5, σ = [some (.ref m), some (.str (tx er)), some (.str (tx en)), some (.str (sdS b)), some (.str (tx (restF b en i))), y5]) ∧ H' = H) ⟨⟨none, by unfold restF; cases b <;> simp⟩, rfl⟩ (fun _ _ _ _ _ => trivial) (fun i x σ Ha Hb hi h hy => ?ht) (fun σ H' h => ?he)
    case ht =>
      obtain ⟨⟨y5, rfl⟩, rfl⟩ := h
      obtain ⟨rfl, rfl⟩ := y_rng hy
      have lf := restF_le b en i
      have lf2 := len_tx (restF b en i)
      walk_at "g"
      rw [sdS_right]
      cases b with
      | true =>
        walk_at "g"
        refine k_sl_s (by omega) ?_
        rw [cutS_from _ _ (by decide)]
        walk_at "g"
        refine ⟨⟨some (.int (i : Nat)), ?_⟩, rfl⟩
        unfold restF
        rw [if_pos rfl, if_pos rfl, List.drop_drop]
        rfl
      | false =>
        walk_at "g"
        rw [tx_nil, tx_eq]
        refine k_dec (fun d => ?_) (fun d => ?_)
        rotate_left
        · have l0 : 0 < (restF false en i).length := List.length_pos_iff.mpr d
          walk_at "g"
          refine k_len_s (by omega) ?_
          walk_at "g"
          refine k_sl_s (by omega) ?_
          rw [lf2, cutS_to _ _ (by omega)]
          walk_at "g"
          refine ⟨⟨some (.int (i : Nat)), ?_⟩, rfl⟩
          have e : ((restF false en i).take (((restF false en i).length : Int) - 1).toNat) = restF false en (i + 1) := by
            rw [lf]
            unfold restF
            rw [if_neg (by decide), if_neg (by decide), List.take_take]
            congr 1
            omega
          rw [e]
          rfl
        · walk_at "g"
          refine ⟨⟨some (.int (i : Nat)), ?_⟩, rfl⟩
          have e : restF false en (i + 1) = [] := List.length_eq_zero_iff.mp (by rw [restF_le]; rw [d] at lf; simp at lf; omega)
          rw [e]
          rfl
    case he =>
      obtain ⟨⟨y5, rfl⟩, rfl⟩ := h
      have lf := restF_le b en S.ch.toNat
      have lf2 := len_tx (restF b en S.ch.toNat)
      walk_at "g"
      rw [sdS_right]
      unfold growF at q
      cases b with
      | true =>
        rw [if_pos rfl] at q
        walk_at "g"
        refine k_add_s (by omega) ?_
        rw [tx_app]
        walk_at "g"
        refine k_add_s (by rw [len_tx, len_tx, List.length_append]; omega) ?_
        rw [tx_app]
        unfold restF
        rw [if_pos rfl]
        exact q
      | false =>
        rw [if_neg (by decide)] at q
        walk_at "g"
        refine k_add_s (by omega) ?_
        rw [tx_app]
        walk_at "g"
        refine k_add_s (by rw [len_tx, len_tx, List.length_append]; omega) ?_
        rw [tx_app]
        unfold restF
        rw [if_neg (by decide)]
        exact q
theorem deep_trL {S : HsD} (ok : HsOk S) {ks : List (List Key)} (h : ks = S.tr) : SeqAt.shaped (.list (ks.map dKeys)) = true := by
  have e7 := ok.e7
  subst h
  refine Good.shaped (j := 3) ⟨by rw [List.length_map]; omega, fun e he => ?_⟩ (by decide)
  obtain ⟨k, hk, rfl⟩ := List.mem_map.mp he
  obtain ⟨s, a, b, rfl, h1, h2, h3, h4⟩ := ok.ev k hk
  have t4 := ok.t4
  have g : ∀ x : Int, 0 ≤ x → x < S.tb.length → x.natAbs.log2 < 1920 := fun x h0 h1 => by
    have := log_nat (k := x.toNat) (by omega)
    rwa [Int.toNat_of_nonneg h0] at this
  refine ⟨by show 3 ≤ 50000; decide, fun e he => ?_⟩
  rcases List.mem_cons.mp he with rfl | he
  · refine ⟨?_, ?_⟩ <;> cases s <;> first | exact pl_B (by decide +kernel) | decide +kernel
  rcases List.mem_cons.mp he with rfl | he
  · exact g a h1 h2
  rcases List.mem_cons.mp he with rfl | he
  · exact g b h3 h4
  cases he
def spLBehind (K : PySem.W.Frag) : Sp := fun vs H Q _ => ∃ (m r : Addr) (S : HsD) (us : List (List Nat)) (place : Int) (z : Str), vs = [.ref m, .ref r, .int place, .str z] ∧ MAt K H m S ∧ HsOk S ∧ SqL K H r (tS us) ∧ AllW S us ∧ us.length ≤ 10000 ∧ ∀ v H', Same H H' → IsOpt H H' v (behS S us place z) → Q v H'
theorem ok_Lbehind (F : FnP K "_law_behind" s_Lbehind f fd) (hm : mg "_law_behind" = some (.ref f)) (f_len : mg "len" = none) (f_min : mg "min" = none) (c_Ltaste : Callee P w K mg base CX0 "_law_taste" 1 [] (spLTaste K)) (c_Lcut : Callee P w K mg base CX0 "_law_cut" 1 [] (spLCut K)) (c_Lgrown : Callee P w K mg base CX0 "_law_grown" 1 [] (spLGrown K)) : Callee P w K mg base CX0 "_law_behind" 2 [] (spLBehind K) := by
  refine ⟨f, fd, _, [], F.ok sc_Lbehind (fun vs H Q E h => ?hl) (fun cdv A outer s H vs Q E hr h => ⟨_, PSs.nox (pss_cons (ps_set (i := 4) sc_Lbehind.nd rfl (by first | exact Or.inl rfl | exact Or.inr rfl) (pe_ifExp (pt_cmpR (op_eqK K hr.units) (pv 3) pe_str (nomark _)) (pe_op (op_addK K) (pv 2) pe_int) (pe_op op_sub (pv 2) pe_int)))
      (pss_cons (ps_if (PW.pt (pw_or (pt_not (pt_chain op_leU op_lt pe_int (pv 2) (pe_callB (call_lenK K) (by rfl) f_len PySem.boot_len (pa_cons (pv 1) pa_nil)))) (pw_or (pt_not (pt_chain op_leU op_lt pe_int (pv 4) (pe_callB (call_lenK K) (by rfl) f_len PySem.boot_len (pa_cons (pv 1) pa_nil)))) (pw_or1 (pt_cmpR (op_niK K) (pv 3) (pe_tup (pa_cons pe_str (pa_cons pe_str pa_nil))) (by rfl)))))) (pss_one (ps_ret pe_non)) pss_nil)
      (pss_cons (ps_if (pt_cmpR (op_niLD K (u65 hr)) (pe_tup (pa_cons (pv 3) (pa_cons (pe_cl c_Ltaste hr (pa_cons (pv 0) (pa_cons (pe_ix (ix_k K) (pv 1) (pv 2) (fun _ _ => rfl)) pa_nil)) pass0) (pa_cons (pe_cl c_Ltaste hr (pa_cons (pv 0) (pa_cons (pe_ix (ix_k K) (pv 1) (pv 4) (fun _ _ => rfl)) pa_nil)) pass0) pa_nil)))) (pe_dget (hu_of hr) (pv 0) pe_str (fun _ _ => rfl)) (by rfl)) (pss_one (ps_ret pe_non)) pss_nil)
      (pss_cons (ps_set (i := 5) sc_Lbehind.nd rfl (by first | exact Or.inl rfl | exact Or.inr rfl) (pe_callB call_minK (by rfl) f_min (by decide +kernel) (pa_cons (pv 2) (pa_cons (pv 4) pa_nil))))
      (pss_cons (ps_set (i := 6) sc_Lbehind.nd rfl (by first | exact Or.inl rfl | exact Or.inr rfl) (pe_op (op_addK K) (pe_op (op_addK K) (pe_slice (sl_k K) (pv 1) po_none (po_some (pv 5))) (pe_cl c_Lcut hr (pa_cons (pv 0) (pa_cons (pe_cl c_Lgrown hr (pa_cons (pv 0) (pa_cons (pe_ix (ix_k K) (pv 1) (pv 2) (fun _ _ => rfl)) (pa_cons (pe_ix (ix_k K) (pv 1) (pv 4) (fun _ _ => rfl)) (pa_cons (pv 3) pa_nil)))) pass0) pa_nil)) pass0)) (pe_slice (sl_k K) (pv 1) (po_some (pe_op (op_addK K) (pv 5) pe_int)) po_none)))
      (pss_one (ps_ret (pe_ifExp (pt_cmpR (op_eqK K hr.units) (pv 6) (pv 1) (nomark _)) pe_non (pv 6))))))))), ?rd⟩), hm, F.kp, F.bindsN fun _ _ _ _ _ _ us hl => match us, hl with | [_, _, _, _], _ => rfl, .nil⟩
  case hl =>
    obtain ⟨m, r, S, us, place, z, rfl, _⟩ := h
    rfl
  case rd =>
    obtain ⟨m, r, S, us, place, z, rfl, hM, ok, hx, hw, lu, q⟩ := h
    refine k_start (σ' := [some _, some _, some _, some _, none, none, none]) rfl ?_
    have lx := len_tS us
    have no : ∀ H', Same H H' → behS S us place z = none → Q .non H' := fun H' s e => q .non H' s (by rw [e]; exact rfl)
    rcases side_of z with ⟨sd, rfl⟩ | hz
    · rw [behS_sd] at no
      simp only [behS_sd] at q
      walk_at "g"
      rw [sdS_right]
      cases sd with
      | false =>
        have out : ¬ (0 ≤ place - 1 ∧ place - 1 + 1 < us.length) → behF S us place false = none := fun h => by
          unfold behF
          by_cases h0 : (0 : Int) ≤ place - 1
          · rw [if_pos (by exact h0)]
            exact biteF_out (by show us.length ≤ (place - 1).toNat + 1; omega)
          · rw [if_neg (by exact h0)]
        walk_at "g"
        refine k_dec (fun d1 => ?_) (fun d1 => ?_)
        rotate_left
        · walk_at "g"
          exact no _ (Same.refl _) (out (by omega))
        walk_at "g"
        rw [lx]
        refine k_dec (fun d2 => ?_) (fun d2 => ?_)
        rotate_left
        · walk_at "g"
          exact no _ (Same.refl _) (out (by omega))
        walk_at "g"
        refine k_dec (fun d3 => ?_) (fun d3 => ?_)
        rotate_left
        · walk_at "g"
          exact no _ (Same.refl _) (out (by omega))
        walk_at "g"
        rw [lx]
        refine k_dec (fun d4 => ?_) (fun d4 => ?_)
        rotate_left
        · walk_at "g"
          exact no _ (Same.refl _) (out (by omega))
        walk_at "g"
        refine k_nTup (by walk_at "sz") (fun p2 H2 n2 s2 e2 => ?_)
        walk_at "g"
        refine k_niT (sq_t e2) rfl rfl (b := false) (by rw [inV_sides]; decide +kernel) ?_
        walk_at "g"
        obtain ⟨low, hlow⟩ : ∃ low : Nat, place - 1 = (low : Int) := ⟨(place - 1).toNat, by omega⟩
        have g1 : us[low]? = some us[low] := List.getElem?_eq_getElem (by omega)
        have g2 : us[low + 1]? = some us[low + 1] := List.getElem?_eq_getElem (by omega)
        have b1 := (hw.len ok) _ (List.getElem_mem (show low < us.length by omega))
        have b2 := (hw.len ok) _ (List.getElem_mem (show low + 1 < us.length by omega))
        generalize us[low] = x at g1 b1
        generalize us[low + 1] = y at g2 b2
        have eF : behF S us place false = if eatsF S false y x = true then (if us.take low ++ madeF S false x y ++ us.drop (low + 2) = us then none else some (us.take low ++ madeF S false x y ++ us.drop (low + 2))) else none := by
          unfold behF
          rw [show (if false = true then place else place - 1) = place - 1 from rfl, if_pos (by omega), show (place - 1).toNat = low by omega, biteF_some g1 g2]
          rfl
        have ix1 : atI (tS us) place = some (.str (tx y)) := at_n (show place = ((low + 1 : Nat) : Int) by omega) (getS g2)
        have ix2 : atI (tS us) (place - 1) = some (.str (tx x)) := at_n (show place - 1 = ((low : Nat) : Int) by omega) (getS g1)
        have hm2 := hM.sm s2
        refine k_ix_l (sm_l s2 hx) ix1 ?_
        walk_at "g"
        refine ⟨m, S, y, rfl, hm2, ok, b2.2.2, ?_⟩
        walk_at "g"
        refine k_ix_l (sm_l s2 hx) ix2 ?_
        walk_at "g"
        refine ⟨m, S, x, rfl, hm2, ok, b1.2.2, ?_⟩
        walk_at "g"
        refine k_nTup (by walk_at "sz") (fun p3 H3 n3 s3 e3 => ?_)
        obtain ⟨tb, ev, R, L, h1, h2, h3, h4, h5, h6, h7⟩ := id (hm2.sm s3)
        walk_at "g"
        have tp := tasteF_in ok (u := y) b2.2.2
        have tq := tasteF_in ok (u := x) b1.2.2
        refine ⟨_, _, dp_keys (k := kEat false (tasteF S y) (tasteF S x)) (sq_t e3), .lst h5 (dp_trs h6), shaped_eat false tp.1 tp.2 tq.1 tq.2, deep_trL ok (by rw [h7]), ?_⟩
        rw [any_keys, h7]
        have hr3 : ∀ (Hx : Hp), Same H3 Hx → SqL K Hx r (tS us) := fun Hx s => sm_l s (sm_l s3 (sm_l s2 hx))
        cases he : eatsF S false y x with
        | false =>
          unfold eatsF at he
          rw [he]
          walk_at "g"
          refine no _ (s2.trans s3) ?_
          rw [eF]
          unfold eatsF
          rw [he]
          rfl
        | true =>
          rw [he, if_pos rfl] at eF
          unfold eatsF at he
          rw [he]
          walk_at "g"
          rw [show min place (place - 1) = (low : Int) by omega]
          walk_at "g"
          refine k_sl_l (hr3 _ (Same.refl _)) (fun p4 H4 n4 s4 e4 => ?_)
          rw [cutV_to, tS_take] at e4
          walk_at "g"
          refine k_ix_l (hr3 _ s4) ix1 ?_
          walk_at "g"
          refine k_ix_l (hr3 _ s4) ix2 ?_
          walk_at "g"
          refine ⟨m, S, y, x, false, rfl, hm2.sm (s3.trans s4), ok, by omega, by omega, ?_⟩
          walk_at "g"
          have lg := growF_len S false y x
          have p2 := ok.p2
          refine ⟨m, S, growF S false y x, rfl, hm2.sm (s3.trans s4), ok, by omega, fun p5 H5 n5 s5 e5 => ?_⟩
          have cw := cutW_words ok _ (growF S false y x) (Nat.le_refl _) (by omega) (growF_in ok b2.2.2 b1.2.2)
          refine k_add_l (s5 _ _ e4) e5 (by rw [len_tS, len_tS, List.length_take]; omega) (fun p6 H6 n6 s6 e6 => ?_)
          walk_at "g"
          refine k_sl_l (hr3 _ (s4.trans (s5.trans s6))) (fun p7 H7 n7 s7 e7 => ?_)
          rw [cutV_fromI _ _ (by omega), show ((low : Int) + 2).toNat = low + 2 by omega, tS_drop] at e7
          refine k_add_l (s7 _ _ e6) e7 (by rw [List.length_append, len_tS, len_tS, len_tS, List.length_take, List.length_drop]; omega) (fun p8 H8 n8 s8 e8 => ?_)
          rw [← tS_app, ← tS_app, show cutW S (growF S false y x) = madeF S false x y from rfl] at e8
          have s38 := s4.trans (s5.trans (s6.trans (s7.trans s8)))
          have sH8 : Same H H8 := (s2.trans s3).trans s38
          have n8' : H p8 = none := (s2.trans (s3.trans (s4.trans (s5.trans (s6.trans s7))))).free n8
          walk_at "g"
          refine row_eq ok hw (by omega) (made_in ok hw (by omega) cw.1) (by rw [List.length_append, List.length_append, List.length_take, List.length_drop]; have := cw.2; show _ + (cutW S (growF S false y x)).length + _ ≤ 20000; omega) (sq_l e8) (hr3 _ s38) ?_
          walk_at "g"
          refine k_dec (fun d => ?_) (fun d => ?_)
          · rw [if_pos (show us.take low ++ madeF S false x y ++ us.drop (low + 2) = us from d)] at eF
            walk_at "g"
            exact no _ sH8 eF
          · rw [if_neg (show ¬ us.take low ++ madeF S false x y ++ us.drop (low + 2) = us from d)] at eF
            walk_at "g"
            exact q _ _ sH8 (by rw [eF]; exact ⟨p8, rfl, n8', e8⟩)
      | true =>
        have out : ¬ (0 ≤ place ∧ place + 1 < us.length) → behF S us place true = none := fun h => by
          unfold behF
          by_cases h0 : (0 : Int) ≤ place
          · rw [if_pos (by exact h0)]
            exact biteF_out (by show us.length ≤ (place).toNat + 1; omega)
          · rw [if_neg (by exact h0)]
        walk_at "g"
        refine k_dec (fun d1 => ?_) (fun d1 => ?_)
        rotate_left
        · walk_at "g"
          exact no _ (Same.refl _) (out (by omega))
        walk_at "g"
        rw [lx]
        refine k_dec (fun d2 => ?_) (fun d2 => ?_)
        rotate_left
        · walk_at "g"
          exact no _ (Same.refl _) (out (by omega))
        walk_at "g"
        refine k_dec (fun d3 => ?_) (fun d3 => ?_)
        rotate_left
        · walk_at "g"
          exact no _ (Same.refl _) (out (by omega))
        walk_at "g"
        rw [lx]
        refine k_dec (fun d4 => ?_) (fun d4 => ?_)
        rotate_left
        · walk_at "g"
          exact no _ (Same.refl _) (out (by omega))
        walk_at "g"
        refine k_nTup (by walk_at "sz") (fun p2 H2 n2 s2 e2 => ?_)
        walk_at "g"
        refine k_niT (sq_t e2) rfl rfl (b := false) (by rw [inV_sides]; decide +kernel) ?_
        walk_at "g"
        obtain ⟨low, hlow⟩ : ∃ low : Nat, place = (low : Int) := ⟨(place).toNat, by omega⟩
        have g1 : us[low]? = some us[low] := List.getElem?_eq_getElem (by omega)
        have g2 : us[low + 1]? = some us[low + 1] := List.getElem?_eq_getElem (by omega)
        have b1 := (hw.len ok) _ (List.getElem_mem (show low < us.length by omega))
        have b2 := (hw.len ok) _ (List.getElem_mem (show low + 1 < us.length by omega))
        generalize us[low] = x at g1 b1
        generalize us[low + 1] = y at g2 b2
        have eF : behF S us place true = if eatsF S true x y = true then (if us.take low ++ madeF S true x y ++ us.drop (low + 2) = us then none else some (us.take low ++ madeF S true x y ++ us.drop (low + 2))) else none := by
          unfold behF
          rw [show (if true = true then place else place - 1) = place from rfl, if_pos (by omega), show (place).toNat = low by omega, biteF_some g1 g2]
          rfl
        have ix1 : atI (tS us) place = some (.str (tx x)) := at_n (show place = ((low : Nat) : Int) by omega) (getS g1)
        have ix2 : atI (tS us) (place + 1) = some (.str (tx y)) := at_n (show place + 1 = ((low + 1 : Nat) : Int) by omega) (getS g2)
        have hm2 := hM.sm s2
        refine k_ix_l (sm_l s2 hx) ix1 ?_
        walk_at "g"
        refine ⟨m, S, x, rfl, hm2, ok, b1.2.2, ?_⟩
        walk_at "g"
        refine k_ix_l (sm_l s2 hx) ix2 ?_
        walk_at "g"
        refine ⟨m, S, y, rfl, hm2, ok, b2.2.2, ?_⟩
        walk_at "g"
        refine k_nTup (by walk_at "sz") (fun p3 H3 n3 s3 e3 => ?_)
        obtain ⟨tb, ev, R, L, h1, h2, h3, h4, h5, h6, h7⟩ := id (hm2.sm s3)
        walk_at "g"
        have tp := tasteF_in ok (u := x) b1.2.2
        have tq := tasteF_in ok (u := y) b2.2.2
        refine ⟨_, _, dp_keys (k := kEat true (tasteF S x) (tasteF S y)) (sq_t e3), .lst h5 (dp_trs h6), shaped_eat true tp.1 tp.2 tq.1 tq.2, deep_trL ok (by rw [h7]), ?_⟩
        rw [any_keys, h7]
        have hr3 : ∀ (Hx : Hp), Same H3 Hx → SqL K Hx r (tS us) := fun Hx s => sm_l s (sm_l s3 (sm_l s2 hx))
        cases he : eatsF S true x y with
        | false =>
          unfold eatsF at he
          rw [he]
          walk_at "g"
          refine no _ (s2.trans s3) ?_
          rw [eF]
          unfold eatsF
          rw [he]
          rfl
        | true =>
          rw [he, if_pos rfl] at eF
          unfold eatsF at he
          rw [he]
          walk_at "g"
          rw [show min place (place + 1) = (low : Int) by omega]
          walk_at "g"
          refine k_sl_l (hr3 _ (Same.refl _)) (fun p4 H4 n4 s4 e4 => ?_)
          rw [cutV_to, tS_take] at e4
          walk_at "g"
          refine k_ix_l (hr3 _ s4) ix1 ?_
          walk_at "g"
          refine k_ix_l (hr3 _ s4) ix2 ?_
          walk_at "g"
          refine ⟨m, S, x, y, true, rfl, hm2.sm (s3.trans s4), ok, by omega, by omega, ?_⟩
          walk_at "g"
          have lg := growF_len S true x y
          have p2 := ok.p2
          refine ⟨m, S, growF S true x y, rfl, hm2.sm (s3.trans s4), ok, by omega, fun p5 H5 n5 s5 e5 => ?_⟩
          have cw := cutW_words ok _ (growF S true x y) (Nat.le_refl _) (by omega) (growF_in ok b1.2.2 b2.2.2)
          refine k_add_l (s5 _ _ e4) e5 (by rw [len_tS, len_tS, List.length_take]; omega) (fun p6 H6 n6 s6 e6 => ?_)
          walk_at "g"
          refine k_sl_l (hr3 _ (s4.trans (s5.trans s6))) (fun p7 H7 n7 s7 e7 => ?_)
          rw [cutV_fromI _ _ (by omega), show ((low : Int) + 2).toNat = low + 2 by omega, tS_drop] at e7
          refine k_add_l (s7 _ _ e6) e7 (by rw [List.length_append, len_tS, len_tS, len_tS, List.length_take, List.length_drop]; omega) (fun p8 H8 n8 s8 e8 => ?_)
          rw [← tS_app, ← tS_app, show cutW S (growF S true x y) = madeF S true x y from rfl] at e8
          have s38 := s4.trans (s5.trans (s6.trans (s7.trans s8)))
          have sH8 : Same H H8 := (s2.trans s3).trans s38
          have n8' : H p8 = none := (s2.trans (s3.trans (s4.trans (s5.trans (s6.trans s7))))).free n8
          walk_at "g"
          refine row_eq ok hw (by omega) (made_in ok hw (by omega) cw.1) (by rw [List.length_append, List.length_append, List.length_take, List.length_drop]; have := cw.2; show _ + (cutW S (growF S true x y)).length + _ ≤ 20000; omega) (sq_l e8) (hr3 _ s38) ?_
          walk_at "g"
          refine k_dec (fun d => ?_) (fun d => ?_)
          · rw [if_pos (show us.take low ++ madeF S true x y ++ us.drop (low + 2) = us from d)] at eF
            walk_at "g"
            exact no _ sH8 eF
          · rw [if_neg (show ¬ us.take low ++ madeF S true x y ++ us.drop (low + 2) = us from d)] at eF
            walk_at "g"
            exact q _ _ sH8 (by rw [eF]; exact ⟨p8, rfl, n8', e8⟩)
    · have no := fun H' s => no H' s (behS_no hz)
      walk_at "g"
      rw [decide_eq_false hz.2]
      walk_at "g"
      refine k_dec (fun d1 => ?_) (fun d1 => ?_)
      rotate_left
      · walk_at "g"
        exact no _ (Same.refl _)
      walk_at "g"
      rw [lx]
      refine k_dec (fun d2 => ?_) (fun d2 => ?_)
      rotate_left
      · walk_at "g"
        exact no _ (Same.refl _)
      walk_at "g"
      refine k_dec (fun d3 => ?_) (fun d3 => ?_)
      rotate_left
      · walk_at "g"
        exact no _ (Same.refl _)
      walk_at "g"
      rw [lx]
      refine k_dec (fun d4 => ?_) (fun d4 => ?_)
      rotate_left
      · walk_at "g"
        exact no _ (Same.refl _)
      walk_at "g"
      refine k_nTup (by walk_at "sz") (fun p2 H2 n2 s2 e2 => ?_)
      walk_at "g"
      refine k_niT (sq_t e2) rfl rfl (b := true) (by rw [inV_sides, decide_eq_false hz.1, decide_eq_false hz.2]; rfl) ?_
      walk_at "g"
      exact no _ s2
def spLBites (K : PySem.W.Frag) : Sp := fun vs H Q _ => ∃ (m r : Addr) (S : HsD) (us : List (List Nat)), vs = [.ref m, .ref r] ∧ MAt K H m S ∧ HsOk S ∧ SqL K H r (tS us) ∧ AllW S us ∧ us.length ≤ 10000 ∧ ∀ p ws H', H p = none → Same H H' → H' p = some (.lst ws) → DpAll K H' ws ((bitesF S us).map dB1) → Q (.ref p) H'
theorem ok_Lbites (F : FnP K "_law_bites" s_Lbites f fd) (hm : mg "_law_bites" = some (.ref f)) (f_len : mg "len" = none) (f_range : mg "range" = none) (c_Lbehind : Callee P w K mg base CX0 "_law_behind" 2 [] (spLBehind K)) : Callee P w K mg base CX0 "_law_bites" 3 [] (spLBites K) := by
  refine ⟨f, fd, _, [], F.ok sc_Lbites (fun vs H Q E h => ?hl) (fun cdv A outer s H vs Q E hr h => ⟨_, PSs.nox (pss_cons (ps_set (i := 2) sc_Lbites.nd rfl (by first | exact Or.inl rfl | exact Or.inr rfl) (pe_lst pa_nil))
      (pss_cons (ps_for PassesOwn.never rfl (pi_range1 (by rfl) f_range (pa_cons (pe_callB (call_lenK K) (by rfl) f_len PySem.boot_len (pa_cons (pv 1) pa_nil)) pa_nil)) (pg_name (i := 3) sc_Lbites.nd rfl (by first | exact Or.inl rfl | exact Or.inr rfl)) (pss_one (ps_set (i := 2) sc_Lbites.nd rfl (by first | exact Or.inl rfl | exact Or.inr rfl) (pe_op (op_addK K) (pv 2) (pe_lc (own := [("_law_edge", 4)]) rfl sc_Lbites.nd (pi_tupK K (pe_tup (pa_cons pe_str (pa_cons pe_str pa_nil)))) (blkOk_by (N := ["_law_m", "_law_row_here", "_law_found", "_law_place", "_law_edge"]) (sc := defScope s_Lbites) (by decide +kernel)) (fun _ _ _ _ _ => (pg_name (i := 4) sc_Lbites.nd rfl (by first | exact Or.inl rfl | exact Or.inr rfl))) (fun _ _ _ _ _ => (pts_one (pt_cmpR op_notN1 (pe_cl c_Lbehind hr (pa_cons (pv 0) (pa_cons (pv 1) (pa_cons (pv 3) (pa_cons (pv 4) pa_nil)))) pass0) pe_non (nomark _)))) (fun _ _ _ _ _ => (pe_tup (pa_cons (pv 3) (pa_cons (pv 4) pa_nil)))))))))
      (pss_one (ps_ret (pv 2))))), ?rd⟩), hm, F.kp, F.bindsN fun _ _ _ _ _ _ us hl => match us, hl with | [_, _], _ => rfl, .nil⟩
  case hl =>
    obtain ⟨m, r, S, us, rfl, _⟩ := h
    rfl
  case rd =>
    obtain ⟨m, r, S, us, rfl, hM, ok, hx, hw, lu, q⟩ := h
    refine k_start (σ' := [some _, some _, none, none, none]) rfl ?_
    have lx := len_tS us
    walk_at "g"
    refine k_nLst (by walk_at "sz") (fun p1 H1 n1 s1 e1 => ?_)
    walk_at "g"
    rw [lx]
    walk_at "g"
    refine k_nFor walk_range (fun i σ H' => (∃ p3 y3 ws, σ = [some (.ref m), some (.ref r), some (.ref p3), y3, none] ∧ H p3 = none ∧ H' p3 = some (.lst ws) ∧ DpAll K H' ws ((bitesTo S us i 0).map dB1)) ∧ Same H H') ⟨⟨p1, _, [], rfl, n1, e1, .nil⟩, s1⟩ (fun _ _ _ _ _ => trivial) (fun i x σ Ha Hb hi h hy => ?ht) (fun σ H' h => ?he)
    case he =>
      obtain ⟨⟨p3, y3, ws, rfl, np, ea, da⟩, sa⟩ := h
      walk_at "g"
      exact q p3 ws _ np sa ea (by rw [← bitesTo_all]; simpa using da)
    case ht =>
      obtain ⟨⟨p3, y3, ws, rfl, np, ea, da⟩, sa⟩ := h
      obtain ⟨rfl, rfl⟩ := y_rng hy
      have lw := dpall_len da
      rw [List.length_map] at lw
      have bl := bitesTo_len S us i 0
      walk_at "g"
      refine k_nTup (by walk_at "sz") (fun p2 H2 n2 s2 e2 => ?_)
      walk_at "g"
      refine k_nLcD (walk_tup (xs := [V.str (Str.ofString "left"), V.str (Str.ofString "right")])) (fun H' s => sq_t (s _ _ e2)) (fun j zs H1 => ∃ xs : List (Bt × List (List Nat)), DpAll K H1 zs (xs.map dB1) ∧ bitesTo S us i 0 ++ xs = bitesTo S us i j ∧ xs.length ≤ j) (fun j zs Ha Hb s h => ?hm) ⟨[], .nil, by simp, Nat.le_refl _⟩ (fun j zs H1 hj h => ?hz) (fun j x p Hc Hd zs Kp Ks hj hp sc ec hzs hy hKp hKs => ?ht2) (fun p Hc zs hp sc ec hzs => ?he2)
      case hm =>
        obtain ⟨xs, h1, h2⟩ := h
        exact ⟨xs, dpall_sm s h1, h2⟩
      case hz =>
        obtain ⟨xs, h1, h2, h3⟩ := h
        have := dpall_len h1
        rw [List.length_map] at this
        have : j ≤ 2 := hj
        omega
      case ht2 =>
        obtain ⟨rfl, hv⟩ := hy
        obtain ⟨b, hb, rfl⟩ : ∃ b, [false, true][j]? = some b ∧ x = .str (sdS b) := by
          have : j = 0 ∨ j = 1 := by
            have : j < 2 := hj
            omega
          rcases this with rfl | rfl <;> cases hv
          · exact ⟨false, rfl, rfl⟩
          · exact ⟨true, rfl, rfl⟩
        obtain ⟨xs, hx1, hx2, hx3⟩ := hzs
        have hn := bitesTo_next (S := S) (us := us) (i := i) hb
        walk_at "g"
        refine ⟨rfl, ?_⟩
        walk_at "g"
        refine ⟨m, r, S, us, (i : Nat), sdS b, rfl, by walk_at "ms", ok, by walk_at "sq", hw, lu, fun v H3 s3 hv3 => ?_⟩
        rw [behS_sd] at hv3
        cases eb : behF S us (i : Nat) b with
        | none =>
          rw [eb] at hv3 hn
          cases (show v = .non from hv3)
          walk_at "g"
          exact hKs _ s3 ⟨xs, dpall_sm (del_mono s3) hx1, by rw [hn]; exact hx2, by omega⟩
        | some mm =>
          rw [eb] at hv3 hn
          obtain ⟨pm, rfl, nm, em⟩ := hv3
          walk_at "g"
          refine k_nTup (by walk_at "sz") (fun p4 H4 n4 s4 e4 => ?_)
          refine hKp _ _ (s3.trans s4) ⟨xs ++ [((i, b), mm)], ?_, ?_, by rw [List.length_append]; exact Nat.succ_le_succ hx3⟩
          · rw [List.map_append]
            exact dpall_app (dpall_sm (del_mono (s3.trans s4)) hx1) (.tup (del_t ((s3.trans s4) _ _ ec) (sq_t e4)) (.cons (.int _) (.cons (.str _) .nil)))
          · rw [hn, ← hx2]
            exact (List.append_assoc ..).symm
      case he2 =>
        obtain ⟨xs, hx1, hx2, hx3⟩ := hzs
        have hx3 : xs.length ≤ 2 := hx3
        have hx2 : bitesTo S us i 0 ++ xs = bitesTo S us i 2 := hx2
        have lz := dpall_len hx1
        rw [List.length_map] at lz
        have eac := (s2.trans sc) _ _ ea
        refine k_add_l eac ec (by omega) (fun p5 H5 n5 s5 e5 => ?_)
        walk_at "g"
        refine ⟨⟨p5, _, ws ++ zs, rfl, (sa.trans (s2.trans sc)).free n5, e5, ?_⟩, sa.trans (s2.trans (sc.trans s5))⟩
        rw [← bitesTo_two, ← hx2, List.map_append]
        exact dpall_apps (dpall_sm (s2.trans (sc.trans s5)) da) (dpall_sm s5 hx1)
theorem words_pos {S : HsD} (ok : HsOk S) : 0 < (wordsF S.ls S.mo.toNat).length := by
  have m1 := ok.m1
  have l1 := ok.l1
  obtain ⟨c, hc⟩ : ∃ c, c ∈ S.ls := ⟨S.ls[0], List.getElem_mem (by omega)⟩
  have h : [c] ∈ wordsF S.ls S.mo.toNat := List.mem_flatMap.mpr ⟨0, List.mem_range.mpr (by omega), mem_lv _ _ _ rfl fun d hd => by rw [List.mem_singleton.mp hd]; exact hc⟩
  exact List.length_pos_of_mem h
def spLRow (K : PySem.W.Frag) : Sp := fun vs H Q _ => ∃ (b m : Addr) (S : HsD) (n : Nat), vs = [.ref b, .ref m, .int (n : Nat)] ∧ BagOk H b ∧ MAt K H m S ∧ HsOk S ∧ n ≤ 1000 ∧ ∀ us p H', AllW S us → us.length ≤ n → H p = none → Same H H' → H' p = some (.lst (tS us)) → Q (.ref p) H'
theorem ok_Lrow (F : FnP K "_law_row" s_Lrow f fd) (hm : mg "_law_row" = some (.ref f)) (f_range : mg "range" = none) (c_Lpull : Callee P w K mg base CX0 "_law_pull" 1 [] spPull) (c_Lone : Callee P w K mg base CX0 "_law_one" 2 [] (spOne K)) (c_Lwords : Callee P w K mg base CX0 "_law_words" 1 [] (spLWords K)) : Callee P w K mg base CX0 "_law_row" 3 [] (spLRow K) := by
  refine ⟨f, fd, _, [], F.ok sc_Lrow (fun vs H Q E h => ?hl) (fun cdv A outer s H vs Q E hr h => ⟨_, PSs.nox (pss_cons (ps_set (i := 3) sc_Lrow.nd rfl (by first | exact Or.inl rfl | exact Or.inr rfl) (pe_cl c_Lwords hr (pa_cons (pv 1) pa_nil) pass0))
      (pss_one (ps_ret (pe_lc (own := [("_law_k", 4)]) rfl sc_Lrow.nd (pi_range1 (by rfl) f_range (pa_cons (pe_cl c_Lpull hr (pa_cons (pv 0) (pa_cons (pe_op (op_addK K) (pv 2) pe_int) pa_nil)) pass0) pa_nil)) (blkOk_by (N := ["_law_bag_here", "_law_m", "_law_most_words", "_law_shelf", "_law_k"]) (sc := defScope s_Lrow) (by decide +kernel)) (fun _ _ _ _ _ => (pg_name (i := 4) sc_Lrow.nd rfl (by first | exact Or.inl rfl | exact Or.inr rfl))) (fun _ _ _ _ _ => pts_nil) (fun _ _ _ _ _ => (pe_cl c_Lone hr (pa_cons (pv 0) (pa_cons (pv 3) pa_nil)) pass0)))))), ?rd⟩), hm, F.kp, F.bindsN fun _ _ _ _ _ _ us hl => match us, hl with | [_, _, _], _ => rfl, .nil⟩
  case hl =>
    obtain ⟨b, m, S, n, rfl, _⟩ := h
    rfl
  case rd =>
    obtain ⟨b, m, S, n, rfl, hb, hM, ok, ln, q⟩ := h
    refine k_start (σ' := [some _, some _, some _, none, none]) rfl ?_
    have lw := words_small ok S.mo.toNat (Nat.le_refl _)
    have m3 := ok.m3
    have wp := words_pos ok
    have ltw := len_tS (wordsF S.ls S.mo.toNat)
    walk_at "g"
    refine ⟨m, S, rfl, hM, ok, fun p1 H1 n1 s1 e1 => ?_⟩
    walk_at "g"
    refine k_pull (hb.sm s1) (by omega) (by omega) (fun x x0 x1 => ?_)
    walk_at "g"
    refine k_nLc walk_range (fun _ _ => trivial) (fun i ws => ∃ us : List (List Nat), ws = tS us ∧ us.length = i ∧ AllW S us) ⟨[], rfl, rfl, fun u hu => nomatch hu⟩ (fun i ws hi h => ?hz) (fun i v Hc Hd ws Kp Ks hi sa hws hy hKp hKs => ?ht) (fun p2 H2 ws n2 s2 e2 hws => ?he)
    case hz =>
      obtain ⟨us, rfl, h2, _⟩ := h
      rw [len_tS]
      omega
    case ht =>
      obtain ⟨rfl, rfl⟩ := y_rng hy
      obtain ⟨us, rfl, h2, h3⟩ := hws
      have e1a := sa _ _ e1
      walk_at "g"
      refine ⟨rfl, ?_⟩
      walk_at "g"
      refine ⟨b, .ref p1, rfl, (hb.sm s1).sm sa, .inl ⟨p1, _, rfl, sq_l e1a, by omega, by omega, fun v hv => ?_⟩⟩
      obtain ⟨u, hu, rfl⟩ := List.mem_map.mp hv
      refine hKp _ _ (Same.refl _) ⟨us ++ [u], by rw [tS_app]; rfl, by rw [List.length_append, h2]; rfl, fun z hz => ?_⟩
      rcases List.mem_append.mp hz with hz | hz
      · exact h3 z hz
      · rw [List.mem_singleton.mp hz]
        exact hu
    case he =>
      obtain ⟨us, rfl, h2, h3⟩ := hws
      exact q us p2 H2 h3 (by omega) (s1.free n2) (s1.trans s2) e2
theorem nLet_join (us : List (List Nat)) : (Txt.join (Str.ofString "") (us.map tx)) = tx us.flatten := by
  refine TL.ext_tl ?_
  rw [TL.join_eq, TL.tl_join, tl_tx, show TL.tl (Str.ofString "") = [] from rfl, joinL_nil, List.map_map]
  congr 1
  rw [show (TL.tl ∘ tx) = id from rfl, List.map_id]
theorem sum_lens (us : List (List Nat)) : ((us.map tx).map (·.length)).sum = us.flatten.length := by
  rw [List.length_flatten, List.map_map]
  congr 1
end
end Lw
set_option autoImplicit true
set_option pp.maxSteps 1200
set_option Elab.async false
set_option linter.all false
set_option maxRecDepth 100000
set_option maxHeartbeats 1000000
namespace Lw
open PySem PySem.Spec PyProof.Rows L2 Gk NdefX
open LamX hiding takes0

local macro_rules | `(tactic| walk_at "hp") => `(tactic| first | assumption | exact upd_same | (refine' (upd_ne ?n).trans ?h; (case n => assumption); (case h => walk_at "hp")) | (refine' sm_get ?s ?h; (case s => assumption); (case h => walk_at "hp")))
local macro_rules | `(tactic| walk_at "sq") => `(tactic| first | assumption | (refine' sq_l ?h; (case h => walk_at "hp")) | (refine' sm_l ?s ?h; (case s => assumption); (case h => walk_at "sq")))
local macro_rules | `(tactic| walk_at "st") => `(tactic| first | assumption | (refine' sq_t ?h; (case h => walk_at "hp")) | (refine' sm_t ?s ?h; (case s => assumption); (case h => walk_at "st")))
local macro_rules | `(tactic| walk_at "bg") => `(tactic| first | assumption | (refine' BagOk.sm ?s ?h; (case s => assumption); (case h => walk_at "bg")))
local macro_rules | `(tactic| walk_at "sm") => `(tactic| first | assumption | exact Same.refl _ | (refine' Same.trans ?h ?s; (case s => assumption); (case h => walk_at "sm")))
local macro_rules | `(tactic| walk_at "hs") => `(tactic| first | assumption | (refine' HsAt.sm ?s ?h; (case s => assumption); (case h => walk_at "hs")))
local macro_rules | `(tactic| walk_at "ms") => `(tactic| first | assumption | (refine' MAt.sm ?s ?h; (case s => assumption); (case h => walk_at "ms")))
local macro_rules | `(tactic| walk_at "dp") => `(tactic| first | assumption | (refine' dp_sm ?s ?h; (case s => assumption); (case h => walk_at "dp")))
local macro_rules | `(tactic| walk_at "sz") => `(tactic| first | decide | assumption | omega | (simp only [List.length_cons, List.length_nil, List.length_map, List.length_append]; omega))
local macro_rules | `(tactic| walk_at "g1") => `(tactic| first
  | with_reducible refine k_seq ?_
  | with_reducible refine k_itB ?_
  | with_reducible refine k_next ?_
  | with_reducible refine k_asg ?_
  | with_reducible refine k_name ?_
  | with_reducible refine k_ret ?_
  | with_reducible refine k_retN ?_
  | with_reducible refine k_drop ?_
  | with_reducible refine k_ifs ?_
  | with_reducible refine k_brk ?_
  | with_reducible refine k_cont ?_
  | with_reducible refine k_ipI ?_
  | with_reducible refine k_test ?_
  | with_reducible refine k_tB ?_
  | with_reducible refine k_bl ?_
  | with_reducible refine k_not ?_
  | with_reducible refine k_and ?_
  | with_reducible refine k_or ?_
  | with_reducible refine k_yes ?_
  | with_reducible refine k_true ?_
  | with_reducible refine k_false ?_
  | with_reducible refine k_nt ?_
  | with_reducible refine k_c ?_
  | with_reducible refine k_op ?_
  | with_reducible refine k_un ?_
  | with_reducible refine k_if ?_
  | with_reducible refine k_chain ?_
  | with_reducible refine k_nil ?_
  | with_reducible refine k_cons ?_
  | with_reducible refine k_cb ?_
  | with_reducible refine k_call ?_
  | with_reducible refine k_callS ?_
  | with_reducible refine k_andV ?_
  | with_reducible refine k_orV ?_
  | with_reducible refine k_notV ?_
  | with_reducible refine k_lst ?_
  | with_reducible refine k_tup ?_
  | with_reducible refine k_nopart ?_
  | with_reducible refine k_part ?_
  | with_reducible refine k_nInt ?_
  | with_reducible refine k_sl ?_
  | with_reducible refine k_bm ?_
  | with_reducible refine k_bm0 ?_
  | with_reducible refine k_nTyS ?_
  | with_reducible refine k_m1 ?_
  | with_reducible refine k_m0 ?_
  | with_reducible refine k_nStr ?_
  | with_reducible refine k_I0 ?_
  | with_reducible refine k_U ?_
  | with_reducible refine k_add_i ?_
  | with_reducible refine k_eq_i ?_
  | with_reducible refine k_eq_s ?_
  | with_reducible refine k_eq_b ?_
  | with_reducible refine k_ne_i ?_
  | with_reducible refine k_ne_s ?_
  | with_reducible refine k_ne_b ?_
  | with_reducible refine k_le_i ?_
  | with_reducible refine k_le_s ?_
  | with_reducible refine k_gnil ?_
  | with_reducible refine k_gcons ?_
  | with_reducible refine k_gsub ?_
  | with_reducible refine k_for ?_
  | with_reducible refine k_lc ?_
  | with_reducible refine k_rng1 ?_
  | with_reducible refine k_rng2 ?_
  | with_reducible refine k_itl ?_
  | with_reducible refine k_itt ?_
  | with_reducible refine k_its ?_
  | with_reducible refine k_ite ?_
  | with_reducible refine k_iteB ?_
  | with_reducible refine k_lrg2 ?_
  | with_reducible refine k_itz ?_
  | with_reducible refine k_nIts ?_
  | with_reducible refine k_inS ?_
  | with_reducible refine k_niS ?_
  | with_reducible refine k_mk ?_
  | with_reducible refine k_meth ?_
  | with_reducible refine k_fld ?_
  | with_reducible refine k_sfld ?_
  | with_reducible refine k_dg ?_
  | with_reducible refine k_dp ?_
  | with_reducible refine k_pr ?_
  | with_reducible refine k_pr0 ?_
  | with_reducible refine k_sg ?_
  | with_reducible refine k_lc2 ?_
  | with_reducible refine k_callN ?_
  | with_reducible refine k_callNS ?_
  | with_reducible refine k_par ?_
  | with_reducible refine k_nPar ?_
  | with_reducible refine k_isNn ?_
  | with_reducible refine k_isNr ?_
  | with_reducible refine k_ntNn ?_
  | with_reducible refine k_ntNr ?_
  | with_reducible refine k_min2 ?_
  | with_reducible refine k_max2 ?_
  | with_reducible refine k_intB ?_
  | with_reducible refine k_intI ?_
  | with_reducible refine k_isBl ?_
  | with_reducible refine k_ntBl ?_
  | ((with_reducible refine' k_var ?kv ?_); (case kv => exact rfl))
  | ((with_reducible refine' k_aug ?kv ?_); (case kv => exact rfl))
  | ((with_reducible refine' k_ix_l ?ks ?ki ?_); (case ks => walk_at "sq"); (case ki => exact rfl))
  | ((with_reducible refine' k_ix_t ?ks ?ki ?_); (case ks => walk_at "st"); (case ki => exact rfl))
  | ((with_reducible refine' k_len_l ?ks ?_); (case ks => walk_at "sq"))
  | ((with_reducible refine' k_len_t ?ks ?_); (case ks => walk_at "st"))
  | ((with_reducible refine' k_setL ?ks ?ki ?_); (case ks => walk_at "hp"); (case ki => exact rfl))
  | ((with_reducible refine' k_nTyL ?ks ?_); (case ks => walk_at "sq"))
  | ((with_reducible refine' k_nItl ?ks ?_); (case ks => walk_at "sq"))
  | ((with_reducible refine' k_nItt ?ks ?_); (case ks => walk_at "st"))
  | ((with_reducible refine' k_nIte ?ks ?_); (case ks => walk_at "sq"))
  | ((with_reducible refine' k_mul ?km ?_); (case km => first | exact Or.inr ⟨by decide, by decide⟩ | exact Or.inl ⟨by decide, by decide⟩))
  | ((with_reducible refine' k_I ?km ?_); (case km => first | assumption | decide | exact ⟨by decide, by decide +kernel⟩ | exact ⟨by decide, by decide, by decide⟩))
  | ((with_reducible refine' k_nMeth ?kp ?kl ?_); (case kp => walk_at "hp"); (case kl => exact rfl))
  | ((with_reducible refine' k_nFld ?kp ?kc ?kn ?kl ?_); (case kp => walk_at "hp"); (case kc => assumption); (case kn => assumption); (case kl => exact rfl))
  | ((with_reducible refine' k_nSFld ?kp ?kc ?kn ?kl ?_); (case kp => walk_at "hp"); (case kc => assumption); (case kn => assumption); (case kl => exact of_decide_eq_true rfl))
  | ((with_reducible refine' k_nDg ?kp ?kl ?_); (case kp => walk_at "hp"); (case kl => exact rfl))
  | ((with_reducible refine' k_nRng1 ?k1 ?k2 ?_); (case k1 => omega); (case k2 => omega))
  | ((with_reducible refine' k_nKw ?k1 ?k2 ?_); (case k1 => exact rfl); (case k2 => exact rfl))
  | ((with_reducible refine' k_hsm ?kh ?_); (case kh => walk_at "hs"))
  | ((with_reducible refine' k_nMethH ?kh ?kl ?_); (case kh => walk_at "hs"); (case kl => exact fun _ _ => rfl))
  | ((with_reducible refine' k_mLet ?kh ?_); (case kh => walk_at "ms"))
  | ((with_reducible refine' k_mChew ?kh ?_); (case kh => walk_at "ms"))
  | ((with_reducible refine' k_mPut ?kh ?_); (case kh => walk_at "ms"))
  | ((with_reducible refine' k_mMost ?kh ?_); (case kh => walk_at "ms"))
  | ((with_reducible refine' k_mCut ?kh ?_); (case kh => walk_at "ms"))
  | ((with_reducible refine' k_gtup ?ks ?kl ?_); (case ks => walk_at "st"); (case kl => exact rfl)))
local macro_rules | `(tactic| walk_at "g") => `(tactic| repeat (walk_at "g1"))
local macro_rules | `(tactic| walk_at "w1") => `(tactic| first
  | walk_at "g1"
  | ((with_reducible refine' k_decT ?kp ?_); (case kp => omega))
  | ((with_reducible refine' k_decF ?kp ?_); (case kp => omega))
  | ((with_reducible refine' k_decNT ?kp ?_); (case kp => omega))
  | ((with_reducible refine' k_decNF ?kp ?_); (case kp => omega)))
local macro_rules | `(tactic| walk_at "w") => `(tactic| repeat (walk_at "w1"))

local macro_rules | `(tactic| walk_at "g1") => `(tactic| first
  | with_reducible refine k_mkP ?_
  | with_reducible refine k_din ?_
  | with_reducible refine k_dni ?_
  | with_reducible refine k_sortF ?_
  | with_reducible refine k_sortL ?_
  | with_reducible refine k_itk ?_
  | with_reducible refine k_revL ?_)


section
variable {P : Program} {w : World} {K : PySem.W.Frag} {mg : Str → Option Value} {base : Heap} {f : Addr} {fd : FuncData}
/-! ### the law's own going out -/
structure LinM (K : PySem.W.Frag) (H0 H : Hp) (d pl : Addr) (L : List Came) : Prop where
  d : H d = some (.dT (kdV L))
  l : ∃ es, H pl = some (.lst (es.map V.ref)) ∧ KE_ H es (rowsC L)
  s : Same H0 H
theorem LinM.sm {H0 H H' : Hp} {d pl : Addr} {L : List Came} (s : Same H H') (h : LinM K H0 H d pl L) : LinM K H0 H' d pl L := by
  obtain ⟨es, l1, l2⟩ := h.l
  exact ⟨s _ _ h.d, ⟨es, s _ _ l1, ke_sm s l2⟩, h.s.trans s⟩
theorem LinM.add {H0 H : Hp} {d pl u : Addr} {L : List Came} {es : List Addr} {m : List (List Nat)} {n : Nat} {fr : Option (List (List Nat) × Bt)} (h : LinM K H0 H d pl L) (hl : H pl = some (.lst (es.map V.ref))) (he : KE_ H es (rowsC L)) (hu : H u = some (.tup (tS m))) (zd : H0 d = none) (zl : H0 pl = none) :
    LinM K H0 (upd (upd H d (.dT (kdV L ++ [(rk m, .int (n : Nat))]))) pl (.lst (es.map V.ref ++ [.ref u]))) d pl (L ++ [⟨m, n, fr⟩]) := by
  have d0 := h.d
  have ne : pl ≠ d := ne_of hl d0 (fun z => nomatch z)
  have hl1 : (upd H d (.dT (kdV L ++ [(rk m, .int (n : Nat))]))) pl = some (.lst (es.map V.ref)) := by
    rw [upd_ne ne]
    exact hl
  refine ⟨?_, ⟨es ++ [u], ?_, ?_⟩, sm_mut (sm_mut h.s zd) zl⟩
  · rw [upd_ne ne.symm, upd_same, kdV, kdV, List.map_append]
    rfl
  · rw [upd_same, List.map_append]
    rfl
  · rw [rowsC, List.map_append]
    exact ke_upd hl1 (noTup_lst _) (ke_upd d0 (noTup_dT _) (ke_app hu he))
theorem kd_some {L : List Came} {u : List (List Nat)} : (valV (kdV L) (rk u)).isSome = L.any fun r => decide (r.row = u) := by
  cases h : L.any fun r => decide (r.row = u) with
  | true => rw [kd_val h]; rfl
  | false => rw [kd_none h]; rfl
theorem bt_upd {H : Hp} {a : Addr} {o o' : HO} (ha : H a = some o') (n : NoTup o') : ∀ {ws : List V} {xs : List (Bt × List (List Nat))}, DpAll K H ws (xs.map dB1) → DpAll K (upd H a o) ws (xs.map dB1)
  | [], [], _ => .nil
  | w :: ws, x :: xs, .cons h t => by
    obtain ⟨tb, rfl, htb⟩ := dp_btI h
    exact .cons (.tup (sqt_upd ha n htb) (.cons (.int _) (.cons (.str _) .nil))) (bt_upd ha n t)
def spLOut (K : PySem.W.Frag) : Sp := fun vs H Q _ => ∃ (m r : Addr) (S : HsD) (us : List (List Nat)) (cap : Nat), vs = [.ref m, .ref r, .int (cap : Nat)] ∧ MAt K H m S ∧ HsOk S ∧ SqL K H r (tS us) ∧ AllW S us ∧ us.length ≤ 12 ∧ cap ≤ 401 ∧
  ∀ d L H', L = qF S us cap none (cap + 1) → H d = none → Same H H' → H' d = some (.dT (kdV L)) → Q (.ref d) H'
theorem ok_Lout (F : FnP K "_law_out" s_Lout f fd) (hm : mg "_law_out" = some (.ref f)) (f_range : mg "range" = none) (f_len : mg "len" = none) (f_list : mg "list" = none) (f_tuple : mg "tuple" = none) (c_Lbehind : Callee P w K mg base CX0 "_law_behind" 2 [] (spLBehind K)) (c_Lbites : Callee P w K mg base CX0 "_law_bites" 3 [] (spLBites K)) : Callee P w K mg base CX0 "_law_out" 4 [] (spLOut K) := by
  refine ⟨f, fd, _, [], F.ok sc_Lout (fun vs H Q E h => ?hl) (fun cdv A outer s H vs Q E hr h => ⟨_, PSs.nox (pss_cons (ps_set (i := 3) sc_Lout.nd rfl (by first | exact Or.inl rfl | exact Or.inr rfl) (pe_disp1T hr.units (pe_callTy (call_tupK K) (by rfl) f_tuple (by decide +kernel) (pa_cons (pv 1) pa_nil)) pe_int))
      (pss_cons (ps_set (i := 4) sc_Lout.nd rfl (by first | exact Or.inl rfl | exact Or.inr rfl) (pe_lst (pa_cons (pe_callTy (call_tupK K) (by rfl) f_tuple (by decide +kernel) (pa_cons (pv 1) pa_nil)) pa_nil)))
      (pss_cons (ps_for PassesOwn.never rfl (pi_range1 (by rfl) f_range (pa_cons (pe_op (op_addK K) (pv 2) pe_int) pa_nil)) (pg_name (i := 5) sc_Lout.nd rfl (by first | exact Or.inl rfl | exact Or.inr rfl)) (pss_one (ps_if (pt_chain op_lt op_leU (pv 5) (pe_callB (call_lenK K) (by rfl) f_len PySem.boot_len (pa_cons (pv 4) pa_nil)) (pv 2)) (pss_cons (ps_set (i := 6) sc_Lout.nd rfl (by first | exact Or.inl rfl | exact Or.inr rfl) (pe_callTy (call_listK K) (by rfl) f_list (by decide +kernel) (pa_cons (pe_ix (ix_k K) (pv 4) (pv 5) (fun _ _ => rfl)) pa_nil)))
      (pss_one (ps_for PassesOwn.never rfl (pi_listK K (pe_cl c_Lbites hr (pa_cons (pv 0) (pa_cons (pv 6) pa_nil)) pass0)) (pg_tupK K 2 (by rfl) (pgs_cons (pg_name (i := 7) sc_Lout.nd rfl (by first | exact Or.inl rfl | exact Or.inr rfl)) (pgs_cons (pg_name (i := 8) sc_Lout.nd rfl (by first | exact Or.inl rfl | exact Or.inr rfl)) pgs_nil))) (pss_cons (ps_set (i := 9) sc_Lout.nd rfl (by first | exact Or.inl rfl | exact Or.inr rfl) (pe_callTy (call_tupK K) (by rfl) f_tuple (by decide +kernel) (pa_cons (pe_cl c_Lbehind hr (pa_cons (pv 0) (pa_cons (pv 6) (pa_cons (pv 7) (pa_cons (pv 8) pa_nil)))) pass0) pa_nil)))
      (pss_one (ps_if (pt_cmp (pc_dnotin (hu_of hr) (pv 9) (pv 3))) (pss_cons (ps_dput (hu_of hr) (pv 3) (pv 9) (pe_op (op_addK K) (pe_dget (hu_of hr) (pv 3) (pe_ix (ix_k K) (pv 4) (pv 5) (fun _ _ => rfl)) (fun _ _ => rfl)) pe_int) rfl)
      (pss_one (ps_expr (pe_bmK K PySem.F.plainAttrs_list PySem.F.slot_list_append PySem.F.type_list_append mt_append (pv 4) (pa_cons (pv 9) pa_nil))))) pss_nil)))))) pss_nil)))
      (pss_one (ps_ret (pv 3)))))), ?rd⟩), hm, F.kp, F.bindsN fun _ _ _ _ _ _ us hl => match us, hl with | [_, _, _], _ => rfl, .nil⟩
  case hl =>
    obtain ⟨m, r, S, us, cap, rfl, _⟩ := h
    rfl
  case rd =>
    obtain ⟨m, r, S, us, cap, rfl, hM, ok, hx, hw, hl, hcap, q⟩ := h
    refine k_start (σ' := [some _, some _, some _, none, none, none, none, none, none, none]) rfl ?_
    walk_at "g"
    refine k_disp1T (fun d H1 n1 s1 e1 => ?_)
    walk_at "g"
    refine k_tup_l (sm_l s1 hx) (fun t2 H2 m2 s2 e2 => ?_)
    walk_at "g"
    have e2d := s2 _ _ e1
    refine ⟨e2d, t2, rk us, rfl, by rw [rk_kV]; exact e2, ?_⟩
    have s3 : Same H (upd H2 d (.dT [(rk us, .int 0)])) := sm_mut (s1.trans s2) n1
    have e3d : (upd H2 d (.dT [(rk us, .int 0)])) d = some (.dT [(rk us, .int 0)]) := upd_same
    generalize upd H2 d (.dT [(rk us, .int 0)]) = H3 at s3 e3d ⊢
    walk_at "g"
    refine k_tup_l (sm_l s3 hx) (fun t4 H4 m4 s4 e4 => ?_)
    walk_at "g"
    refine k_nLst (by walk_at "sz") (fun pl H5 n5 s5 e5 => ?_)
    have zl : H pl = none := (s3.trans s4).free n5
    have M5 : LinM K H H5 d pl (qF S us cap none 0) := ⟨s5 _ _ (s4 _ _ e3d), ⟨[t4], e5, .cons (s5 _ _ e4) .nil⟩, s3.trans (s4.trans s5)⟩
    walk_at "g"
    refine k_nFor walk_range (fun i σ H' => (∃ y5 y6 y7 y8 y9 : Option V, σ = [some (.ref m), some (.ref r), some (.int (cap : Nat)), some (.ref d), some (.ref pl), y5, y6, y7, y8, y9]) ∧ LinM K H H' d pl (qF S us cap none i)) ⟨⟨_, _, _, _, _, rfl⟩, M5⟩ (fun _ _ _ _ _ => trivial) (fun i x σ Ha Hb hi h hy => ?ht) (fun σ H' h => ?he)
    case he =>
      obtain ⟨⟨y5, y6, y7, y8, y9, rfl⟩, M⟩ := h
      walk_at "g"
      have e : (((cap : Nat) : Int) + 1).toNat = cap + 1 := by omega
      rw [e] at M
      exact q d _ H' rfl n1 M.s M.d
    case ht =>
      obtain ⟨⟨y5, y6, y7, y8, y9, rfl⟩, M⟩ := h
      obtain ⟨rfl, rfl⟩ := y_rng hy
      obtain ⟨es, l1, l2⟩ := M.l
      obtain ⟨k1, k2, k3⟩ := qF_ok ok hw (cap := cap) (mw := none) i
      have hi2 : i ≤ 401 := by omega
      have les : (es.map V.ref).length = (qF S us cap none i).length := by
        have h1 := ke_len l2
        rw [rowsC, List.length_map] at h1
        rw [List.length_map, h1]
      generalize hq : qF S us cap none i = L at M l2 k1 k2 k3 les
      have hstep : qF S us cap none (i + 1) = qStep S cap none L i := by rw [qF_succ, hq]
      rw [hstep]
      walk_at "g"
      rw [les]
      refine k_dec (fun d1 => ?_) (fun d1 => ?_)
      · have d1' : i < L.length := by omega
        obtain ⟨ru, hru⟩ : ∃ ru, L[i]? = some ru := ⟨_, List.getElem?_eq_getElem d1'⟩
        walk_at "g"
        refine k_dec (fun d2 => ?_) (fun d2 => ?_)
        · have d2' : L.length ≤ cap := by omega
          rw [qStep_yes hru d2' rfl]
          obtain ⟨te, hte⟩ : ∃ te, es[i]? = some te := ⟨_, List.getElem?_eq_getElem (by rw [List.length_map] at les; omega)⟩
          obtain ⟨u, hu, etp⟩ := ke_get l2 hte
          have eu : u = ru.row := by
            rw [List.getElem?_map, hru] at hu
            exact (Option.some.inj hu).symm
          subst eu
          obtain ⟨w1, w2⟩ := k1 ru (List.mem_of_getElem? hru)
          have hany : (L.any fun q => decide (q.row = ru.row)) = true := List.any_eq_true.mpr ⟨ru, List.mem_of_getElem? hru, decide_eq_true rfl⟩
          walk_at "g"
          refine k_ix_l (sq_l l1) (at_n rfl (v := .ref te) (by rw [List.getElem?_map, hte]; rfl)) ?_
          walk_at "g"
          refine k_list_t (sq_t etp) (fun ph H6 n6 s6 e6 => ?_)
          have M6 := M.sm s6
          walk_at "g"
          refine ⟨m, ph, S, ru.row, rfl, hM.sm M6.s, ok, sq_l e6, w1, by omega, fun pb ws H7 n7 s7 e7 b7 => ?_⟩
          have M7 := M6.sm s7
          have lws := dpall_len b7
          have npd : pb ≠ d := fun z => by rw [z, M6.d] at n7; cases n7
          have npl : pb ≠ pl := fun z => by
            obtain ⟨es6, l6, _⟩ := M6.l
            rw [z, l6] at n7
            cases n7
          walk_at "g"
          have sw : ∀ q x y, q ≠ y → ∀ {Hh : Hp} {o : HO}, Hh q = x → (upd Hh y o) q = x := fun q x y n Hh o e => by rw [upd_ne n]; exact e
          have ea : addR S (L, []) ru.row = (bitesF S ru.row).foldl (addB ru.row (depOf L ru.row)) (L, []) := rfl
          have nph : ph ≠ d ∧ ph ≠ pl := ⟨(fun z => by rw [z, M.d] at n6; cases n6), (fun z => by rw [z, l1] at n6; cases n6)⟩
          refine k_nFor (walk_list (xs := ws)) (fun j σ H' => (∃ z7 z8 z9 : Option V, σ = [some (.ref m), some (.ref r), some (.int (cap : Nat)), some (.ref d), some (.ref pl), some (.int (i : Nat)), some (.ref ph), z7, z8, z9]) ∧ H' pb = some (.lst ws) ∧ H' ph = some (.lst (tS ru.row)) ∧ DpAll K H' ws ((bitesF S ru.row).map dB1) ∧ LinM K H H' d pl (((bitesF S ru.row).take j).foldl (addB ru.row (depOf L ru.row)) (L, [])).1) ⟨⟨_, _, _, rfl⟩, e7, s7 _ _ e6, b7, M7⟩ (fun j σ H' _ h => sq_l h.2.1) (fun j x σ Hc Hd hj h hy => ?ht2) (fun σ H' h => ?he2)
          case he2 =>
            obtain ⟨⟨z7, z8, z9, rfl⟩, _, _, _, N⟩ := h
            rw [lws, List.length_map, List.take_length, ← ea] at N
            walk_at "g"
            exact ⟨⟨_, _, _, _, _, rfl⟩, N⟩
          case ht2 =>
            obtain ⟨⟨z7, z8, z9, rfl⟩, ep, eph, hb, N⟩ := h
            obtain ⟨rfl, hv⟩ := hy
            obtain ⟨dd, hd1, hd2⟩ := dpall_get hb hv
            obtain ⟨xb, hxb, rfl⟩ := map_get hd1
            obtain ⟨tb, rfl, htb⟩ := dp_btI hd2
            have hbm := List.mem_of_getElem? hxb
            obtain ⟨hb1, hb2⟩ := bitesF_in.mp hbm
            obtain ⟨v1, v2⟩ := behF_words ok w1 hb2
            rw [take_more hxb, List.foldl_append]
            obtain ⟨ex2, hex2⟩ := addB_pref ru.row (depOf L ru.row) ((bitesF S ru.row).take j) (L, [])
            have hmost := addB_most ru.row (depOf L ru.row) ((bitesF S ru.row).take j) (L, [])
            have hfl : ((bitesF S ru.row).take j).length ≤ 2 * ru.row.length := Nat.le_trans (List.length_take_le' _ _) (flat_len (S := S) (us := ru.row) ru.row.length)
            generalize hst : ((bitesF S ru.row).take j).foldl (addB ru.row (depOf L ru.row)) (L, []) = st at N hex2 hmost
            have hone : ([xb].foldl (addB ru.row (depOf L ru.row)) st) = addB ru.row (depOf L ru.row) st xb := rfl
            rw [hone]
            have hmost2 : st.1.length ≤ L.length + ((bitesF S ru.row).take j).length := hmost
            have hst1 : st.1 = L ++ ex2 := hex2
            have hany2 : (st.1.any fun q => decide (q.row = ru.row)) = true := by rw [hst1]; exact any_app hany
            have hdep : depOf st.1 ru.row = depOf L ru.row := by rw [hst1]; exact depOf_app hany
            walk_at "g"
            refine ⟨m, ph, S, ru.row, (xb.1.1 : Nat), sdS xb.1.2, rfl, hM.sm N.s, ok, sq_l eph, w1, by omega, fun v Hv sv iv => ?_⟩
            rw [behS_sd, hb2] at iv
            obtain ⟨pv, rfl, npv, epv⟩ := iv
            walk_at "g"
            refine k_tup_l (sq_l epv) (fun tu H9 n9 s9 e9 => ?_)
            have N9 := N.sm (sv.trans s9)
            obtain ⟨es9, q1, q2⟩ := N9.l
            have d9 := N9.d
            walk_at "g"
            refine k_nDiT d9 (k := rk xb.2) (by rw [rk_kV]; exact e9) ?_
            rw [kd_some]
            walk_at "g"
            unfold addB
            refine k_bool (fun hb2' => ?_) (fun hb2' => ?_)
            · have hb3 : (st.1.any fun q => decide (q.row = xb.2)) = false := by simpa using hb2'
              rw [hb3, if_neg Bool.false_ne_true]
              obtain ⟨ex, hpre⟩ : ∃ ex, st.1 = L ++ ex := ⟨_, hst1⟩
              have lines : es9.length = st.1.length := by
                have := ke_len q2
                rw [rowsC, List.length_map] at this
                exact this
              obtain ⟨tf, htf⟩ : ∃ tf, es9[i]? = some tf := ⟨_, List.getElem?_eq_getElem (by rw [lines, hpre, List.length_append]; omega)⟩
              obtain ⟨u2, hu2, etf⟩ := ke_get q2 htf
              have eu2 : u2 = ru.row := by
                rw [hpre, List.getElem?_map, List.getElem?_append_left d1', hru] at hu2
                exact (Option.some.inj hu2).symm
              subst eu2
              walk_at "g"
              refine k_ix_l (sq_l q1) (at_n rfl (v := .ref tf) (by rw [List.getElem?_map, htf]; rfl)) ?_
              refine k_nDgT d9 (k := rk ru.row) (v := .int (depOf st.1 ru.row : Nat)) (by rw [rk_kV]; exact etf) (kd_val hany2) ?_
              rw [hdep]
              walk_at "g"
              refine k_nDpTz d9 (k := rk xb.2) (by rw [rk_kV]; exact e9) (by rw [List.length_map]; omega) ?_
              rw [putK_new _ (kd_none hb3)]
              have A1 := N9.add (n := depOf L ru.row + 1) (fr := some (ru.row, xb.1)) q1 q2 e9 n1 zl
              have nld : pl ≠ d := ne_of q1 d9 (fun z => nomatch z)
              have f9 : (upd H9 d (.dT (kdV st.1 ++ [(rk xb.2, .int ((depOf L ru.row : Nat) + 1))]))) pl = some (.lst (es9.map V.ref)) := by rw [upd_ne nld]; exact q1
              walk_at "g"
              refine k_appendZ f9 (by rw [List.length_map]; omega) ?_
              walk_at "g"
              have eph9 := s9 _ _ (sv _ _ eph)
              have ep9 := s9 _ _ (sv _ _ ep)
              refine ⟨⟨_, _, _, rfl⟩, ?_, ?_, ?_, A1⟩
              · rw [upd_ne npl, upd_ne npd]
                exact ep9
              · rw [upd_ne nph.2, upd_ne nph.1]
                exact eph9
              · exact bt_upd f9 (noTup_lst _) (bt_upd d9 (noTup_dT _) (dpall_sm (sv.trans s9) hb))
            · have hb3 : (st.1.any fun q => decide (q.row = xb.2)) = true := by simpa using hb2'
              rw [hb3, if_pos rfl]
              walk_at "g"
              exact ⟨⟨_, _, _, rfl⟩, s9 _ _ (sv _ _ ep), s9 _ _ (sv _ _ eph), dpall_sm (sv.trans s9) hb, N9⟩
        · rw [qStep_full (by omega)]
          walk_at "g"
          exact ⟨⟨_, _, _, _, _, rfl⟩, M⟩
      · rw [qStep_out (by omega)]
        walk_at "g"
        exact ⟨⟨_, _, _, _, _, rfl⟩, M⟩
/-! ### a row of few letters -/
def spSmall (K : PySem.W.Frag) : Sp := fun vs H Q _ => ∃ (b m : Addr) (S : HsD) (n : Nat), vs = [.ref b, .ref m, .int (n : Nat)] ∧ BagOk H b ∧ MAt K H m S ∧ HsOk S ∧ ∀ us p H', AllW S us → us.length ≤ 6 → us.flatten.length ≤ n → H p = none → Same H H' → H' p = some (.lst (tS us)) → Q (.ref p) H'
theorem ok_Lsmall_row (F : FnP K "_law_small_row" s_Lsmall_row f fd) (hm : mg "_law_small_row" = some (.ref f)) (f_len : mg "len" = none) (f_int : mg "int" = none) (c_Lrow : Callee P w K mg base CX0 "_law_row" 3 [] (spLRow K)) : Callee P w K mg base CX0 "_law_small_row" 4 [] (spSmall K) := by
  refine ⟨f, fd, _, [], F.ok sc_Lsmall_row (fun vs H Q E h => ?hl) (fun cdv A outer s H vs Q E hr h => ⟨_, PSs.nox (pss_cons (ps_set (i := 3) sc_Lsmall_row.nd rfl (by first | exact Or.inl rfl | exact Or.inr rfl) (pe_lst pa_nil))
      (pss_cons (ps_for PassesOwn.never rfl (pi_listK K (pe_cl c_Lrow hr (pa_cons (pv 0) (pa_cons (pv 1) (pa_cons pe_int pa_nil))) pass0)) (pg_name (i := 4) sc_Lsmall_row.nd rfl (by first | exact Or.inl rfl | exact Or.inr rfl)) (pss_cons (ps_set (i := 5) sc_Lsmall_row.nd rfl (by first | exact Or.inl rfl | exact Or.inr rfl) (pe_cmpR op_leU (pe_op (op_addK K) (pe_callB (call_lenK K) (by rfl) f_len PySem.boot_len (pa_cons (pe_joinK K pe_str (pv 3)) pa_nil)) (pe_callB (call_lenK K) (by rfl) f_len PySem.boot_len (pa_cons (pv 4) pa_nil))) (pv 2) (nomark _)))
      (pss_one (ps_set (i := 3) sc_Lsmall_row.nd rfl (by first | exact Or.inl rfl | exact Or.inr rfl) (pe_op (op_addK K) (pv 3) (pe_op op_rep (pe_lst (pa_cons (pv 4) pa_nil)) (pe_callTy call_intU (by rfl) f_int (by decide +kernel) (pa_cons (pv 5) pa_nil))))))))
      (pss_one (ps_ret (pv 3))))), ?rd⟩), hm, F.kp, F.bindsN fun _ _ _ _ _ _ us hl => match us, hl with | [_, _, _], _ => rfl, .nil⟩
  case hl =>
    obtain ⟨b, m, S, n, rfl, _⟩ := h
    rfl
  case rd =>
    obtain ⟨b, m, S, n, rfl, hb, hM, ok, q⟩ := h
    refine k_start (σ' := [some _, some _, some _, none, none, none]) rfl ?_
    walk_at "g"
    refine k_nLst (by walk_at "sz") (fun p1 H1 n1 s1 e1 => ?_)
    walk_at "g"
    refine ⟨b, m, S, 6, rfl, hb.sm s1, hM.sm s1, ok, by decide, fun vs pv H2 hv lv n2 s2 e2 => ?_⟩
    walk_at "g"
    refine k_nFor (walk_list (xs := tS vs)) (fun i σ H' => ∃ (pr : Addr) (us : List (List Nat)) (y4 y5 : Option V), σ = [some (.ref b), some (.ref m), some (.int (n : Nat)), some (.ref pr), y4, y5] ∧ Same H2 H' ∧ AllW S us ∧ us.length ≤ i ∧ us.flatten.length ≤ n ∧ H pr = none ∧ H' pr = some (.lst (tS us))) ⟨p1, [], _, _, rfl, Same.refl _, (fun _ h => nomatch h), Nat.zero_le _, Nat.zero_le _, n1, s2 _ _ e1⟩ (fun i σ H' _ h => by
      obtain ⟨_, _, _, _, _, s, _⟩ := h
      exact sq_l (s _ _ e2)) (fun i x σ Ha Hb hi h hy => ?ht) (fun σ H' h => ?he)
    case he =>
      obtain ⟨pr, us, y4, y5, rfl, s3, hw, lu, lf, nr, er⟩ := h
      walk_at "g"
      rw [len_tS] at lu
      exact q us pr H' hw (by omega) lf nr (s1.trans (s2.trans s3)) er
    case ht =>
      obtain ⟨pr, us, y4, y5, rfl, s3, hw, lu, lf, nr, er⟩ := h
      obtain ⟨rfl, hx⟩ := hy
      obtain ⟨u, hu, rfl⟩ := map_get hx
      have hum := hv u (List.mem_of_getElem? hu)
      have wl := (hv.len ok) u (List.mem_of_getElem? hu)
      rw [len_tS] at hi
      have lfl : us.flatten.length ≤ 18 := by
        have : ∀ l : List (List Nat), AllW S l → l.flatten.length ≤ 3 * l.length := by
          intro l
          induction l with
          | nil => exact fun _ => Nat.le_refl _
          | cons a l ih =>
            intro hl
            have h1 := ih fun x hx => hl x (List.mem_cons_of_mem _ hx)
            have h2 := ((hl.len ok) a (List.mem_cons_self ..)).2.1
            rw [List.flatten_cons, List.length_append, List.length_cons]
            omega
        have := this us hw
        omega
      walk_at "g"
      refine k_join (ys := us.map tx) (by rw [List.map_map]; exact sq_l er) ?_ ?_
      · rw [sum_lens, show (Str.ofString "").length = 0 by decide +kernel]
        omega
      rw [nLet_join]
      walk_at "g"
      have e := len_tx us.flatten
      refine k_len_s (by omega) ?_
      walk_at "g"
      refine k_len_s (by rw [len_tx]; omega) ?_
      walk_at "g"
      refine k_nLst (by walk_at "sz") (fun p5 H5 n5 s5 e5 => ?_)
      walk_at "g"
      refine k_rep e5 ⟨by split <;> decide, by split <;> decide⟩ (by show 1 ≤ 100; decide) (fun p6 H6 n6 s6 e6 => ?_)
      walk_at "g"
      have er6 := s6 _ _ (s5 _ _ er)
      refine k_add_l er6 e6 (by
        rw [len_tS, rep_one, List.length_replicate]
        split
        · show us.length + 1 ≤ _
          omega
        · show us.length + 0 ≤ _
          omega) (fun p7 H7 n7 s7 e7 => ?_)
      walk_at "g"
      have s37 := s3.trans (s5.trans (s6.trans s7))
      rw [rep_one] at e7
      by_cases c : ((tx us.flatten).length : Int) + ((tx u).length : Int) ≤ (n : Int)
      · rw [decide_eq_true c, if_pos rfl] at e7
        refine ⟨p7, us ++ [u], _, _, rfl, s37, fun z hz => ?_, by rw [List.length_append]; exact Nat.succ_le_succ lu, ?_, (s1.trans (s2.trans (s3.trans (s5.trans s6)))).free n7, by rw [tS_app]; exact e7⟩
        · rcases List.mem_append.mp hz with hz | hz
          · exact hw z hz
          · rw [List.mem_singleton.mp hz]
            exact hum
        · rw [len_tx, len_tx] at c
          rw [List.flatten_append, List.length_append, List.flatten_cons, List.flatten_nil, List.append_nil]
          omega
      · rw [decide_eq_false c, if_neg Bool.false_ne_true] at e7
        refine ⟨p7, us, _, _, rfl, s37, hw, by omega, lf, (s1.trans (s2.trans (s3.trans (s5.trans s6)))).free n7, ?_⟩
        rw [e7]
        show some (HO.lst (tS us ++ [])) = _
        rw [List.append_nil]
end
end Lw
set_option autoImplicit true
set_option pp.maxSteps 1200
set_option Elab.async false
set_option linter.all false
set_option maxRecDepth 100000
set_option maxHeartbeats 1000000
namespace Lw
open PySem PySem.Spec PyProof.Rows L2 Gk

local macro_rules | `(tactic| walk_at "hp") => `(tactic| first | assumption | exact upd_same | (refine' (upd_ne ?n).trans ?h; (case n => assumption); (case h => walk_at "hp")) | (refine' sm_get ?s ?h; (case s => assumption); (case h => walk_at "hp")))
local macro_rules | `(tactic| walk_at "sq") => `(tactic| first | assumption | (refine' sq_l ?h; (case h => walk_at "hp")) | (refine' sm_l ?s ?h; (case s => assumption); (case h => walk_at "sq")))
local macro_rules | `(tactic| walk_at "st") => `(tactic| first | assumption | (refine' sq_t ?h; (case h => walk_at "hp")) | (refine' sm_t ?s ?h; (case s => assumption); (case h => walk_at "st")))
local macro_rules | `(tactic| walk_at "bg") => `(tactic| first | assumption | (refine' BagOk.sm ?s ?h; (case s => assumption); (case h => walk_at "bg")))
local macro_rules | `(tactic| walk_at "sm") => `(tactic| first | assumption | exact Same.refl _ | (refine' Same.trans ?h ?s; (case s => assumption); (case h => walk_at "sm")))
local macro_rules | `(tactic| walk_at "hs") => `(tactic| first | assumption | (refine' HsAt.sm ?s ?h; (case s => assumption); (case h => walk_at "hs")))
local macro_rules | `(tactic| walk_at "ms") => `(tactic| first | assumption | (refine' MAt.sm ?s ?h; (case s => assumption); (case h => walk_at "ms")))
local macro_rules | `(tactic| walk_at "dp") => `(tactic| first | assumption | (refine' dp_sm ?s ?h; (case s => assumption); (case h => walk_at "dp")))
local macro_rules | `(tactic| walk_at "sz") => `(tactic| first | decide | assumption | omega | (simp only [List.length_cons, List.length_nil, List.length_map, List.length_append]; omega))
local macro_rules | `(tactic| walk_at "g1") => `(tactic| first
  | with_reducible refine k_seq ?_
  | with_reducible refine k_itB ?_
  | with_reducible refine k_next ?_
  | with_reducible refine k_asg ?_
  | with_reducible refine k_name ?_
  | with_reducible refine k_ret ?_
  | with_reducible refine k_retN ?_
  | with_reducible refine k_drop ?_
  | with_reducible refine k_ifs ?_
  | with_reducible refine k_brk ?_
  | with_reducible refine k_cont ?_
  | with_reducible refine k_ipI ?_
  | with_reducible refine k_test ?_
  | with_reducible refine k_tB ?_
  | with_reducible refine k_bl ?_
  | with_reducible refine k_not ?_
  | with_reducible refine k_and ?_
  | with_reducible refine k_or ?_
  | with_reducible refine k_yes ?_
  | with_reducible refine k_true ?_
  | with_reducible refine k_false ?_
  | with_reducible refine k_nt ?_
  | with_reducible refine k_c ?_
  | with_reducible refine k_op ?_
  | with_reducible refine k_un ?_
  | with_reducible refine k_if ?_
  | with_reducible refine k_chain ?_
  | with_reducible refine k_nil ?_
  | with_reducible refine k_cons ?_
  | with_reducible refine k_cb ?_
  | with_reducible refine k_call ?_
  | with_reducible refine k_callS ?_
  | with_reducible refine k_andV ?_
  | with_reducible refine k_orV ?_
  | with_reducible refine k_notV ?_
  | with_reducible refine k_lst ?_
  | with_reducible refine k_tup ?_
  | with_reducible refine k_nopart ?_
  | with_reducible refine k_part ?_
  | with_reducible refine k_nInt ?_
  | with_reducible refine k_sl ?_
  | with_reducible refine k_bm ?_
  | with_reducible refine k_bm0 ?_
  | with_reducible refine k_nTyS ?_
  | with_reducible refine k_m1 ?_
  | with_reducible refine k_m0 ?_
  | with_reducible refine k_nStr ?_
  | with_reducible refine k_I0 ?_
  | with_reducible refine k_U ?_
  | with_reducible refine k_add_i ?_
  | with_reducible refine k_eq_i ?_
  | with_reducible refine k_eq_s ?_
  | with_reducible refine k_eq_b ?_
  | with_reducible refine k_ne_i ?_
  | with_reducible refine k_ne_s ?_
  | with_reducible refine k_ne_b ?_
  | with_reducible refine k_le_i ?_
  | with_reducible refine k_le_s ?_
  | with_reducible refine k_gnil ?_
  | with_reducible refine k_gcons ?_
  | with_reducible refine k_gsub ?_
  | with_reducible refine k_for ?_
  | with_reducible refine k_lc ?_
  | with_reducible refine k_rng1 ?_
  | with_reducible refine k_rng2 ?_
  | with_reducible refine k_itl ?_
  | with_reducible refine k_itt ?_
  | with_reducible refine k_its ?_
  | with_reducible refine k_ite ?_
  | with_reducible refine k_iteB ?_
  | with_reducible refine k_lrg2 ?_
  | with_reducible refine k_itz ?_
  | with_reducible refine k_nIts ?_
  | with_reducible refine k_inS ?_
  | with_reducible refine k_niS ?_
  | with_reducible refine k_mk ?_
  | with_reducible refine k_meth ?_
  | with_reducible refine k_fld ?_
  | with_reducible refine k_sfld ?_
  | with_reducible refine k_dg ?_
  | with_reducible refine k_dp ?_
  | with_reducible refine k_pr ?_
  | with_reducible refine k_pr0 ?_
  | with_reducible refine k_sg ?_
  | with_reducible refine k_lc2 ?_
  | with_reducible refine k_callN ?_
  | with_reducible refine k_callNS ?_
  | with_reducible refine k_par ?_
  | with_reducible refine k_nPar ?_
  | with_reducible refine k_isNn ?_
  | with_reducible refine k_isNr ?_
  | with_reducible refine k_ntNn ?_
  | with_reducible refine k_ntNr ?_
  | with_reducible refine k_min2 ?_
  | with_reducible refine k_max2 ?_
  | with_reducible refine k_intB ?_
  | with_reducible refine k_intI ?_
  | with_reducible refine k_isBl ?_
  | with_reducible refine k_ntBl ?_
  | ((with_reducible refine' k_var ?kv ?_); (case kv => exact rfl))
  | ((with_reducible refine' k_aug ?kv ?_); (case kv => exact rfl))
  | ((with_reducible refine' k_ix_l ?ks ?ki ?_); (case ks => walk_at "sq"); (case ki => exact rfl))
  | ((with_reducible refine' k_ix_t ?ks ?ki ?_); (case ks => walk_at "st"); (case ki => exact rfl))
  | ((with_reducible refine' k_len_l ?ks ?_); (case ks => walk_at "sq"))
  | ((with_reducible refine' k_len_t ?ks ?_); (case ks => walk_at "st"))
  | ((with_reducible refine' k_setL ?ks ?ki ?_); (case ks => walk_at "hp"); (case ki => exact rfl))
  | ((with_reducible refine' k_nTyL ?ks ?_); (case ks => walk_at "sq"))
  | ((with_reducible refine' k_nItl ?ks ?_); (case ks => walk_at "sq"))
  | ((with_reducible refine' k_nItt ?ks ?_); (case ks => walk_at "st"))
  | ((with_reducible refine' k_nIte ?ks ?_); (case ks => walk_at "sq"))
  | ((with_reducible refine' k_mul ?km ?_); (case km => first | exact Or.inr ⟨by decide, by decide⟩ | exact Or.inl ⟨by decide, by decide⟩))
  | ((with_reducible refine' k_I ?km ?_); (case km => first | assumption | decide | exact ⟨by decide, by decide +kernel⟩ | exact ⟨by decide, by decide, by decide⟩))
  | ((with_reducible refine' k_nMeth ?kp ?kl ?_); (case kp => walk_at "hp"); (case kl => exact rfl))
  | ((with_reducible refine' k_nFld ?kp ?kc ?kn ?kl ?_); (case kp => walk_at "hp"); (case kc => assumption); (case kn => assumption); (case kl => exact rfl))
  | ((with_reducible refine' k_nSFld ?kp ?kc ?kn ?kl ?_); (case kp => walk_at "hp"); (case kc => assumption); (case kn => assumption); (case kl => exact of_decide_eq_true rfl))
  | ((with_reducible refine' k_nDg ?kp ?kl ?_); (case kp => walk_at "hp"); (case kl => exact rfl))
  | ((with_reducible refine' k_nRng1 ?k1 ?k2 ?_); (case k1 => omega); (case k2 => omega))
  | ((with_reducible refine' k_nKw ?k1 ?k2 ?_); (case k1 => exact rfl); (case k2 => exact rfl))
  | ((with_reducible refine' k_hsm ?kh ?_); (case kh => walk_at "hs"))
  | ((with_reducible refine' k_nMethH ?kh ?kl ?_); (case kh => walk_at "hs"); (case kl => exact fun _ _ => rfl))
  | ((with_reducible refine' k_mLet ?kh ?_); (case kh => walk_at "ms"))
  | ((with_reducible refine' k_mChew ?kh ?_); (case kh => walk_at "ms"))
  | ((with_reducible refine' k_mPut ?kh ?_); (case kh => walk_at "ms"))
  | ((with_reducible refine' k_mMost ?kh ?_); (case kh => walk_at "ms"))
  | ((with_reducible refine' k_mCut ?kh ?_); (case kh => walk_at "ms"))
  | ((with_reducible refine' k_gtup ?ks ?kl ?_); (case ks => walk_at "st"); (case kl => exact rfl)))
local macro_rules | `(tactic| walk_at "g") => `(tactic| repeat (walk_at "g1"))
local macro_rules | `(tactic| walk_at "w1") => `(tactic| first
  | walk_at "g1"
  | ((with_reducible refine' k_decT ?kp ?_); (case kp => omega))
  | ((with_reducible refine' k_decF ?kp ?_); (case kp => omega))
  | ((with_reducible refine' k_decNT ?kp ?_); (case kp => omega))
  | ((with_reducible refine' k_decNF ?kp ?_); (case kp => omega)))
local macro_rules | `(tactic| walk_at "w") => `(tactic| repeat (walk_at "w1"))


section
variable {P : Program} {w : World} {K : PySem.W.Frag} {mg : Str → Option Value} {base : Heap} {f : Addr} {fd : FuncData}
/-! ### the law's own runs -/
def isLstO : Ord → Bool
  | .nm _ => false
  | .nums _ => true
theorem k_isiOL {H : Hp} {Q : VK} {v : V} {o : Ord} (h : OrdAt K H v o) (q : Q (.bl (isLstO o)) H) : rIsiU K [v, .ty "list"] H Q := k_isiL h.dp (by cases o <;> exact q)
def spLGone (K : PySem.W.Frag) : Sp := fun vs H Q _ => ∃ (m r : Addr) (v : V) (S : HsD) (us : List (List Nat)) (o : Ord) (most : Nat), vs = [.ref m, .ref r, v, .int (most : Nat)] ∧ MAt K H m S ∧ HsOk S ∧ SqL K H r (tS us) ∧ AllW S us ∧ OrdAt K H v o ∧ OrdFit o ∧ isOrd o = true ∧ us.length + 8 * most ≤ 10000 ∧
  ∀ T p ps ws H', H T = none → Same H H' → H' T = some (.tup [.ref p, .ref ps]) → H p = none → H ps = none → ps ≠ p → H' p = some (.lst (tS (runF S o (boundF o most) 0 us).1)) → H' ps = some (.lst ws) → DpAll K H' ws ((runF S o (boundF o most) 0 us).2.map dBt) → Q (.ref T) H'
theorem k_b1Nil {S : HsD} {us : List (List Nat)} {H : Hp} {Q : VK} {p b : Addr} {ws : List V} (lu : us.length ≤ 10000) (h1 : SqL K H p ws) (d1 : DpAll K H ws ((bitesF S us).map dB1)) (h2 : SqL K H b []) (h : Q (.bl (decide (bitesF S us = []))) H) : rEqU K (.ref p) (.ref b) H Q := by
  refine k_eq_d (.lst h1 d1) (.lst h2 .nil) ((good_bts lu 0).shaped (by decide)) (by decide) ?_
  rw [eqv_nil, show decide ((bitesF S us).map dB1 = []) = decide (bitesF S us = []) by cases bitesF S us <;> rfl]
  exact h
theorem ok_Lgone (F : FnP K "_law_gone" s_Lgone f fd) (hm : mg "_law_gone" = some (.ref f)) (f_len : mg "len" = none) (f_min : mg "min" = none) (f_max : mg "max" = none) (f_isinstance : mg "isinstance" = none) (f_list : mg "list" = none) (f_range : mg "range" = none) (f_int : mg "int" = none) (c_Lbites : Callee P w K mg base CX0 "_law_bites" 3 [] (spLBites K)) (c_Lbehind : Callee P w K mg base CX0 "_law_behind" 2 [] (spLBehind K)) : Callee P w K mg base CX0 "_law_gone" 4 [] (spLGone K) := by
  refine ⟨f, fd, _, [], F.ok sc_Lgone (fun vs H Q E h => ?hl) (fun cdv A outer s H vs Q E hr h => ⟨_, PSs.nox (pss_cons (ps_set (i := 4) sc_Lgone.nd rfl (by first | exact Or.inl rfl | exact Or.inr rfl) (pe_callTy (call_listK K) (by rfl) f_list (by decide +kernel) (pa_cons (pv 1) pa_nil)))
      (pss_cons (ps_set (i := 5) sc_Lgone.nd rfl (by first | exact Or.inl rfl | exact Or.inr rfl) (pe_lst pa_nil))
      (pss_cons (ps_set (i := 6) sc_Lgone.nd rfl (by first | exact Or.inl rfl | exact Or.inr rfl) (pe_ifExp (pt_val (pe_callB (call_isiK K) (by rfl) f_isinstance (by decide +kernel) (pa_cons (pv 2) (pa_cons (pe_bltn (v := .ty "list") (by rfl) f_list (by decide +kernel) rfl) pa_nil)))) (pe_callB call_minK (by rfl) f_min (by decide +kernel) (pa_cons (pv 3) (pa_cons (pe_callB (call_lenK K) (by rfl) f_len PySem.boot_len (pa_cons (pv 2) pa_nil)) pa_nil))) (pv 3)))
      (pss_cons (ps_for PassesOwn.never rfl (pi_range1 (by rfl) f_range (pa_cons (pv 6) pa_nil)) (pg_name (i := 7) sc_Lgone.nd rfl (by first | exact Or.inl rfl | exact Or.inr rfl)) (pss_cons (ps_set (i := 8) sc_Lgone.nd rfl (by first | exact Or.inl rfl | exact Or.inr rfl) (pe_cl c_Lbites hr (pa_cons (pv 0) (pa_cons (pv 4) pa_nil)) pass0))
      (pss_cons (ps_if (pt_cmpR (op_eqK K hr.units) (pv 8) (pe_lst pa_nil) (nomark _)) (pss_one (ps_ret (pe_tup (pa_cons (pv 4) (pa_cons (pv 5) pa_nil))))) pss_nil)
      (Evl.pss_cut (ps_set (i := 9) sc_Lgone.nd rfl (by first | exact Or.inl rfl | exact Or.inr rfl) (pe_ix (ix_k K) (pv 8) (pe_op op_sub pe_int (pe_callTy call_intU (by rfl) f_int (by decide +kernel) (pa_cons (pe_cmpR (op_eqK K hr.units) (pv 2) pe_str (nomark _)) pa_nil))) (fun _ _ => rfl)))
      (Evl.pss_cut (ps_if (pt_cmpR (op_eqK K hr.units) (pv 2) pe_str (nomark _)) (pss_cons (ps_set (i := 10) sc_Lgone.nd rfl (by first | exact Or.inl rfl | exact Or.inr rfl) (pe_callB (cr_maxK K) (by rfl) f_max (by decide +kernel) (pa_cons (pe_lc (own := [("_law_at", 11), ("_law_edge", 12)]) rfl sc_Lgone.nd (pi_listK K (pv 8)) (blkOk_by (N := ["_law_m", "_law_row_here", "_law_rule", "_law_bound", "_law_here", "_law_found", "_law_many", "_law_k", "_law_some", "_law_bite", "_law_top", "_law_at", "_law_edge", "_law_one_here"]) (sc := defScope s_Lgone) (by decide +kernel)) (fun _ _ _ _ _ => (pg_tupK K 2 (by rfl) (pgs_cons (pg_name (i := 11) sc_Lgone.nd rfl (by first | exact Or.inl rfl | exact Or.inr rfl)) (pgs_cons (pg_name (i := 12) sc_Lgone.nd rfl (by first | exact Or.inl rfl | exact Or.inr rfl)) pgs_nil)))) (fun _ _ _ _ _ => pts_nil) (fun _ _ _ _ _ => (pe_callB (call_lenK K) (by rfl) f_len PySem.boot_len (pa_cons (pe_ix (ix_k K) (pv 4) (pv 11) (fun _ _ => rfl)) pa_nil)))) pa_nil)))
      (pss_one (ps_set (i := 9) sc_Lgone.nd rfl (by first | exact Or.inl rfl | exact Or.inr rfl) (pe_ix (ix_k K) (pe_lc (own := [("_law_one_here", 13)]) rfl sc_Lgone.nd (pi_listK K (pv 8)) (blkOk_by (N := ["_law_m", "_law_row_here", "_law_rule", "_law_bound", "_law_here", "_law_found", "_law_many", "_law_k", "_law_some", "_law_bite", "_law_top", "_law_at", "_law_edge", "_law_one_here"]) (sc := defScope s_Lgone) (by decide +kernel)) (fun _ _ _ _ _ => (pg_name (i := 13) sc_Lgone.nd rfl (by first | exact Or.inl rfl | exact Or.inr rfl))) (fun _ _ _ _ _ => (pts_one (pt_cmpR (op_eqK K hr.units) (pe_callB (call_lenK K) (by rfl) f_len PySem.boot_len (pa_cons (pe_ix (ix_k K) (pv 4) (pe_ix (ix_k K) (pv 13) pe_int (fun _ _ => rfl)) (fun _ _ => rfl)) pa_nil)) (pv 10) (nomark _)))) (fun _ _ _ _ _ => (pv 13))) pe_int (fun _ _ => rfl))))) pss_nil)
      (Evl.pss_cut (ps_if (pt_val (pe_callB (call_isiK K) (by rfl) f_isinstance (by decide +kernel) (pa_cons (pv 2) (pa_cons (pe_bltn (v := .ty "list") (by rfl) f_list (by decide +kernel) rfl) pa_nil)))) (pss_one (ps_set (i := 9) sc_Lgone.nd rfl (by first | exact Or.inl rfl | exact Or.inr rfl) (pe_ix (ix_k K) (pv 8) (pe_op op_mod (pe_ix (ix_k K) (pv 2) (pv 7) (fun _ _ => rfl)) (pe_callB (call_lenK K) (by rfl) f_len PySem.boot_len (pa_cons (pv 8) pa_nil))) (fun _ _ => rfl)))) pss_nil)
      (pss_cons (ps_expr (pe_bmK K PySem.F.plainAttrs_list PySem.F.slot_list_append PySem.F.type_list_append mt_append (pv 5) (pa_cons (pv 9) pa_nil)))
      (pss_one (ps_set (i := 4) sc_Lgone.nd rfl (by first | exact Or.inl rfl | exact Or.inr rfl) (pe_cl c_Lbehind hr (pa_cons (pv 0) (pa_cons (pv 4) (pa_cons (pe_ix (ix_k K) (pv 9) pe_int (fun _ _ => rfl)) (pa_cons (pe_ix (ix_k K) (pv 9) pe_int (fun _ _ => rfl)) pa_nil)))) pass0))))))))))
      (pss_one (ps_ret (pe_tup (pa_cons (pv 4) (pa_cons (pv 5) pa_nil))))))))), ?rd⟩), hm, F.kp, F.bindsN fun _ _ _ _ _ _ us hl => match us, hl with | [_, _, _, _], _ => rfl, .nil⟩
  case hl =>
    obtain ⟨m, r, v, S, us, o, most, rfl, _⟩ := h
    rfl
  case rd =>
    obtain ⟨m, r, v, S, us, o, most, rfl, hM, ok, hx, hw, ho, hf, hg, lu, q⟩ := h
    refine k_start (σ' := [some _, some _, some _, some _, none, none, none, none, none, none, none, none, none, none]) rfl ?_
    walk_at "g"
    refine k_list_l hx (fun p1 H1 n1 s1 e1 => ?_)
    walk_at "g"
    refine k_nLst (by walk_at "sz") (fun ps H2 n2 s2 e2 => ?_)
    have np1 : p1 ≠ ps := ne_of_none e1 n2
    have s12 := s1.trans s2
    have nps : H ps = none := s1.free n2
    with_reducible refine k_name ?_
    with_reducible refine k_seq ?_
    with_reducible refine k_asg ?_
    refine k_val (.int (boundF o most : Nat)) (fun Q' hQ => ?_) (fun H3 s3 => ?_)
    · have ho2 := ho.sm s12
      walk_at "g"
      refine k_isiOL ho2 ?_
      cases o with
      | nm z =>
        cases (show v = .str z from ho2)
        walk_at "g"
        refine (show nIte false _ _ from ?_)
        walk_at "g"
        exact hQ _ (Same.refl _)
      | nums ns =>
        obtain ⟨p, rfl, hp⟩ := ho2
        walk_at "g"
        refine (show nIte true _ _ from ?_)
        have ln : (ns.map V.int).length = ns.length := List.length_map _
        walk_at "g"
        rw [ln]
        walk_at "g"
        have e : (min (most : Int) (ns.length : Int)) = ((boundF (.nums ns) most : Nat) : Int) := by
          show _ = ((min most ns.length : Nat) : Int)
          omega
        rw [e]
        exact hQ _ (Same.refl _)
    have lb : boundF o most ≤ most := by
      cases o with
      | nm z => exact Nat.le_refl _
      | nums ns => exact Nat.min_le_left ..
    have lk : ∀ ns, o = .nums ns → boundF o most ≤ ns.length := fun ns e => by
      subst e
      exact Nat.min_le_right ..
    have s13 := s12.trans s3
    have fin : ∀ (Hx : Hp) (p : Addr) (ws : List V) (cur : List (List Nat)) (dn : List Bt), Same H Hx → H p = none → ps ≠ p → Hx p = some (.lst (tS cur)) → Hx ps = some (.lst ws) → DpAll K Hx ws (dn.map dBt) → (runF S o (boundF o most) 0 us) = (cur, dn) → ∀ T H0, Same H H0 → H0 T = none → Hx T = some (.tup [.ref p, .ref ps]) → Q (.ref T) Hx := fun Hx p ws cur dn sx np ne ep es ds er T H0 s0 nT eT =>
      q T p ps ws Hx (s0.free nT) sx eT np nps ne (by rw [er]; exact ep) es (by rw [er]; exact ds)
    walk_at "g"
    refine k_nFor walk_range (fun i σ H' => (∃ (p : Addr) (cur : List (List Nat)) (dn : List Bt) (ws : List V) (y7 y8 y9 y10 y11 y12 : Option V), σ = [some (.ref m), some (.ref r), some v, some (.int (most : Nat)), some (.ref p), some (.ref ps), some (.int (boundF o most : Nat)), y7, y8, y9, y10, y11, y12, none] ∧ H p = none ∧ ps ≠ p ∧ H' p = some (.lst (tS cur)) ∧ AllW S cur ∧ H' ps = some (.lst ws) ∧ DpAll K (del H' ps) ws (dn.map dBt) ∧ dn.length = i ∧ cur.length ≤ us.length + 8 * i ∧ (runF S o (boundF o most) 0 us) = ((runF S o (boundF o most - i) i cur).1, dn ++ (runF S o (boundF o most - i) i cur).2)) ∧ Same H H')
      ⟨⟨p1, us, [], [], _, _, _, _, _, _, rfl, n1, Ne.symm np1, (s2.trans s3) _ _ e1, hw, s3 _ _ e2, .nil, rfl, Nat.le_refl _, rfl⟩, s13⟩ (fun _ _ _ _ _ => trivial) (fun i x σ Ha Hb hi h hy => ?ht) (fun σ H' h => ?he)
    case he =>
      obtain ⟨⟨p, cur, dn, ws, y7, y8, y9, y10, y11, y12, rfl, np, nep, ep, hc, es, ds, ld, lc, hrun⟩, sa⟩ := h
      rw [Int.toNat_natCast, Nat.sub_self] at hrun
      walk_at "g"
      refine k_nTup (by walk_at "sz") (fun T H5 n5 s5 e5' => ?_)
      refine fin H5 p ws cur dn (sa.trans s5) np nep (s5 _ _ ep) (s5 _ _ es) (dpall_sm (sm_del.trans s5) ds) ?_ T H' sa n5 e5'
      rw [hrun]
      show (cur, dn ++ []) = _
      rw [List.append_nil]
    case ht =>
      obtain ⟨⟨p, cur, dn, ws, y7, y8, y9, y10, y11, y12, rfl, np, nep, ep, hc, es, ds, ld, lc, hrun⟩, sa⟩ := h
      obtain ⟨rfl, rfl⟩ := y_rng hy
      have hi : i < boundF o most := by omega
      have lw := dpall_len ds
      rw [List.length_map] at lw
      walk_at "g"
      refine ⟨m, p, S, cur, rfl, hM.sm sa, ok, sq_l ep, hc, by omega, fun pb wb H4 n4 s4 e4 d4 => ?_⟩
      walk_at "g"
      refine k_nLst (by walk_at "sz") (fun p5 H5 n5 s5 e5 => ?_)
      have e45 := s5 _ _ e4
      have d5 := dpall_sm s5 d4
      have s45 := s4.trans s5
      refine k_b1Nil (by omega) (sq_l e45) d5 (sq_l e5) ?_
      have e5b : boundF o most - i = (boundF o most - (i + 1)) + 1 := by omega
      have ep5 := s45 _ _ ep
      have es5 := s45 _ _ es
      have ds5 := dpall_sm (del_mono (p := ps) s45) ds
      walk_at "g"
      refine k_dec (fun dz => ?_) (fun dz => ?_)
      · walk_at "g"
        refine k_nTup (by walk_at "sz") (fun T H6 n6 s6 e6 => ?_)
        refine fin H6 p ws cur dn ((sa.trans s45).trans s6) np nep (s6 _ _ ep5) (s6 _ _ es5) (dpall_sm (sm_del.trans s6) ds5) ?_ T H5 (sa.trans s45) n6 e6
        rw [hrun, e5b, runF_none (by rw [dz]; exact pick_nil), List.append_nil]
      · obtain ⟨x, hp⟩ := pick_some (us := cur) (k := i) dz hg (fun ns e => by have := lk ns e; omega)
        have hbm := pick_mem hp
        obtain ⟨hb1, hb2⟩ := bitesF_in.mp hbm
        obtain ⟨hw2, lm⟩ := behF_words ok hc hb2
        have lbs : (bitesF S cur).length ≤ 2 * cur.length := flat_len (S := S) (us := cur) cur.length
        have l0 : 0 < (bitesF S cur).length := List.length_pos_of_mem hbm
        have lwb := dpall_len d5
        rw [List.length_map] at lwb
        have give : ∀ (l : Nat), (bitesF S cur)[l]? = some x → ∃ t, wb[l]? = some (.ref t) ∧ SqT K H5 t [.int (x.1.1 : Nat), .str (sdS x.1.2)] := fun l e => by
          obtain ⟨v, h1, h2⟩ := dpall_at d5 (show ((bitesF S cur).map dB1)[l]? = some (dB1 x) by rw [List.getElem?_map, e]; rfl)
          obtain ⟨t, rfl, ht⟩ := dp_btI h2
          exact ⟨t, h1, ht⟩
        have hoA := (ho.sm sa).sm s45
        have first_or : ∃ z : Int, (z = 0 ∨ z = -1) ∧ True := ⟨0, .inl rfl, trivial⟩
        walk_at "g"
        refine k_cut (fun σ' H' => Same H5 H' ∧ ∃ (t : Addr), σ' = [some (.ref m), some (.ref r), some v, some (.int (most : Nat)), some (.ref p), some (.ref ps), some (.int (boundF o most : Nat)), some (.int (i : Nat)), some (.ref pb), some (.ref t), y10, y11, y12, none] ∧ (o = .nm (Str.ofString "first") ∨ o = .nm (Str.ofString "last") → SqT K H5 t [.int (x.1.1 : Nat), .str (sdS x.1.2)])) ?_ (fun σ' H6 h => ?_)
        · walk_at "g"
          refine k_ordEq hoA hf good_last ?_
          walk_at "g"
          by_cases hl : o = .nm (Str.ofString "last")
          · subst hl
            have e0 : (bitesF S cur)[(bitesF S cur).length - 1]? = some x := by
              refine getLast_at ?_
              have hp2 : (if Str.ofString "last" = Str.ofString "first" then (bitesF S cur).head? else if Str.ofString "last" = Str.ofString "last" then (bitesF S cur).getLast? else if Str.ofString "last" = Str.ofString "longest" then (bitesF S cur).find? (fun x => (bitesF S cur).all fun y => decide (eaterLen cur y ≤ eaterLen cur x)) else none) = some x := hp
              rw [if_neg (by decide +kernel), if_pos rfl] at hp2
              exact hp2
            obtain ⟨t, t1, t2⟩ := give _ e0
            rw [decide_eq_true rfl]
            refine k_ix_l (sq_l e45) (v := .ref t) (at_last (by rw [lwb]; exact t1) (by omega)) ?_
            walk_at "g"
            exact ⟨Same.refl _, t, rfl, fun _ => t2⟩
          · rw [decide_eq_false hl]
            obtain ⟨d0, hd0⟩ : ∃ d0, (bitesF S cur)[0]? = some d0 := ⟨_, List.getElem?_eq_getElem l0⟩
            obtain ⟨v0, v1, v2⟩ := dpall_at d5 (show ((bitesF S cur).map dB1)[0]? = some (dB1 d0) by rw [List.getElem?_map, hd0]; rfl)
            obtain ⟨t, rfl, ht⟩ := dp_btI v2
            refine k_ix_l (sq_l e45) (v := .ref t) (at_n (j := 0) rfl v1) ?_
            walk_at "g"
            refine ⟨Same.refl _, t, rfl, fun z => ?_⟩
            rcases z with z | z
            · subst z
              have hp2 : (bitesF S cur).head? = some x := hp
              rw [List.head?_eq_getElem?, hd0] at hp2
              cases hp2
              exact ht
            · exact absurd z hl
        obtain ⟨s6, t, rfl, hfl⟩ := h
        refine k_cut (fun σ' H' => Same H5 H' ∧ ∃ (t : Addr) (y10 y11 y12 : Option V), σ' = [some (.ref m), some (.ref r), some v, some (.int (most : Nat)), some (.ref p), some (.ref ps), some (.int (boundF o most : Nat)), some (.int (i : Nat)), some (.ref pb), some (.ref t), y10, y11, y12, none] ∧ ((∃ z, o = .nm z) → SqT K H' t [.int (x.1.1 : Nat), .str (sdS x.1.2)])) ?_ (fun σ' H7 h => ?_)
        · walk_at "g"
          refine k_ordEq (hoA.sm s6) hf good_longest ?_
          walk_at "g"
          refine k_dec (fun d3 => ?_) (fun d3 => ?_)
          · subst d3
            have hp3 : (bitesF S cur).find? (fun x => (bitesF S cur).all fun y => decide (eaterLen cur y ≤ eaterLen cur x)) = some x := by
              have hp2 : (if Str.ofString "longest" = Str.ofString "first" then (bitesF S cur).head? else if Str.ofString "longest" = Str.ofString "last" then (bitesF S cur).getLast? else if Str.ofString "longest" = Str.ofString "longest" then (bitesF S cur).find? (fun x => (bitesF S cur).all fun y => decide (eaterLen cur y ≤ eaterLen cur x)) else none) = some x := hp
              rw [if_neg (by decide +kernel), if_neg (by decide +kernel), if_pos rfl] at hp2
              exact hp2
            have word_at : ∀ y ∈ bitesF S cur, ∃ u, cur[y.1.1]? = some u ∧ u.length ≤ 1000 ∧ eaterLen cur y = (u.length : Nat) := fun y hy => by
              have h1 := (bitesF_in.mp hy).1
              refine ⟨cur[y.1.1], List.getElem?_eq_getElem h1, by have := (hc.len ok) _ (List.getElem_mem h1); omega, ?_⟩
              unfold eaterLen
              rw [List.getD_eq_getElem?_getD, List.getElem?_eq_getElem h1]
              rfl
            have e46 := s6 _ _ e45
            have ep6 := s6 _ _ ep5
            walk_at "g"
            refine k_nLc (walk_list (xs := wb)) (fun H' s => sq_l (s _ _ e46)) (fun i zs => zs = (((bitesF S cur).take i).map (eaterLen cur)).map V.int) rfl (fun i zs hi h => ?hz) (fun j y Hc Hd zs Kp Ks hj sc hzs hy hKp hKs => ?ht2) (fun p8 H8 zs n8 s8 e8 hzs => ?he2)
            case hz =>
              rw [h, List.length_map, List.length_map, List.length_take]
              omega
            case ht2 =>
              obtain ⟨rfl, hv⟩ := hy
              obtain ⟨d, hd1, hd2⟩ := dpall_get d5 hv
              obtain ⟨z, hz1, rfl⟩ := map_get hd1
              obtain ⟨tz, rfl, t1⟩ := dp_btI hd2
              obtain ⟨u, u1, u2, u3⟩ := word_at z (List.mem_of_getElem? hz1)
              have t1a := sm_t (s6.trans sc) t1
              have lu := len_tx u
              walk_at "g"
              refine ⟨rfl, ?_⟩
              walk_at "g"
              refine k_ix_l (sq_l (sc _ _ ep6)) (at_n rfl (getS u1)) ?_
              walk_at "g"
              refine k_len_s (by omega) ?_
              rw [lu, ← u3]
              exact hKp _ _ (Same.refl _) (by rw [hzs, take_more hz1, List.map_append, List.map_append]; rfl)
            case he2 =>
              rw [lwb, List.take_length] at hzs
              subst hzs
              walk_at "g"
              refine k_max (sq_l e8) (by rw [List.length_map]; exact l0) (fun mx m1 m2 => ?_)
              have e48 := s8 _ _ e46
              have ep8 := s8 _ _ ep6
              walk_at "g"
              refine k_nLcD (walk_list (xs := wb)) (fun H' s => sq_l (s _ _ e48)) (fun i zs H1 => DpAll K H1 zs ((((bitesF S cur).take i).filter fun x => decide (eaterLen cur x = mx)).map dB1)) (fun i zs Ha Hb s h => dpall_sm s h) .nil (fun i zs Ha hi h => ?hz2) (fun j y pp Hc Hd zs Kp Ks hj hp2 sc ec hzs hy hKp hKs => ?ht3) (fun p9 H9 zs n9 s9 e9 hzs => ?he3)
              case hz2 =>
                have := dpall_len h
                rw [List.length_map] at this
                have h2 := List.length_filter_le (fun x => decide (eaterLen cur x = mx)) ((bitesF S cur).take i)
                rw [List.length_take] at h2
                omega
              case ht3 =>
                obtain ⟨rfl, hv⟩ := hy
                obtain ⟨d, hd1, hd2⟩ := dpall_get d5 hv
                obtain ⟨z, hz1, rfl⟩ := map_get hd1
                obtain ⟨tz, rfl, t1⟩ := dp_btI hd2
                obtain ⟨u, u1, u2, u3⟩ := word_at z (List.mem_of_getElem? hz1)
                have t1a := sm_t (s6.trans (s8.trans sc)) t1
                have lu := len_tx u
                walk_at "g"
                refine ⟨rfl, ?_⟩
                walk_at "g"
                refine k_ix_l (sq_l (sc _ _ ep8)) (at_n rfl (getS u1)) ?_
                walk_at "g"
                refine k_len_s (by omega) ?_
                rw [lu, ← u3]
                walk_at "g"
                refine k_dec (fun d => ?_) (fun d => ?_)
                · walk_at "g"
                  refine hKp _ _ (Same.refl _) ?_
                  rw [take_more hz1, List.filter_append, List.map_append, show [z].filter (fun x => decide (eaterLen cur x = mx)) = [z] by simp [d]]
                  exact dpall_app hzs (dp_sm (sm_sep hp2 sc) (dp_sm (s6.trans s8) hd2))
                · walk_at "g"
                  refine hKs _ (Same.refl _) ?_
                  rw [take_more hz1, List.filter_append, List.map_append, show [z].filter (fun x => decide (eaterLen cur x = mx)) = [] by simp [d]]
                  simpa using hzs
              case he3 =>
                rw [lwb, List.take_length] at hzs
                have e0 : ((bitesF S cur).filter fun x => decide (eaterLen cur x = mx))[0]? = some x := by
                  rw [← List.head?_eq_getElem?, find_filter, top_eq m1 m2]
                  exact hp3
                obtain ⟨y, h1, h2⟩ := dpall_at hzs (show (((bitesF S cur).filter fun x => decide (eaterLen cur x = mx)).map dB1)[0]? = some (dB1 x) by rw [List.getElem?_map, e0]; rfl)
                obtain ⟨tx', rfl, htx⟩ := dp_btI h2
                walk_at "g"
                refine k_ix_l (sq_l e9) (at_n (j := 0) rfl h1) ?_
                walk_at "g"
                exact ⟨s6.trans (s8.trans s9), tx', _, _, _, rfl, fun _ => htx⟩
          · walk_at "g"
            refine ⟨s6, t, _, _, _, rfl, fun z => ?_⟩
            obtain ⟨z, rfl⟩ := z
            have hz : z = Str.ofString "first" ∨ z = Str.ofString "last" := by
              have hg2 : (decide (z = Str.ofString "first") || (decide (z = Str.ofString "last") || decide (z = Str.ofString "longest"))) = true := hg
              rw [Bool.or_eq_true, Bool.or_eq_true, decide_eq_true_eq, decide_eq_true_eq, decide_eq_true_eq] at hg2
              rcases hg2 with h | h | h
              · exact .inl h
              · exact .inr h
              · exact absurd (by rw [h]) d3
            refine sm_t s6 (hfl ?_)
            rcases hz with rfl | rfl
            · exact .inl rfl
            · exact .inr rfl
        obtain ⟨s7, t2, z10, z11, z12, rfl, hst⟩ := h
        refine k_cut (fun σ' H' => Same H5 H' ∧ ∃ (t : Addr), σ' = [some (.ref m), some (.ref r), some v, some (.int (most : Nat)), some (.ref p), some (.ref ps), some (.int (boundF o most : Nat)), some (.int (i : Nat)), some (.ref pb), some (.ref t), z10, z11, z12, none] ∧ SqT K H' t [.int (x.1.1 : Nat), .str (sdS x.1.2)]) ?_ (fun σ' H8 h => ?_)
        · walk_at "g"
          have ho7 := hoA.sm s7
          refine k_isiOL ho7 ?_
          cases o with
          | nm z =>
            walk_at "g"
            refine (show nIte false _ _ from ?_)
            walk_at "g"
            exact ⟨s7, t2, rfl, hst ⟨z, rfl⟩⟩
          | nums ns =>
            obtain ⟨pn, rfl, hpn⟩ := ho7
            walk_at "g"
            refine (show nIte true _ _ from ?_)
            have hp2 : (match ns[i]? with | some n => (bitesF S cur)[(n % ((bitesF S cur).length : Int)).toNat]? | none => none) = some x := hp
            cases e : ns[i]? with
            | none => rw [e] at hp2; cases hp2
            | some n =>
              rw [e] at hp2
              dsimp only at hp2
              have m1 := Int.emod_lt_of_pos n (show (0 : Int) < (bitesF S cur).length by omega)
              have m0 := Int.emod_nonneg n (show ((bitesF S cur).length : Int) ≠ 0 by omega)
              obtain ⟨y, h1, h2⟩ := give _ hp2
              have e47 := s7 _ _ e45
              walk_at "g"
              refine k_ix_l hpn (at_n (j := i) rfl (by rw [List.getElem?_map, e]; rfl)) ?_
              walk_at "g"
              refine k_I (show (0 : Int) < (wb.length : Nat) by omega) ?_
              rw [lwb]
              refine k_ix_l (sq_l e47) (at_pos m0 h1) ?_
              walk_at "g"
              exact ⟨s7, y, rfl, sm_t s7 h2⟩
        obtain ⟨s8, t3, rfl, ht3⟩ := h
        have s58 := s45.trans s8
        have es8 := s8 _ _ es5
        have ep8 := s8 _ _ ep5
        walk_at "g"
        refine k_append es8 (by omega) ?_
        have sm9 : Same H (upd H8 ps (.lst (ws ++ [V.ref t3]))) := sm_mut (sa.trans s58) nps
        have ep9 : (upd H8 ps (.lst (ws ++ [V.ref t3]))) p = some (.lst (tS cur)) := by
          rw [upd_ne (Ne.symm nep)]
          exact ep8
        have es9 : (upd H8 ps (.lst (ws ++ [V.ref t3]))) ps = some (.lst (ws ++ [V.ref t3])) := upd_same
        have ds9 : DpAll K (del (upd H8 ps (.lst (ws ++ [V.ref t3]))) ps) (ws ++ [V.ref t3]) ((dn ++ [x.1]).map dBt) := by
          rw [del_upd, List.map_append]
          exact dpall_app (dpall_sm (del_mono s8) ds5) (.tup (del_t es8 ht3) (.cons (.int _) (.cons (.str _) .nil)))
        have ht9 : SqT K (upd H8 ps (.lst (ws ++ [V.ref t3]))) t3 [.int (x.1.1 : Nat), .str (sdS x.1.2)] := t_lst es8 ht3
        generalize upd H8 ps (.lst (ws ++ [V.ref t3])) = H9 at sm9 ep9 es9 ds9 ht9 ⊢
        walk_at "g"
        refine ⟨m, p, S, cur, (x.1.1 : Nat), sdS x.1.2, rfl, hM.sm sm9, ok, sq_l ep9, hc, by omega, fun vv H10 s10 hv => ?_⟩
        rw [behS_sd, hb2] at hv
        obtain ⟨pn, rfl, nn, en⟩ := hv
        walk_at "g"
        refine ⟨⟨pn, x.2, dn ++ [x.1], ws ++ [.ref t3], _, _, _, _, _, _, rfl, sm9.free nn, ne_of_none es9 nn, en, hw2, s10 _ _ es9, dpall_sm (del_mono s10) ds9, by rw [List.length_append, ld]; rfl, by omega, ?_⟩, sm9.trans s10⟩
        rw [hrun, e5b, runF_some hp, List.append_assoc]
        rfl
end
end Lw
set_option autoImplicit true
set_option pp.maxSteps 1200
set_option Elab.async false
set_option linter.all false
set_option maxRecDepth 100000
set_option maxHeartbeats 1000000
namespace Lw
open PySem PySem.Spec PyProof.Rows L2 Gk
section
variable {K : PySem.W.Frag}
/-! ### bites by what stands ahead and behind -/
/-! ### letters -/
/-! ### ends -/
end
end Lw
set_option autoImplicit true
set_option pp.maxSteps 1200
set_option Elab.async false
set_option linter.all false
set_option maxRecDepth 100000
set_option maxHeartbeats 1000000
namespace Lw
open PySem PySem.Spec PyProof.Rows L2 Gk

local macro_rules | `(tactic| walk_at "hp") => `(tactic| first | assumption | exact upd_same | (refine' (upd_ne ?n).trans ?h; (case n => assumption); (case h => walk_at "hp")) | (refine' sm_get ?s ?h; (case s => assumption); (case h => walk_at "hp")))
local macro_rules | `(tactic| walk_at "sq") => `(tactic| first | assumption | (refine' sq_l ?h; (case h => walk_at "hp")) | (refine' sm_l ?s ?h; (case s => assumption); (case h => walk_at "sq")))
local macro_rules | `(tactic| walk_at "st") => `(tactic| first | assumption | (refine' sq_t ?h; (case h => walk_at "hp")) | (refine' sm_t ?s ?h; (case s => assumption); (case h => walk_at "st")))
local macro_rules | `(tactic| walk_at "bg") => `(tactic| first | assumption | (refine' BagOk.sm ?s ?h; (case s => assumption); (case h => walk_at "bg")))
local macro_rules | `(tactic| walk_at "sm") => `(tactic| first | assumption | exact Same.refl _ | (refine' Same.trans ?h ?s; (case s => assumption); (case h => walk_at "sm")))
local macro_rules | `(tactic| walk_at "hs") => `(tactic| first | assumption | (refine' HsAt.sm ?s ?h; (case s => assumption); (case h => walk_at "hs")))
local macro_rules | `(tactic| walk_at "ms") => `(tactic| first | assumption | (refine' MAt.sm ?s ?h; (case s => assumption); (case h => walk_at "ms")))
local macro_rules | `(tactic| walk_at "dp") => `(tactic| first | assumption | (refine' dp_sm ?s ?h; (case s => assumption); (case h => walk_at "dp")))
local macro_rules | `(tactic| walk_at "sz") => `(tactic| first | decide | assumption | omega | (simp only [List.length_cons, List.length_nil, List.length_map, List.length_append]; omega))
local macro_rules | `(tactic| walk_at "g1") => `(tactic| first
  | with_reducible refine k_seq ?_
  | with_reducible refine k_itB ?_
  | with_reducible refine k_next ?_
  | with_reducible refine k_asg ?_
  | with_reducible refine k_name ?_
  | with_reducible refine k_ret ?_
  | with_reducible refine k_retN ?_
  | with_reducible refine k_drop ?_
  | with_reducible refine k_ifs ?_
  | with_reducible refine k_brk ?_
  | with_reducible refine k_cont ?_
  | with_reducible refine k_ipI ?_
  | with_reducible refine k_test ?_
  | with_reducible refine k_tB ?_
  | with_reducible refine k_bl ?_
  | with_reducible refine k_not ?_
  | with_reducible refine k_and ?_
  | with_reducible refine k_or ?_
  | with_reducible refine k_yes ?_
  | with_reducible refine k_true ?_
  | with_reducible refine k_false ?_
  | with_reducible refine k_nt ?_
  | with_reducible refine k_c ?_
  | with_reducible refine k_op ?_
  | with_reducible refine k_un ?_
  | with_reducible refine k_if ?_
  | with_reducible refine k_chain ?_
  | with_reducible refine k_nil ?_
  | with_reducible refine k_cons ?_
  | with_reducible refine k_cb ?_
  | with_reducible refine k_call ?_
  | with_reducible refine k_callS ?_
  | with_reducible refine k_andV ?_
  | with_reducible refine k_orV ?_
  | with_reducible refine k_notV ?_
  | with_reducible refine k_lst ?_
  | with_reducible refine k_tup ?_
  | with_reducible refine k_nopart ?_
  | with_reducible refine k_part ?_
  | with_reducible refine k_nInt ?_
  | with_reducible refine k_sl ?_
  | with_reducible refine k_bm ?_
  | with_reducible refine k_bm0 ?_
  | with_reducible refine k_nTyS ?_
  | with_reducible refine k_m1 ?_
  | with_reducible refine k_m0 ?_
  | with_reducible refine k_nStr ?_
  | with_reducible refine k_I0 ?_
  | with_reducible refine k_U ?_
  | with_reducible refine k_add_i ?_
  | with_reducible refine k_eq_i ?_
  | with_reducible refine k_eq_s ?_
  | with_reducible refine k_eq_b ?_
  | with_reducible refine k_ne_i ?_
  | with_reducible refine k_ne_s ?_
  | with_reducible refine k_ne_b ?_
  | with_reducible refine k_le_i ?_
  | with_reducible refine k_le_s ?_
  | with_reducible refine k_gnil ?_
  | with_reducible refine k_gcons ?_
  | with_reducible refine k_gsub ?_
  | with_reducible refine k_for ?_
  | with_reducible refine k_lc ?_
  | with_reducible refine k_rng1 ?_
  | with_reducible refine k_rng2 ?_
  | with_reducible refine k_itl ?_
  | with_reducible refine k_itt ?_
  | with_reducible refine k_its ?_
  | with_reducible refine k_ite ?_
  | with_reducible refine k_iteB ?_
  | with_reducible refine k_lrg2 ?_
  | with_reducible refine k_itz ?_
  | with_reducible refine k_nIts ?_
  | with_reducible refine k_inS ?_
  | with_reducible refine k_niS ?_
  | with_reducible refine k_mk ?_
  | with_reducible refine k_meth ?_
  | with_reducible refine k_fld ?_
  | with_reducible refine k_sfld ?_
  | with_reducible refine k_dg ?_
  | with_reducible refine k_dp ?_
  | with_reducible refine k_pr ?_
  | with_reducible refine k_pr0 ?_
  | with_reducible refine k_sg ?_
  | with_reducible refine k_lc2 ?_
  | with_reducible refine k_callN ?_
  | with_reducible refine k_callNS ?_
  | with_reducible refine k_par ?_
  | with_reducible refine k_nPar ?_
  | with_reducible refine k_isNn ?_
  | with_reducible refine k_isNr ?_
  | with_reducible refine k_ntNn ?_
  | with_reducible refine k_ntNr ?_
  | with_reducible refine k_min2 ?_
  | with_reducible refine k_max2 ?_
  | with_reducible refine k_intB ?_
  | with_reducible refine k_intI ?_
  | with_reducible refine k_isBl ?_
  | with_reducible refine k_ntBl ?_
  | ((with_reducible refine' k_var ?kv ?_); (case kv => exact rfl))
  | ((with_reducible refine' k_aug ?kv ?_); (case kv => exact rfl))
  | ((with_reducible refine' k_ix_l ?ks ?ki ?_); (case ks => walk_at "sq"); (case ki => exact rfl))
  | ((with_reducible refine' k_ix_t ?ks ?ki ?_); (case ks => walk_at "st"); (case ki => exact rfl))
  | ((with_reducible refine' k_len_l ?ks ?_); (case ks => walk_at "sq"))
  | ((with_reducible refine' k_len_t ?ks ?_); (case ks => walk_at "st"))
  | ((with_reducible refine' k_setL ?ks ?ki ?_); (case ks => walk_at "hp"); (case ki => exact rfl))
  | ((with_reducible refine' k_nTyL ?ks ?_); (case ks => walk_at "sq"))
  | ((with_reducible refine' k_nItl ?ks ?_); (case ks => walk_at "sq"))
  | ((with_reducible refine' k_nItt ?ks ?_); (case ks => walk_at "st"))
  | ((with_reducible refine' k_nIte ?ks ?_); (case ks => walk_at "sq"))
  | ((with_reducible refine' k_mul ?km ?_); (case km => first | exact Or.inr ⟨by decide, by decide⟩ | exact Or.inl ⟨by decide, by decide⟩))
  | ((with_reducible refine' k_I ?km ?_); (case km => first | assumption | decide | exact ⟨by decide, by decide +kernel⟩ | exact ⟨by decide, by decide, by decide⟩))
  | ((with_reducible refine' k_nMeth ?kp ?kl ?_); (case kp => walk_at "hp"); (case kl => exact rfl))
  | ((with_reducible refine' k_nFld ?kp ?kc ?kn ?kl ?_); (case kp => walk_at "hp"); (case kc => assumption); (case kn => assumption); (case kl => exact rfl))
  | ((with_reducible refine' k_nSFld ?kp ?kc ?kn ?kl ?_); (case kp => walk_at "hp"); (case kc => assumption); (case kn => assumption); (case kl => exact of_decide_eq_true rfl))
  | ((with_reducible refine' k_nDg ?kp ?kl ?_); (case kp => walk_at "hp"); (case kl => exact rfl))
  | ((with_reducible refine' k_nRng1 ?k1 ?k2 ?_); (case k1 => omega); (case k2 => omega))
  | ((with_reducible refine' k_nKw ?k1 ?k2 ?_); (case k1 => exact rfl); (case k2 => exact rfl))
  | ((with_reducible refine' k_hsm ?kh ?_); (case kh => walk_at "hs"))
  | ((with_reducible refine' k_nMethH ?kh ?kl ?_); (case kh => walk_at "hs"); (case kl => exact fun _ _ => rfl))
  | ((with_reducible refine' k_mLet ?kh ?_); (case kh => walk_at "ms"))
  | ((with_reducible refine' k_mChew ?kh ?_); (case kh => walk_at "ms"))
  | ((with_reducible refine' k_mPut ?kh ?_); (case kh => walk_at "ms"))
  | ((with_reducible refine' k_mMost ?kh ?_); (case kh => walk_at "ms"))
  | ((with_reducible refine' k_mCut ?kh ?_); (case kh => walk_at "ms"))
  | ((with_reducible refine' k_gtup ?ks ?kl ?_); (case ks => walk_at "st"); (case kl => exact rfl)))
local macro_rules | `(tactic| walk_at "g") => `(tactic| repeat (walk_at "g1"))
local macro_rules | `(tactic| walk_at "w1") => `(tactic| first
  | walk_at "g1"
  | ((with_reducible refine' k_decT ?kp ?_); (case kp => omega))
  | ((with_reducible refine' k_decF ?kp ?_); (case kp => omega))
  | ((with_reducible refine' k_decNT ?kp ?_); (case kp => omega))
  | ((with_reducible refine' k_decNF ?kp ?_); (case kp => omega)))
local macro_rules | `(tactic| walk_at "w") => `(tactic| repeat (walk_at "w1"))


section
variable {P : Program} {w : World} {K : PySem.W.Frag} {mg : Str → Option Value} {base : Heap} {f : Addr} {fd : FuncData}
/-! ### wishes that are some -/
structure WishOk (S : HsD) (z : Str) (ds : List PyData) : Prop where
  is : isWishD S z ds = true
  sm : ∀ d ∈ ds, Small d
  len : ds.length ≤ 1
theorem small_row {S : HsD} (ok : HsOk S) {us : List (List Nat)} (hw : AllW S us) (hl : us.length ≤ 12) : us.length ≤ 1000 ∧ ∀ d ∈ us.map (fun u => PyData.str (tx u)), ∀ z, d = .str z → z.length ≤ 1000 := ⟨by omega, fun d hd z e => by
  obtain ⟨u, hu, rfl⟩ := List.mem_map.mp hd
  cases e
  have := (hw.len ok) u hu
  rw [len_tx]
  omega⟩
theorem strsD_map : ∀ us : List (List Nat), strsD (us.map fun u => PyData.str (tx u)) = us
  | [] => rfl
  | u :: r => by
    show TL.tl (tx u) :: strsD (r.map _) = _
    rw [strsD_map r, tl_tx]
theorem all_str (us : List (List Nat)) : (us.map fun u => PyData.str (tx u)).all isStrD = true := List.all_eq_true.mpr fun d hd => by
  obtain ⟨u, _, rfl⟩ := List.mem_map.mp hd
  rfl
theorem wishOk_row {S : HsD} (ok : HsOk S) {us : List (List Nat)} (hw : AllW S us) (hl : us.length ≤ 12) {d : PyData} (hd : d = .list (us.map fun u => PyData.str (tx u)) ∨ d = .tuple (us.map fun u => PyData.str (tx u))) : WishOk S (Str.ofString "row") [d] := by
  have hb := hw.bad ok hl
  refine ⟨?_, fun e he => ?_, Nat.le_refl _⟩
  · rw [wish_row]
    rcases hd with rfl | rfl
    · show ((us.map fun u => PyData.str (tx u)).all isStrD && (badAt S (strsD (us.map fun u => PyData.str (tx u)))).isNone) = true
      rw [strsD_map, all_str, hb]
      rfl
    · show ((us.map fun u => PyData.str (tx u)).all isStrD && (badAt S (strsD (us.map fun u => PyData.str (tx u)))).isNone) = true
      rw [strsD_map, all_str, hb]
      rfl
  · rw [List.mem_singleton.mp he]
    have := small_row ok hw hl
    rcases hd with rfl | rfl
    · exact ⟨by rw [List.length_map]; exact this.1, this.2⟩
    · exact ⟨by rw [List.length_map]; exact this.1, this.2⟩
theorem wishOk_word {S : HsD} (ok : HsOk S) {u : List Nat} (hu : u ∈ wordsF S.ls S.mo.toNat) : WishOk S (Str.ofString "word") [.str (tx u)] := by
  refine ⟨by rw [wish_word]; exact isW_word ok hu, fun e he => ?_, Nat.le_refl _⟩
  rw [List.mem_singleton.mp he]
  have hw : AllW S [u] := fun v hv => by rw [List.mem_singleton.mp hv]; exact hu
  have := (hw.len ok) u (List.mem_singleton.mpr rfl)
  show (tx u).length ≤ 1000
  rw [len_tx]
  omega
theorem wishOk_num {S : HsD} {z : Str} {n : Int} (hz : z = Str.ofString "words" ∨ z = Str.ofString "letters") (h0 : 0 ≤ n) : WishOk S z [.int n] := by
  refine ⟨by rw [wish_num hz]; exact decide_eq_true h0, fun e he => ?_, Nat.le_refl _⟩
  rw [List.mem_singleton.mp he]
  trivial
theorem wishOk_end {S : HsD} : WishOk S (Str.ofString "end") [] := ⟨wish_end, fun e he => (nomatch he), Nat.zero_le _⟩
theorem runW {S : HsD} (ok : HsOk S) {o : Ord} : ∀ (n k : Nat) (us : List (List Nat)), AllW S us → AllW S (runF S o n k us).1
  | 0, _, _, hw => hw
  | n + 1, k, us, hw => by
    cases e : pickB us (bitesF S us) o k with
    | none =>
      rw [runF_none e]
      exact hw
    | some x =>
      rw [runF_some e]
      exact runW ok n (k + 1) x.2 (behF_words ok hw (bitesF_in.mp (pick_mem e)).2).1
def spLWish (K : PySem.W.Frag) : Sp := fun vs H Q _ => ∃ (b m r : Addr) (S : HsD) (us : List (List Nat)), vs = [.ref b, .ref m, .ref r] ∧ BagOk H b ∧ MAt K H m S ∧ HsOk S ∧ SqL K H r (tS us) ∧ AllW S us ∧ us.length ≤ 100 ∧
  ∀ t H' z ws ds, Same H H' → SqT K H' t (.str z :: ws) → DpAll K H' ws ds → WishOk S z ds → Q (.ref t) H'
theorem ok_Lwish (F : FnP K "_law_wish" s_Lwish f fd) (hm : mg "_law_wish" = some (.ref f)) (f_range : mg "range" = none) (f_len : mg "len" = none) (f_tuple : mg "tuple" = none) (c_Lpull : Callee P w K mg base CX0 "_law_pull" 1 [] spPull) (c_Lone : Callee P w K mg base CX0 "_law_one" 2 [] (spOne K)) (c_Lwords : Callee P w K mg base CX0 "_law_words" 1 [] (spLWords K)) (c_Lrow : Callee P w K mg base CX0 "_law_row" 3 [] (spLRow K)) (c_Lgone : Callee P w K mg base CX0 "_law_gone" 4 [] (spLGone K)) : Callee P w K mg base CX0 "_law_wish" 5 [] (spLWish K) := by
  refine ⟨f, fd, _, [], F.ok sc_Lwish (fun vs H Q E h => ?hl) (fun cdv A outer s H vs Q E hr h => ⟨_, PSs.nox (pss_cons (ps_set (i := 3) sc_Lwish.nd rfl (by first | exact Or.inl rfl | exact Or.inr rfl) (pe_cl c_Lwords hr (pa_cons (pv 1) pa_nil) pass0))
      (pss_cons (ps_set (i := 4) sc_Lwish.nd rfl (by first | exact Or.inl rfl | exact Or.inr rfl) (pe_slice (sl_k K) (pe_ix (ix_k K) (pe_cl c_Lgone hr (pa_cons (pv 1) (pa_cons (pv 2) (pa_cons (pe_lc (own := [("_law_k", 6)]) rfl sc_Lwish.nd (pi_range1 (by rfl) f_range (pa_cons pe_int pa_nil)) (blkOk_by (N := ["_law_bag_here", "_law_m", "_law_row_here", "_law_shelf", "_law_near", "_law_some", "_law_k"]) (sc := defScope s_Lwish) (by decide +kernel)) (fun _ _ _ _ _ => (pg_name (i := 6) sc_Lwish.nd rfl (by first | exact Or.inl rfl | exact Or.inr rfl))) (fun _ _ _ _ _ => pts_nil) (fun _ _ _ _ _ => (pe_cl c_Lpull hr (pa_cons (pv 0) (pa_cons pe_int pa_nil)) pass0))) (pa_cons (pe_cl c_Lpull hr (pa_cons (pv 0) (pa_cons pe_int pa_nil)) pass0) pa_nil)))) pass0) pe_int (fun _ _ => rfl)) po_none (po_some pe_int)))
      (pss_cons (ps_set (i := 5) sc_Lwish.nd rfl (by first | exact Or.inl rfl | exact Or.inr rfl) (pe_lst (pa_cons (pe_tup (pa_cons pe_str (pa_cons (pv 4) pa_nil))) (pa_cons (pe_tup (pa_cons pe_str (pa_cons (pe_callTy (call_tupK K) (by rfl) f_tuple (by decide +kernel) (pa_cons (pe_cl c_Lrow hr (pa_cons (pv 0) (pa_cons (pv 1) (pa_cons pe_int pa_nil))) pass0) pa_nil)) pa_nil))) (pa_cons (pe_tup (pa_cons pe_str (pa_cons (pe_cl c_Lone hr (pa_cons (pv 0) (pa_cons (pv 3) pa_nil)) pass0) pa_nil))) (pa_cons (pe_tup (pa_cons pe_str pa_nil)) pa_nil))))))
      (pss_cons (ps_set (i := 5) sc_Lwish.nd rfl (by first | exact Or.inl rfl | exact Or.inr rfl) (pe_op (op_addK K) (pv 5) (pe_lst (pa_cons (pe_tup (pa_cons pe_str (pa_cons (pe_cl c_Lpull hr (pa_cons (pv 0) (pa_cons pe_int pa_nil)) pass0) pa_nil))) (pa_cons (pe_tup (pa_cons pe_str (pa_cons (pe_cl c_Lpull hr (pa_cons (pv 0) (pa_cons pe_int pa_nil)) pass0) pa_nil))) (pa_cons (pe_tup (pa_cons pe_str (pa_cons (pe_callB (call_lenK K) (by rfl) f_len PySem.boot_len (pa_cons (pv 4) pa_nil)) pa_nil))) pa_nil))))))
      (pss_one (ps_ret (pe_cl c_Lone hr (pa_cons (pv 0) (pa_cons (pv 5) pa_nil)) pass0))))))), ?rd⟩), hm, F.kp, F.bindsN fun _ _ _ _ _ _ us hl => match us, hl with | [_, _, _], _ => rfl, .nil⟩
  case hl =>
    obtain ⟨b, m, r, S, us, rfl, _⟩ := h
    rfl
  case rd =>
    obtain ⟨b, m, r, S, us, rfl, hb, hM, ok, hx, hw, lu, q⟩ := h
    refine k_start (σ' := [some _, some _, some _, none, none, none, none]) rfl ?_
    have m3 := ok.m3
    have wp := words_pos ok
    have wsm := words_small ok S.mo.toNat (Nat.le_refl _)
    walk_at "g"
    refine ⟨m, S, rfl, hM, ok, fun p1 H1 n1 s1 e1 => ?_⟩
    have hb1 := hb.sm s1
    walk_at "g"
    refine k_nLc walk_range (fun _ _ => trivial) (fun i ws => ∃ ms : List Int, ws = ms.map V.int ∧ ms.length = i ∧ ∀ z ∈ ms, 0 ≤ z ∧ z < 20) ⟨[], rfl, rfl, fun z hz => nomatch hz⟩ (fun i ws hi h => ?hz) (fun i v Ha Hb ws Kp Ks hi sa hws hy hKp hKs => ?ht) (fun p2 H2 ws n2 s2 e2 hws => ?he)
    case hz =>
      obtain ⟨ms, rfl, h2, _⟩ := h
      rw [List.length_map]
      have : i ≤ 6 := hi
      omega
    case ht =>
      obtain ⟨rfl, rfl⟩ := y_rng hy
      obtain ⟨ms, rfl, h2, h3⟩ := hws
      walk_at "g"
      refine ⟨rfl, ?_⟩
      walk_at "g"
      refine k_pull (hb1.sm sa) (by omega) (by omega) (fun x x0 x1 => hKp _ _ (Same.refl _) ⟨ms ++ [x], by rw [List.map_append]; rfl, by rw [List.length_append, h2]; rfl, fun z hz => ?_⟩)
      rcases List.mem_append.mp hz with hz | hz
      · exact h3 z hz
      · rw [List.mem_singleton.mp hz]
        exact ⟨x0, x1⟩
    case he =>
      obtain ⟨nn, rfl, ln, hnn⟩ := hws
      have s12 := s1.trans s2
      walk_at "g"
      refine k_pull (hb1.sm s2) (by omega) (by omega) (fun bn bn0 bn1 => ?_)
      obtain ⟨bn, rfl⟩ : ∃ k : Nat, bn = (k : Int) := ⟨bn.toNat, by omega⟩
      walk_at "g"
      refine ⟨m, r, .ref p2, S, us, .nums nn, bn, rfl, hM.sm s12, ok, sm_l s12 hx, hw, ⟨p2, rfl, sq_l e2⟩, ⟨by have : nn.length = 6 := ln; omega, fun n hn => ?_⟩, List.all_eq_true.mpr fun n hn => decide_eq_true (hnn n hn).1, by omega, fun T p ps ws H3 nT s3 eT np nps nep ep es ds => ?_⟩
      · obtain ⟨a0, a1⟩ := hnn n hn
        obtain ⟨k, rfl⟩ : ∃ k : Nat, n = (k : Int) := ⟨n.toNat, by omega⟩
        rw [Int.natAbs_natCast]
        exact Nat.lt_of_le_of_lt (Nat.log2_le_self k) (by omega)
      have wr := runW ok (o := .nums nn) (boundF (.nums nn) bn) 0 us hw
      generalize (runF S (.nums nn) (boundF (.nums nn) bn) 0 us).1 = near at wr ep
      walk_at "g"
      refine k_sl_l (sq_l ep) (fun p4 H4 n4 s4 e4 => ?_)
      rw [cutV_toI _ _ (by decide), tS_take] at e4
      have wN : AllW S (near.take (12 : Int).toNat) := fun v hv => wr v (List.mem_of_mem_take hv)
      have lN : (near.take (12 : Int).toNat).length ≤ 12 := by rw [List.length_take]; exact Nat.min_le_left ..
      generalize near.take (12 : Int).toNat = nr at wN lN e4
      have s14 := s12.trans (s3.trans s4)
      walk_at "g"
      refine k_nTup (by walk_at "sz") (fun t1 H5 n5 s5 e5 => ?_)
      have s15 := s14.trans s5
      walk_at "g"
      refine ⟨b, m, S, 3, rfl, hb.sm s15, hM.sm s15, ok, by decide, fun rs p6 H6 w6 l6 n6 s6 e6 => ?_⟩
      walk_at "g"
      refine k_tup_l (sq_l e6) (fun p7 H7 n7 s7 e7 => ?_)
      walk_at "g"
      refine k_nTup (by walk_at "sz") (fun t2 H8 n8 s8 e8 => ?_)
      have s58 := s6.trans (s7.trans s8)
      have s28 := s2.trans (s3.trans (s4.trans (s5.trans s58)))
      have e18 := s28 _ _ e1
      walk_at "g"
      refine ⟨b, .ref p1, rfl, hb1.sm s28, .inl ⟨p1, _, rfl, sq_l e18, by rw [len_tS]; exact wp, by rw [len_tS]; omega, fun v hv => ?_⟩⟩
      obtain ⟨u, hu, rfl⟩ := List.mem_map.mp hv
      walk_at "g"
      refine k_nTup (by walk_at "sz") (fun t3 H9 n9 s9 e9 => ?_)
      walk_at "g"
      refine k_nTup (by walk_at "sz") (fun t4 H10 n10 s10 e10 => ?_)
      walk_at "g"
      refine k_nLst (by walk_at "sz") (fun p11 H11 n11 s11 e11 => ?_)
      have s811 := s9.trans (s10.trans s11)
      have s111 := s28.trans s811
      walk_at "g"
      refine k_pull (hb1.sm s111) (by omega) (by omega) (fun x1 x10 x11 => ?_)
      walk_at "g"
      refine k_nTup (by walk_at "sz") (fun t5 H12 n12 s12' e12 => ?_)
      walk_at "g"
      refine k_pull (hb1.sm (s111.trans s12')) (by omega) (by omega) (fun x2 x20 x21 => ?_)
      walk_at "g"
      refine k_nTup (by walk_at "sz") (fun t6 H13 n13 s13 e13 => ?_)
      have s413 := s5.trans (s58.trans (s811.trans (s12'.trans s13)))
      have e413 := s413 _ _ e4
      walk_at "g"
      refine k_nTup (by walk_at "sz") (fun t7 H14 n14 s14' e14 => ?_)
      walk_at "g"
      refine k_nLst (by walk_at "sz") (fun p15 H15 n15 s15' e15 => ?_)
      have e1115 := s15' _ _ (s14' _ _ (s13 _ _ (s12' _ _ e11)))
      refine k_add_l e1115 e15 (by show 4 + 3 ≤ _; decide) (fun p16 H16 n16 s16 e16 => ?_)
      have sE := s15'.trans s16
      have sD := s14'.trans sE
      have sC := s13.trans sD
      have sB := s12'.trans sC
      have sA := s811.trans sB
      have hF := s28.trans sA
      walk_at "g"
      refine ⟨b, .ref p16, rfl, hb1.sm hF, .inl ⟨p16, _, rfl, sq_l e16, by show 0 < 7; decide, by show 7 ≤ 100000; decide, fun v hv => ?_⟩⟩
      have sT := s1.trans hF
      have e4F := (s5.trans (s58.trans sA)) _ _ e4
      have e7F := (s8.trans sA) _ _ e7
      rcases List.mem_cons.mp hv with rfl | hv
      · exact q t1 H16 (Str.ofString "row") _ _ sT (sq_t ((s58.trans sA) _ _ e5)) (.cons (.lst (sq_l e4F) (dp_tS nr)) .nil) (wishOk_row ok wN lN (.inl rfl))
      rcases List.mem_cons.mp hv with rfl | hv
      · exact q t2 H16 (Str.ofString "row") _ _ sT (sq_t (sA _ _ e8)) (.cons (.tup (sq_t e7F) (dp_tS rs)) .nil) (wishOk_row ok w6 (by omega) (.inr rfl))
      rcases List.mem_cons.mp hv with rfl | hv
      · exact q t3 H16 (Str.ofString "word") _ _ sT (sq_t ((s10.trans (s11.trans sB)) _ _ e9)) (.cons (.str _) .nil) (wishOk_word ok hu)
      rcases List.mem_cons.mp hv with rfl | hv
      · exact q t4 H16 (Str.ofString "end") _ _ sT (sq_t ((s11.trans sB) _ _ e10)) .nil wishOk_end
      rcases List.mem_cons.mp hv with rfl | hv
      · exact q t5 H16 (Str.ofString "words") _ _ sT (sq_t (sC _ _ e12)) (.cons (.int _) .nil) (wishOk_num (.inl rfl) x10)
      rcases List.mem_cons.mp hv with rfl | hv
      · exact q t6 H16 (Str.ofString "letters") _ _ sT (sq_t (sD _ _ e13)) (.cons (.int _) .nil) (wishOk_num (.inr rfl) x20)
      rcases List.mem_cons.mp hv with rfl | hv
      · exact q t7 H16 (Str.ofString "words") _ _ sT (sq_t (sE _ _ e14)) (.cons (.int _) .nil) (wishOk_num (.inl rfl) (by omega))
      cases hv
def spLFul (K : PySem.W.Frag) : Sp := fun vs H Q _ => ∃ (m t r : Addr) (S : HsD) (z : Str) (ws : List V) (ds : List PyData) (us : List (List Nat)) (tq : Bool), vs = [.ref m, .ref t, .ref r] ∧ MAt K H m S ∧ HsOk S ∧ SqT K H t (.str z :: ws) ∧ DpAll K H ws ds ∧ isWishD S z ds = true ∧ SqB K tq H r (tS us) ∧ AllW S us ∧ us.length ≤ 5000 ∧ ∀ H', Same H H' → Q (.bl (fulD S z ds us)) H'
theorem flat_len3 {S : HsD} (ok : HsOk S) : ∀ {us : List (List Nat)}, AllW S us → us.flatten.length ≤ 3 * us.length
  | [], _ => Nat.zero_le _
  | u :: r, h => by
    have h1 := (h.len ok) u (List.mem_cons_self ..)
    have h2 := flat_len3 ok (us := r) fun v hv => h v (List.mem_cons_of_mem _ hv)
    rw [List.flatten_cons, List.length_append, List.length_cons]
    omega
theorem joinT (us : List (List Nat)) : (Txt.join (Str.ofString "") (us.map tx)) = tx us.flatten := by
  refine TL.ext_tl ?_
  rw [TL.join_eq, TL.tl_join, tl_tx, show TL.tl (Str.ofString "") = [] from rfl, joinL_nil, List.map_map]
  congr 1
  rw [show (TL.tl ∘ tx) = id from rfl, List.map_id]
theorem lensT (us : List (List Nat)) : ((us.map tx).map (·.length)).sum = us.flatten.length := by
  rw [List.length_flatten, List.map_map]
  congr 1
theorem k_joinB {tq : Bool} {H : Hp} {Q : VK} {a : Addr} {z : Str} {ys : List Str} (h : SqB K tq H a (ys.map V.str)) (hz : (ys.map (·.length)).sum + ys.length * z.length ≤ 100000) (q : Q (.str (Txt.join z ys)) H) : rJoin K (.str z) [.ref a] H Q := match tq, h with
  | false, h => k_join h hz q
  | true, h => k_joinT h hz q
theorem ok_Lfulfils (F : FnP K "_law_fulfils" s_Lfulfils f fd) (hm : mg "_law_fulfils" = some (.ref f)) (f_len : mg "len" = none) (f_list : mg "list" = none) (c_Lbites : Callee P w K mg base CX0 "_law_bites" 3 [] (spLBites K)) : Callee P w K mg base CX0 "_law_fulfils" 4 [] (spLFul K) := by
  refine ⟨f, fd, _, [], F.ok sc_Lfulfils (fun vs H Q E h => ?hl) (fun cdv A outer s H vs Q E hr h => ⟨_, PSs.nox (pss_cons (ps_set (i := 3) sc_Lfulfils.nd rfl (by first | exact Or.inl rfl | exact Or.inr rfl) (pe_ix (ix_k K) (pv 1) pe_int (fun _ _ => rfl)))
      (pss_cons (ps_if (pt_cmpR (op_eqK K hr.units) (pv 3) pe_str (nomark _)) (pss_one (ps_ret (pe_cmpR (op_eqK K hr.units) (pe_callTy (call_listK K) (by rfl) f_list (by decide +kernel) (pa_cons (pe_ix (ix_k K) (pv 1) pe_int (fun _ _ => rfl)) pa_nil)) (pe_callTy (call_listK K) (by rfl) f_list (by decide +kernel) (pa_cons (pv 2) pa_nil)) (nomark _)))) pss_nil)
      (pss_cons (ps_if (pt_cmpR (op_eqK K hr.units) (pv 3) pe_str (nomark _)) (pss_one (ps_ret (pe_cmpR (op_inK K) (pe_ix (ix_k K) (pv 1) pe_int (fun _ _ => rfl)) (pv 2) (by rfl)))) pss_nil)
      (pss_cons (ps_if (pt_cmpR (op_eqK K hr.units) (pv 3) pe_str (nomark _)) (pss_one (ps_ret (pe_cmpR (op_eqK K hr.units) (pe_callB (call_lenK K) (by rfl) f_len PySem.boot_len (pa_cons (pv 2) pa_nil)) (pe_ix (ix_k K) (pv 1) pe_int (fun _ _ => rfl)) (nomark _)))) pss_nil)
      (pss_cons (ps_if (pt_cmpR (op_eqK K hr.units) (pv 3) pe_str (nomark _)) (pss_one (ps_ret (pe_cmpR (op_eqK K hr.units) (pe_callB (call_lenK K) (by rfl) f_len PySem.boot_len (pa_cons (pe_joinK K pe_str (pv 2)) pa_nil)) (pe_ix (ix_k K) (pv 1) pe_int (fun _ _ => rfl)) (nomark _)))) pss_nil)
      (pss_one (ps_ret (pe_cmpR (op_eqK K hr.units) (pe_cl c_Lbites hr (pa_cons (pv 0) (pa_cons (pe_callTy (call_listK K) (by rfl) f_list (by decide +kernel) (pa_cons (pv 2) pa_nil)) pa_nil)) pass0) (pe_lst pa_nil) (nomark _))))))))), ?rd⟩), hm, F.kp, F.bindsN fun _ _ _ _ _ _ us hl => match us, hl with | [_, _, _], _ => rfl, .nil⟩
  case hl =>
    obtain ⟨m, t, r, S, z, ws, ds, us, tq, rfl, _⟩ := h
    rfl
  case rd =>
    obtain ⟨m, t, r, S, z, ws, ds, us, tq, rfl, hM, ok, ht, hds, hW, hx, hw, lu, q⟩ := h
    refine k_start (σ' := [some _, some _, some _, none]) rfl ?_
    have one : ∀ {d : PyData}, ds = [d] → ∃ v, ws = [v] ∧ Dp K H v d := fun {d} e => by
      rw [e] at hds
      cases hds with
      | cons h r =>
        cases r
        exact ⟨_, rfl, h⟩
    walk_at "g"
    refine k_ix_t ht (at_n (j := 0) rfl rfl) ?_
    walk_at "g"
    rcases wish_yes hW with ⟨rfl, d, es, rfl, hd, he, hb⟩ | ⟨rfl, x, rfl, hx2⟩ | ⟨rfl, n, rfl, h0⟩ | ⟨rfl, n, rfl, h0⟩ | ⟨rfl, rfl⟩
    · obtain ⟨v, rfl, hv⟩ := one rfl
      rw [ful_row hd] at q
      obtain ⟨aw, l12⟩ := badAt_none ok hb
      obtain ⟨t2, r2, rfl, hr2⟩ : ∃ (t2 : Bool) (r2 : Addr), v = .ref r2 ∧ SqB K t2 H r2 (tS (strsD es)) := by
        rcases hd with rfl | rfl
        · cases hv with
          | lst h1 h2 => exact ⟨false, _, rfl, by rw [← (strsD_vs h2 he).1]; exact h1⟩
        · cases hv with
          | tup h1 h2 => exact ⟨true, _, rfl, by rw [← (strsD_vs h2 he).1]; exact h1⟩
      refine k_dec (fun d1 => ?_) (fun d1 => absurd rfl d1)
      walk_at "g"
      refine k_list_b hr2 (fun p2 H2 n2 s2 e2 => ?_)
      walk_at "g"
      refine k_list_b (sm_b s2 hx) (fun p3 H3 n3 s3 e3 => ?_)
      exact row_eq ok hw (by omega) aw (by omega) (sq_l (s3 _ _ e2)) (sq_l e3) (q _ (s2.trans s3))
    · obtain ⟨v, rfl, hv⟩ := one rfl
      rw [ful_word] at q
      cases hv
      refine k_dec (fun d1 => absurd d1 (by decide +kernel)) (fun d1 => ?_)
      walk_at "g"
      refine k_dec (fun d1 => ?_) (fun d1 => absurd rfl d1)
      walk_at "g"
      cases tq with
      | true => exact k_inT hx rfl (flat_tS us) (inV_tS x us) (q _ (Same.refl _))
      | false => exact k_inL hx rfl (flat_tS us) (inV_tS x us) (q _ (Same.refl _))
    · obtain ⟨v, rfl, hv⟩ := one rfl
      rw [ful_words] at q
      cases hv
      refine k_dec (fun d1 => absurd d1 (by decide +kernel)) (fun d1 => ?_)
      walk_at "g"
      refine k_dec (fun d1 => absurd d1 (by decide +kernel)) (fun d1 => ?_)
      walk_at "g"
      refine k_dec (fun d1 => ?_) (fun d1 => absurd rfl d1)
      walk_at "g"
      refine k_len_b hx ?_
      walk_at "g"
      rw [len_tS]
      exact q _ (Same.refl _)
    · obtain ⟨v, rfl, hv⟩ := one rfl
      rw [ful_letters] at q
      cases hv
      refine k_dec (fun d1 => absurd d1 (by decide +kernel)) (fun d1 => ?_)
      walk_at "g"
      refine k_dec (fun d1 => absurd d1 (by decide +kernel)) (fun d1 => ?_)
      walk_at "g"
      refine k_dec (fun d1 => absurd d1 (by decide +kernel)) (fun d1 => ?_)
      walk_at "g"
      refine k_dec (fun d1 => ?_) (fun d1 => absurd rfl d1)
      have fl := flat_len3 ok hw
      walk_at "g"
      refine k_joinB (ys := us.map tx) (by rw [List.map_map]; exact hx) ?_ ?_
      · rw [lensT, show (Str.ofString "").length = 0 by decide +kernel]
        omega
      rw [joinT]
      walk_at "g"
      have e := len_tx us.flatten
      refine k_len_s (by omega) ?_
      rw [e]
      walk_at "g"
      exact q _ (Same.refl _)
    · rw [ful_end] at q
      refine k_dec (fun d1 => absurd d1 (by decide +kernel)) (fun d1 => ?_)
      walk_at "g"
      refine k_dec (fun d1 => absurd d1 (by decide +kernel)) (fun d1 => ?_)
      walk_at "g"
      refine k_dec (fun d1 => absurd d1 (by decide +kernel)) (fun d1 => ?_)
      walk_at "g"
      refine k_dec (fun d1 => absurd d1 (by decide +kernel)) (fun d1 => ?_)
      walk_at "g"
      refine k_list_b hx (fun p2 H2 n2 s2 e2 => ?_)
      walk_at "g"
      refine ⟨m, p2, S, us, rfl, hM.sm s2, ok, sq_l e2, hw, by omega, fun p3 ws3 H3 n3 s3 e3 b3 => ?_⟩
      walk_at "g"
      refine k_nLst (by walk_at "sz") (fun p4 H4 n4 s4 e4 => ?_)
      exact k_b1Nil (by omega) (sq_l (s4 _ _ e3)) (dpall_sm s4 b3) (sq_l e4) (q _ (s2.trans (s3.trans s4)))
end
end Lw
set_option autoImplicit true
set_option pp.maxSteps 1200
set_option Elab.async false
set_option linter.all false
set_option maxRecDepth 100000
set_option maxHeartbeats 1000000
namespace Lw
open PySem PySem.Spec PyProof.Rows L2 Gk

local macro_rules | `(tactic| walk_at "hp") => `(tactic| first | assumption | exact upd_same | (refine' (upd_ne ?n).trans ?h; (case n => assumption); (case h => walk_at "hp")) | (refine' sm_get ?s ?h; (case s => assumption); (case h => walk_at "hp")))
local macro_rules | `(tactic| walk_at "sq") => `(tactic| first | assumption | (refine' sq_l ?h; (case h => walk_at "hp")) | (refine' sm_l ?s ?h; (case s => assumption); (case h => walk_at "sq")))
local macro_rules | `(tactic| walk_at "st") => `(tactic| first | assumption | (refine' sq_t ?h; (case h => walk_at "hp")) | (refine' sm_t ?s ?h; (case s => assumption); (case h => walk_at "st")))
local macro_rules | `(tactic| walk_at "bg") => `(tactic| first | assumption | (refine' BagOk.sm ?s ?h; (case s => assumption); (case h => walk_at "bg")))
local macro_rules | `(tactic| walk_at "sm") => `(tactic| first | assumption | exact Same.refl _ | (refine' Same.trans ?h ?s; (case s => assumption); (case h => walk_at "sm")))
local macro_rules | `(tactic| walk_at "hs") => `(tactic| first | assumption | (refine' HsAt.sm ?s ?h; (case s => assumption); (case h => walk_at "hs")))
local macro_rules | `(tactic| walk_at "ms") => `(tactic| first | assumption | (refine' MAt.sm ?s ?h; (case s => assumption); (case h => walk_at "ms")))
local macro_rules | `(tactic| walk_at "dp") => `(tactic| first | assumption | (refine' dp_sm ?s ?h; (case s => assumption); (case h => walk_at "dp")))
local macro_rules | `(tactic| walk_at "sz") => `(tactic| first | decide | assumption | omega | (simp only [List.length_cons, List.length_nil, List.length_map, List.length_append]; omega))
local macro_rules | `(tactic| walk_at "g1") => `(tactic| first
  | with_reducible refine k_seq ?_
  | with_reducible refine k_itB ?_
  | with_reducible refine k_next ?_
  | with_reducible refine k_asg ?_
  | with_reducible refine k_name ?_
  | with_reducible refine k_ret ?_
  | with_reducible refine k_retN ?_
  | with_reducible refine k_drop ?_
  | with_reducible refine k_ifs ?_
  | with_reducible refine k_brk ?_
  | with_reducible refine k_cont ?_
  | with_reducible refine k_ipI ?_
  | with_reducible refine k_test ?_
  | with_reducible refine k_tB ?_
  | with_reducible refine k_bl ?_
  | with_reducible refine k_not ?_
  | with_reducible refine k_and ?_
  | with_reducible refine k_or ?_
  | with_reducible refine k_yes ?_
  | with_reducible refine k_true ?_
  | with_reducible refine k_false ?_
  | with_reducible refine k_nt ?_
  | with_reducible refine k_c ?_
  | with_reducible refine k_op ?_
  | with_reducible refine k_un ?_
  | with_reducible refine k_if ?_
  | with_reducible refine k_chain ?_
  | with_reducible refine k_nil ?_
  | with_reducible refine k_cons ?_
  | with_reducible refine k_cb ?_
  | with_reducible refine k_call ?_
  | with_reducible refine k_callS ?_
  | with_reducible refine k_andV ?_
  | with_reducible refine k_orV ?_
  | with_reducible refine k_notV ?_
  | with_reducible refine k_lst ?_
  | with_reducible refine k_tup ?_
  | with_reducible refine k_nopart ?_
  | with_reducible refine k_part ?_
  | with_reducible refine k_nInt ?_
  | with_reducible refine k_sl ?_
  | with_reducible refine k_bm ?_
  | with_reducible refine k_bm0 ?_
  | with_reducible refine k_nTyS ?_
  | with_reducible refine k_m1 ?_
  | with_reducible refine k_m0 ?_
  | with_reducible refine k_nStr ?_
  | with_reducible refine k_I0 ?_
  | with_reducible refine k_U ?_
  | with_reducible refine k_add_i ?_
  | with_reducible refine k_eq_i ?_
  | with_reducible refine k_eq_s ?_
  | with_reducible refine k_eq_b ?_
  | with_reducible refine k_ne_i ?_
  | with_reducible refine k_ne_s ?_
  | with_reducible refine k_ne_b ?_
  | with_reducible refine k_le_i ?_
  | with_reducible refine k_le_s ?_
  | with_reducible refine k_gnil ?_
  | with_reducible refine k_gcons ?_
  | with_reducible refine k_gsub ?_
  | with_reducible refine k_for ?_
  | with_reducible refine k_lc ?_
  | with_reducible refine k_rng1 ?_
  | with_reducible refine k_rng2 ?_
  | with_reducible refine k_itl ?_
  | with_reducible refine k_itt ?_
  | with_reducible refine k_its ?_
  | with_reducible refine k_ite ?_
  | with_reducible refine k_iteB ?_
  | with_reducible refine k_lrg2 ?_
  | with_reducible refine k_itz ?_
  | with_reducible refine k_nIts ?_
  | with_reducible refine k_inS ?_
  | with_reducible refine k_niS ?_
  | with_reducible refine k_mk ?_
  | with_reducible refine k_meth ?_
  | with_reducible refine k_fld ?_
  | with_reducible refine k_sfld ?_
  | with_reducible refine k_dg ?_
  | with_reducible refine k_dp ?_
  | with_reducible refine k_pr ?_
  | with_reducible refine k_pr0 ?_
  | with_reducible refine k_sg ?_
  | with_reducible refine k_lc2 ?_
  | with_reducible refine k_callN ?_
  | with_reducible refine k_callNS ?_
  | with_reducible refine k_par ?_
  | with_reducible refine k_nPar ?_
  | with_reducible refine k_isNn ?_
  | with_reducible refine k_isNr ?_
  | with_reducible refine k_ntNn ?_
  | with_reducible refine k_ntNr ?_
  | with_reducible refine k_min2 ?_
  | with_reducible refine k_max2 ?_
  | with_reducible refine k_intB ?_
  | with_reducible refine k_intI ?_
  | with_reducible refine k_isBl ?_
  | with_reducible refine k_ntBl ?_
  | ((with_reducible refine' k_var ?kv ?_); (case kv => exact rfl))
  | ((with_reducible refine' k_aug ?kv ?_); (case kv => exact rfl))
  | ((with_reducible refine' k_ix_l ?ks ?ki ?_); (case ks => walk_at "sq"); (case ki => exact rfl))
  | ((with_reducible refine' k_ix_t ?ks ?ki ?_); (case ks => walk_at "st"); (case ki => exact rfl))
  | ((with_reducible refine' k_len_l ?ks ?_); (case ks => walk_at "sq"))
  | ((with_reducible refine' k_len_t ?ks ?_); (case ks => walk_at "st"))
  | ((with_reducible refine' k_setL ?ks ?ki ?_); (case ks => walk_at "hp"); (case ki => exact rfl))
  | ((with_reducible refine' k_nTyL ?ks ?_); (case ks => walk_at "sq"))
  | ((with_reducible refine' k_nItl ?ks ?_); (case ks => walk_at "sq"))
  | ((with_reducible refine' k_nItt ?ks ?_); (case ks => walk_at "st"))
  | ((with_reducible refine' k_nIte ?ks ?_); (case ks => walk_at "sq"))
  | ((with_reducible refine' k_mul ?km ?_); (case km => first | exact Or.inr ⟨by decide, by decide⟩ | exact Or.inl ⟨by decide, by decide⟩))
  | ((with_reducible refine' k_I ?km ?_); (case km => first | assumption | decide | exact ⟨by decide, by decide +kernel⟩ | exact ⟨by decide, by decide, by decide⟩))
  | ((with_reducible refine' k_nMeth ?kp ?kl ?_); (case kp => walk_at "hp"); (case kl => exact rfl))
  | ((with_reducible refine' k_nFld ?kp ?kc ?kn ?kl ?_); (case kp => walk_at "hp"); (case kc => assumption); (case kn => assumption); (case kl => exact rfl))
  | ((with_reducible refine' k_nSFld ?kp ?kc ?kn ?kl ?_); (case kp => walk_at "hp"); (case kc => assumption); (case kn => assumption); (case kl => exact of_decide_eq_true rfl))
  | ((with_reducible refine' k_nDg ?kp ?kl ?_); (case kp => walk_at "hp"); (case kl => exact rfl))
  | ((with_reducible refine' k_nRng1 ?k1 ?k2 ?_); (case k1 => omega); (case k2 => omega))
  | ((with_reducible refine' k_nKw ?k1 ?k2 ?_); (case k1 => exact rfl); (case k2 => exact rfl))
  | ((with_reducible refine' k_hsm ?kh ?_); (case kh => walk_at "hs"))
  | ((with_reducible refine' k_nMethH ?kh ?kl ?_); (case kh => walk_at "hs"); (case kl => exact fun _ _ => rfl))
  | ((with_reducible refine' k_mLet ?kh ?_); (case kh => walk_at "ms"))
  | ((with_reducible refine' k_mChew ?kh ?_); (case kh => walk_at "ms"))
  | ((with_reducible refine' k_mPut ?kh ?_); (case kh => walk_at "ms"))
  | ((with_reducible refine' k_mMost ?kh ?_); (case kh => walk_at "ms"))
  | ((with_reducible refine' k_mCut ?kh ?_); (case kh => walk_at "ms"))
  | ((with_reducible refine' k_gtup ?ks ?kl ?_); (case ks => walk_at "st"); (case kl => exact rfl)))
local macro_rules | `(tactic| walk_at "g") => `(tactic| repeat (walk_at "g1"))
local macro_rules | `(tactic| walk_at "w1") => `(tactic| first
  | walk_at "g1"
  | ((with_reducible refine' k_decT ?kp ?_); (case kp => omega))
  | ((with_reducible refine' k_decF ?kp ?_); (case kp => omega))
  | ((with_reducible refine' k_decNT ?kp ?_); (case kp => omega))
  | ((with_reducible refine' k_decNF ?kp ?_); (case kp => omega)))
local macro_rules | `(tactic| walk_at "w") => `(tactic| repeat (walk_at "w1"))


section
variable {P : Program} {w : World} {K : PySem.W.Frag} {mg : Str → Option Value} {base : Heap} {f : Addr} {fd : FuncData}
/-! ### the law's own look at lots -/
theorem lot_no1 {S : HsD} {z : Str} {ds : List PyData} {us u : List (List Nat)} {rs : List (List (List Nat))} (h : u ∈ rs) (c : fitF S u = false) : lotF S z ds us rs = false := by
  unfold lotF
  rw [List.all_eq_false.mpr ⟨u, h, by rw [c]; exact Bool.false_ne_true⟩, Bool.false_and]
theorem lot_no2 {S : HsD} {z : Str} {ds : List PyData} {us u : List (List Nat)} {rs : List (List (List Nat))} (h : u ∈ rs) (c : fulD S z ds u = true) : lotF S z ds us rs = false := by
  unfold lotF
  rw [List.any_eq_true.mpr ⟨u, h, c⟩, Bool.not_true, Bool.false_and, Bool.and_false, Bool.and_false]
theorem lot_no3 {S : HsD} {z : Str} {ds : List PyData} {us u : List (List Nat)} {rs : List (List (List Nat))} (h : u ∈ rs) (c : ((bitesF S u).all fun x => decide (x.2 ∈ rs)) = false) : lotF S z ds us rs = false := by
  unfold lotF
  rw [List.all_eq_false (p := fun r => (bitesF S r).all fun x => decide (x.2 ∈ rs)) |>.mpr ⟨u, h, by rw [c]; exact Bool.false_ne_true⟩, Bool.and_false, Bool.and_false, Bool.and_false]
theorem lot_end {S : HsD} {z : Str} {ds : List PyData} {us : List (List Nat)} {rs : List (List (List Nat))} (h1 : ∀ u ∈ rs, fitF S u = true) (h2 : ∀ u ∈ rs, fulD S z ds u = false) (h3 : ∀ u ∈ rs, ((bitesF S u).all fun x => decide (x.2 ∈ rs)) = true) : lotF S z ds us rs = decide (us ∈ rs) := by
  unfold lotF
  rw [List.all_eq_true.mpr h1, List.any_eq_false.mpr (fun u hu => by rw [h2 u hu]; exact Bool.false_ne_true), List.all_eq_true (p := fun r => (bitesF S r).all fun x => decide (x.2 ∈ rs)) |>.mpr h3]
  simp
theorem any_rowsD (u : List (List Nat)) : ∀ rs : List (List (List Nat)), ((rs.map dRow).any fun z => PyData.eqv z (dRow u)) = decide (u ∈ rs)
  | [] => by simp
  | r :: rs => by
    rw [List.map_cons, List.any_cons, any_rowsD u rs]
    have e : PyData.eqv (dRow r) (dRow u) = decide (r = u) := eqv_rows r u
    rw [e]
    by_cases c : r = u
    · subst c
      simp
    · rw [decide_eq_false c, Bool.false_or]
      exact decide_eq_decide.mpr ⟨fun h => List.mem_cons_of_mem _ h, fun h => (List.mem_cons.mp h).elim (fun h => absurd h.symm c) id⟩
theorem good_plain {rs : List (List (List Nat))} (h : ∀ v ∈ rs, v.length ≤ 50000 ∧ ∀ u ∈ v, u.length ≤ 1000 ∧ Pl (tx u)) (hl : rs.length ≤ 50000) : Good 4 (.list (rs.map dRow)) := ⟨by rw [List.length_map]; exact hl, fun e he => by
  obtain ⟨v, hv, rfl⟩ := List.mem_map.mp he
  obtain ⟨h1, h2⟩ := h v hv
  exact good_row (fun u hu => ⟨(h2 u hu).2, by have := (h2 u hu).1; omega⟩) h1 1⟩
theorem k_niL {K : PySem.W.Frag} {H : Hp} {Q : VK} {x : V} {p : Addr} {xs : List V} {b : Bool} (hx : SqL K H p xs) (fx : flatV x = true) (fs : xs.all flatV = true) (hi : inV x xs = b) (h : Q (.bl (!b)) H) : rIn K true x (.ref p) H Q := ⟨p, xs, rfl, .inl hx, fx, fs, by
  show Q (.bl (!inV x xs)) H
  rw [hi]
  exact h⟩
def spLIsLot (K : PySem.W.Frag) : Sp := fun vs H Q _ => ∃ (m r t l : Addr) (S : HsD) (us : List (List Nat)) (tr : Bool) (z : Str) (ws : List V) (ds : List PyData) (vs2 : List V) (rs : List (List (List Nat))), vs = [.ref m, .ref r, .ref t, .ref l] ∧ MAt K H m S ∧ HsOk S ∧ SqL K H r (tS us) ∧ AllW S us ∧ us.length ≤ 5000 ∧ SqT K H t (.str z :: ws) ∧ DpAll K H ws ds ∧ isWishD S z ds = true ∧
  SqL K H l vs2 ∧ Paired (RwB K tr H) vs2 rs ∧ rs.length ≤ 20000 ∧ (∀ v ∈ rs, v.length ≤ 5000 ∧ ∀ u ∈ v, u.length ≤ 1000 ∧ Pl (tx u)) ∧ ∀ H', Same H H' → Q (.bl (lotF S z ds us rs)) H'
theorem k_rowsOf {K : PySem.W.Frag} {H : Hp} {tr : Bool} : ∀ {vs : List V} {rs : List (List (List Nat))} {i : Nat} {v : V}, Paired (RwB K tr H) vs rs → vs[i]? = some v → ∃ u, rs[i]? = some u ∧ ∃ r, v = .ref r ∧ RowB K tr H r u := fun h e => paired_at h e
theorem ok_Lis_lot (F : FnP K "_law_is_lot" s_Lis_lot f fd) (hm : mg "_law_is_lot" = some (.ref f)) (f_list : mg "list" = none) (c_Lwords : Callee P w K mg base CX0 "_law_words" 1 [] (spLWords K)) (c_Lbites : Callee P w K mg base CX0 "_law_bites" 3 [] (spLBites K)) (c_Lbehind : Callee P w K mg base CX0 "_law_behind" 2 [] (spLBehind K)) (c_Lfulfils : Callee P w K mg base CX0 "_law_fulfils" 4 [] (spLFul K)) : Callee P w K mg base CX0 "_law_is_lot" 5 [] (spLIsLot K) := by
  refine ⟨f, fd, _, [], F.ok sc_Lis_lot (fun vs H Q E h => ?hl) (fun cdv A outer s H vs Q E hr h => ⟨_, PSs.nox (pss_cons (ps_set (i := 4) sc_Lis_lot.nd rfl (by first | exact Or.inl rfl | exact Or.inr rfl) (pe_cl c_Lwords hr (pa_cons (pv 0) pa_nil) pass0))
      (pss_cons (ps_for PassesOwn.never rfl (pi_listK K (pv 3)) (pg_name (i := 5) sc_Lis_lot.nd rfl (by first | exact Or.inl rfl | exact Or.inr rfl)) (pss_cons (ps_if (PW.pt (pw_or (pt_cmpR (op_neK K hr.units) (pe_lc (own := [("_law_word", 8)]) rfl sc_Lis_lot.nd (pi_anyK K (pv 5)) (blkOk_by (N := ["_law_m", "_law_row_here", "_law_wish_here", "_law_rows", "_law_shelf", "_law_one_here", "_law_place", "_law_edge", "_law_word", "_law_two"]) (sc := defScope s_Lis_lot) (by decide +kernel)) (fun _ _ _ _ _ => (pg_name (i := 8) sc_Lis_lot.nd rfl (by first | exact Or.inl rfl | exact Or.inr rfl))) (fun _ _ _ _ _ => (pts_one (pt_cmpR (op_niK K) (pv 8) (pv 4) (by rfl)))) (fun _ _ _ _ _ => (pv 8))) (pe_lst pa_nil) (nomark _)) (pw_or1 (pt_val (pe_cl c_Lfulfils hr (pa_cons (pv 0) (pa_cons (pv 2) (pa_cons (pv 5) pa_nil))) pass0))))) (pss_one (ps_ret pe_bl)) pss_nil)
      (pss_one (ps_for PassesOwn.never rfl (pi_listK K (pe_cl c_Lbites hr (pa_cons (pv 0) (pa_cons (pe_callTy (call_listK K) (by rfl) f_list (by decide +kernel) (pa_cons (pv 5) pa_nil)) pa_nil)) pass0)) (pg_tupK K 2 (by rfl) (pgs_cons (pg_name (i := 6) sc_Lis_lot.nd rfl (by first | exact Or.inl rfl | exact Or.inr rfl)) (pgs_cons (pg_name (i := 7) sc_Lis_lot.nd rfl (by first | exact Or.inl rfl | exact Or.inr rfl)) pgs_nil))) (pss_one (ps_if (pt_cmpR (op_niLD K (u65 hr)) (pe_cl c_Lbehind hr (pa_cons (pv 0) (pa_cons (pe_callTy (call_listK K) (by rfl) f_list (by decide +kernel) (pa_cons (pv 5) pa_nil)) (pa_cons (pv 6) (pa_cons (pv 7) pa_nil)))) pass0) (pe_lc (own := [("_law_two", 9)]) rfl sc_Lis_lot.nd (pi_listK K (pv 3)) (blkOk_by (N := ["_law_m", "_law_row_here", "_law_wish_here", "_law_rows", "_law_shelf", "_law_one_here", "_law_place", "_law_edge", "_law_word", "_law_two"]) (sc := defScope s_Lis_lot) (by decide +kernel)) (fun _ _ _ _ _ => (pg_name (i := 9) sc_Lis_lot.nd rfl (by first | exact Or.inl rfl | exact Or.inr rfl))) (fun _ _ _ _ _ => pts_nil) (fun _ _ _ _ _ => (pe_callTy (call_listK K) (by rfl) f_list (by decide +kernel) (pa_cons (pv 9) pa_nil)))) (by rfl)) (pss_one (ps_ret pe_bl)) pss_nil))))))
      (pss_one (ps_ret (pe_cmpR (op_inLD K (u65 hr)) (pe_callTy (call_listK K) (by rfl) f_list (by decide +kernel) (pa_cons (pv 1) pa_nil)) (pe_lc (own := [("_law_one_here", 5)]) rfl sc_Lis_lot.nd (pi_listK K (pv 3)) (blkOk_by (N := ["_law_m", "_law_row_here", "_law_wish_here", "_law_rows", "_law_shelf", "_law_one_here", "_law_place", "_law_edge", "_law_word", "_law_two"]) (sc := defScope s_Lis_lot) (by decide +kernel)) (fun _ _ _ _ _ => (pg_name (i := 5) sc_Lis_lot.nd rfl (by first | exact Or.inl rfl | exact Or.inr rfl))) (fun _ _ _ _ _ => pts_nil) (fun _ _ _ _ _ => (pe_callTy (call_listK K) (by rfl) f_list (by decide +kernel) (pa_cons (pv 5) pa_nil)))) (by rfl)))))), ?rd⟩), hm, F.kp, F.bindsN fun _ _ _ _ _ _ us hl => match us, hl with | [_, _, _, _], _ => rfl, .nil⟩
  case hl =>
    obtain ⟨m, r, t, l, S, us, tr, z, ws, ds, vs2, rs, rfl, _⟩ := h
    rfl
  case rd =>
    obtain ⟨m, r, t, l, S, us, tr, z, ws, ds, vs2, rs, rfl, hM, ok, hx, hw, lu, hT, hds, hW, hl, hp, lr, lrw, q⟩ := h
    refine k_start (σ' := [some _, some _, some _, some _, none, none, none, none, none, none]) rfl ?_
    have m3 := ok.m3
    have m1 := ok.m1
    have lv := Paired.length hp
    walk_at "g"
    refine ⟨m, S, rfl, hM, ok, fun p1 H1 n1 s1 e1 => ?_⟩
    have hlz := sm_l s1 hl
    walk_at "g"
    refine k_nFor (walk_list (xs := vs2)) (fun i σ H' => (∃ y5 y6 y7 y8 y9, σ = [some (.ref m), some (.ref r), some (.ref t), some (.ref l), some (.ref p1), y5, y6, y7, y8, y9]) ∧ Same H1 H' ∧ ∀ u ∈ rs.take i, fitF S u = true ∧ fulD S z ds u = false ∧ ((bitesF S u).all fun x => decide (x.2 ∈ rs)) = true) ⟨⟨_, _, _, _, _, rfl⟩, Same.refl _, fun u hu => by rw [List.take_zero] at hu; cases hu⟩ (fun i σ H' _ h => sm_l (s1.trans h.2.1) hl) (fun i x σ Ha Hb hi h hy => ?ht) (fun σ H' h => ?he)
    case he =>
      obtain ⟨⟨y5, y6, y7, y8, y9, rfl⟩, sa, hall⟩ := h
      rw [lv, List.take_length] at hall
      rw [lot_end (fun u hu => (hall u hu).1) (fun u hu => (hall u hu).2.1) (fun u hu => (hall u hu).2.2)] at q
      have s0 := s1.trans sa
      walk_at "g"
      refine k_list_l (sm_l s0 hx) (fun p2 H2 n2 s2 e2 => ?_)
      have s02 := s0.trans s2
      have hp2 := RwB.sm s02 hp
      have hlz := sm_l s02 hl
      walk_at "g"
      refine k_nLcD (walk_list (xs := vs2)) (fun H' s => sm_l (s02.trans s) hl) (fun i zs H3 => DpAll K H3 zs ((rs.take i).map dRow)) (fun i zs Ha Hb s h => dpall_sm s h) .nil (fun i zs Ha hi h => ?hz2) (fun i x p Ha Hb zs Kp Ks hi hp3 sc ea hzs hy hKp hKs => ?ht2) (fun p Hb zs hp3 sb eb hzs => ?he2)
      case hz2 =>
        have := dpall_len h
        rw [List.length_map, List.length_take] at this
        omega
      case ht2 =>
        obtain ⟨rfl, hv⟩ := hy
        obtain ⟨u, hu, ru, rfl, hru⟩ := k_rowsOf hp2 hv
        walk_at "g"
        refine ⟨rfl, ?_⟩
        walk_at "g"
        refine k_list_b (hru.sm sc).sq (fun p4 H4 n4 s4 e4 => ?_)
        refine hKp _ _ s4 ?_
        rw [take_more hu, List.map_append]
        have ntp : p4 ≠ p := fun z => by rw [z, ea] at n4; cases n4
        exact dpall_app (dpall_sm (del_mono s4) hzs) (.lst (sq_l (by rw [del_ne ntp]; exact e4)) (dp_tS u))
      case he2 =>
        rw [lv, List.take_length] at hzs
        have hall2 : ∀ u ∈ rs, AllW S u := fun u hu => (fitF_all ok).mp (hall u hu).1
        refine ⟨dRow us, rs.map dRow, .lst (sq_l (sb _ _ e2)) (dp_tS us), .lst (sq_l eb) hzs, (good_allW ok hw (by omega) 0).shaped (by decide), (good_plain (fun v hv => ⟨by have := (lrw v hv).1; omega, (lrw v hv).2⟩) (by omega)).shaped (by decide), ?_⟩
        rw [any_rowsD]
        exact q _ (s02.trans sb)
    case ht =>
      obtain ⟨⟨y5, y6, y7, y8, y9, rfl⟩, sa, hall⟩ := h
      obtain ⟨rfl, hv⟩ := hy
      have s0 := s1.trans sa
      obtain ⟨u, hu, ru, rfl, hru0⟩ := k_rowsOf hp hv
      have hru := hru0.sm s0
      have hum := List.mem_of_getElem? hu
      obtain ⟨l1, l2⟩ := lrw u hum
      walk_at "g"
      refine k_nItB hru.sq ?_
      refine k_nLc (walk_listB (xs := tS u)) (fun H' s => sm_b s hru.sq) (fun i ws => ws = tS ((u.take i).filter fun x => !isW S (tx x))) rfl (fun i ws hi hw => ?hz3) (fun i x Hc Hd ws3 Kp Ks hi sc hws hy3 hKp hKs => ?ht3) (fun p3 H3 ws3 n3 s3 e3 hws3 => ?he3)
      case hz3 =>
        rw [hw, len_tS]
        have := List.length_filter_le (fun x => !isW S (tx x)) (u.take i)
        rw [List.length_take] at this
        omega
      case ht3 =>
        obtain ⟨rfl, hv3⟩ := hy3
        obtain ⟨x, hx3, rfl⟩ := map_get hv3
        walk_at "g"
        refine ⟨rfl, ?_⟩
        walk_at "g"
        refine k_niL (sq_l (sc _ _ (sa _ _ e1))) rfl (flat_tS _) (b := isW S (tx x)) (by rw [inV_tS, isW_mem (by omega)]) ?_
        cases hwx : isW S (tx x) with
        | true =>
          walk_at "g"
          refine hKs _ (Same.refl _) ?_
          rw [hws, take_more hx3, List.filter_append]
          show tS _ = tS (_ ++ List.filter (fun y => !isW S (tx y)) [x])
          rw [List.filter_cons, hwx, Bool.not_true, if_neg Bool.false_ne_true, List.filter_nil, List.append_nil]
        | false =>
          walk_at "g"
          refine hKp _ _ (Same.refl _) ?_
          rw [hws, take_more hx3, List.filter_append, tS_app]
          show _ = tS _ ++ tS (List.filter (fun y => !isW S (tx y)) [x])
          rw [List.filter_cons, hwx, Bool.not_false, if_pos rfl, List.filter_nil]
          rfl
      case he3 =>
        rw [len_tS, List.take_length] at hws3
        rw [hws3] at e3
        generalize hB : (u.filter fun x => !isW S (tx x)) = B at e3
        have lB : B.length ≤ 5000 := by
          rw [← hB]
          have := List.length_filter_le (fun x => !isW S (tx x)) u
          omega
        have pB : ∀ x ∈ B, Pl (tx x) ∧ x.length ≤ 100000 := fun x hx4 => by
          rw [← hB] at hx4
          have := l2 x (List.mem_filter.mp hx4).1
          exact ⟨this.2, by omega⟩
        have fB : fitF S u = decide (B = []) := by
          unfold fitF
          rw [← hB, Bool.eq_iff_iff, decide_eq_true_iff, List.filter_eq_nil_iff, List.all_eq_true]
          exact ⟨fun h x hx => by rw [h x hx]; decide, fun h x hx => by have := h x hx; simpa using this⟩
        walk_at "g"
        refine k_nLst (by walk_at "sz") (fun p4 H4 n4 s4 e4 => ?_)
        refine k_ne_d (d := .list (B.map fun u => PyData.str (tx u))) (.lst (sq_l (s4 _ _ e3)) (dp_tS B)) (.lst (sq_l e4) .nil) ((good_row pB (by omega) 0).shaped (by decide)) (by decide) ?_
        rw [eqv_nil, show decide ((B.map fun u => PyData.str (tx u)) = []) = decide (B = []) by cases B <;> rfl, ← fB]
        have s04 := s0.trans (s3.trans s4)
        cases hf : fitF S u with
        | false =>
          rw [lot_no1 hum hf] at q
          walk_at "g"
          exact q _ s04
        | true =>
          have hwu := (fitF_all ok).mp hf
          walk_at "g"
          refine ⟨m, t, ru, S, z, ws, ds, u, tr, rfl, hM.sm s04, ok, sm_t s04 hT, dpall_sm s04 hds, hW, (hru0.sm s04).sq, hwu, l1, fun H5 s5 => ?_⟩
          have s05 := s04.trans s5
          cases hfu : fulD S z ds u with
          | true =>
            rw [lot_no2 hum hfu] at q
            walk_at "g"
            exact q _ s05
          | false =>
            walk_at "g"
            refine k_list_b (hru0.sm s05).sq (fun p6 H6 n6 s6 e6 => ?_)
            have s06 := s05.trans s6
            walk_at "g"
            refine ⟨m, p6, S, u, rfl, hM.sm s06, ok, sq_l e6, hwu, by omega, fun p7 ws7 H7 n7 s7 e7 b7 => ?_⟩
            have s07 := s06.trans s7
            have l7 := dpall_len b7
            rw [List.length_map] at l7
            have fl : (bitesF S u).length ≤ 10000 := Nat.le_trans (flat_len (S := S) (us := u) u.length) (by omega)
            walk_at "g"
            refine k_nFor (walk_list (xs := ws7)) (fun j σ H' => (∃ y6 y7 y8 y9, σ = [some (.ref m), some (.ref r), some (.ref t), some (.ref l), some (.ref p1), some (.ref ru), y6, y7, y8, y9]) ∧ Same H7 H' ∧ ∀ x ∈ (bitesF S u).take j, x.2 ∈ rs) ⟨⟨_, _, _, _, rfl⟩, Same.refl _, fun x hx => by rw [List.take_zero] at hx; cases hx⟩ (fun j σ H' _ h => sq_l (h.2.1 _ _ e7)) (fun j x σ Hc Hd hj h hy => ?ht5) (fun σ H' h => ?he5)
            case he5 =>
              obtain ⟨⟨y6, y7, y8, y9, rfl⟩, sb, hin⟩ := h
              rw [l7, List.take_length] at hin
              walk_at "g"
              refine ⟨⟨_, _, _, _, _, rfl⟩, sa.trans (s3.trans (s4.trans (s5.trans (s6.trans (s7.trans sb))))), fun v hv => ?_⟩
              rw [take_more hu] at hv
              rcases List.mem_append.mp hv with hv | hv
              · exact hall v hv
              · rw [List.mem_singleton.mp hv]
                exact ⟨hf, hfu, List.all_eq_true.mpr fun x hx => decide_eq_true (hin x hx)⟩
            case ht5 =>
              obtain ⟨⟨y6, y7, y8, y9, rfl⟩, sb, hin⟩ := h
              obtain ⟨rfl, hv5⟩ := hy
              obtain ⟨dd, hd1, hd2⟩ := dpall_get (dpall_sm sb b7) hv5
              obtain ⟨xb, hxb, rfl⟩ := map_get hd1
              obtain ⟨tb, rfl, htb⟩ := dp_btI hd2
              obtain ⟨hb1, hb2⟩ := bitesF_in.mp (List.mem_of_getElem? hxb)
              have s0b := s07.trans sb
              walk_at "g"
              refine k_list_b (hru0.sm s0b).sq (fun p8 H8 n8 s8 e8 => ?_)
              have s08 := s0b.trans s8
              walk_at "g"
              refine ⟨m, p8, S, u, (xb.1.1 : Nat), sdS xb.1.2, rfl, hM.sm s08, ok, sq_l e8, hwu, by omega, fun v H9 s9 iv => ?_⟩
              rw [behS_sd, hb2] at iv
              obtain ⟨pv, rfl, npv, epv⟩ := iv
              obtain ⟨hw9, lw9⟩ := behF_words ok hwu hb2
              have s09 := s08.trans s9
              have hp9 := RwB.sm s09 hp
              have hlz := sm_l s09 hl
              walk_at "g"
              refine k_nLcD (walk_list (xs := vs2)) (fun H' s => sm_l (s09.trans s) hl) (fun i zs H3 => DpAll K H3 zs ((rs.take i).map dRow)) (fun i zs Ha Hb s h => dpall_sm s h) .nil (fun i zs Ha hi h => ?hz6) (fun i x p Ha Hb zs Kp Ks hi hp3 sc ea hzs hy hKp hKs => ?ht6) (fun p Hb zs hp3 sd eb hzs => ?he6)
              case hz6 =>
                have := dpall_len h
                rw [List.length_map, List.length_take] at this
                omega
              case ht6 =>
                obtain ⟨rfl, hv⟩ := hy
                obtain ⟨u2, hu2, ru2, rfl, hru2⟩ := k_rowsOf hp9 hv
                walk_at "g"
                refine ⟨rfl, ?_⟩
                walk_at "g"
                refine k_list_b (hru2.sm sc).sq (fun p4 H4 n4 s4 e4 => ?_)
                refine hKp _ _ s4 ?_
                rw [take_more hu2, List.map_append]
                have ntp : p4 ≠ p := fun z => by rw [z, ea] at n4; cases n4
                exact dpall_app (dpall_sm (del_mono s4) hzs) (.lst (sq_l (by rw [del_ne ntp]; exact e4)) (dp_tS u2))
              case he6 =>
                rw [lv, List.take_length] at hzs
                refine ⟨dRow xb.2, rs.map dRow, .lst (sq_l (sd _ _ epv)) (dp_tS xb.2), .lst (sq_l eb) hzs, (good_allW ok hw9 (by omega) 0).shaped (by decide), (good_plain (fun v hv => ⟨by have := (lrw v hv).1; omega, (lrw v hv).2⟩) (by omega)).shaped (by decide), ?_⟩
                rw [any_rowsD]
                walk_at "g"
                refine k_bool (fun hno => ?_) (fun hno => ?_)
                · have hno2 : xb.2 ∈ rs := by simpa using hno
                  walk_at "g"
                  refine ⟨⟨_, _, _, _, rfl⟩, sb.trans (s8.trans (s9.trans sd)), fun x hx => ?_⟩
                  rw [take_more hxb] at hx
                  rcases List.mem_append.mp hx with hx | hx
                  · exact hin x hx
                  · rw [List.mem_singleton.mp hx]
                    exact hno2
                · have hno2 : ¬ xb.2 ∈ rs := by simpa using hno
                  rw [lot_no3 hum (List.all_eq_false.mpr ⟨xb, List.mem_of_getElem? hxb, by rw [decide_eq_false hno2]; exact Bool.false_ne_true⟩)] at q
                  walk_at "g"
                  exact q _ (s09.trans sd)
end
end Lw
namespace Lw
open PySem PySem.Spec PyProof.Rows L2 Gk NdefX
open LamX hiding takes0
section
variable {K : PySem.W.Frag}
/-! ### while a dict is gone through: what else stands in the heap -/
section
variable {H H1 : Hp} {d : Addr} {od : Obj} {kvs : List (List Key × V)}
end
end
end Lw
set_option autoImplicit true
set_option pp.maxSteps 1200
set_option Elab.async false
set_option linter.all false
set_option maxRecDepth 100000
set_option maxHeartbeats 1000000
namespace Lw
open PySem PySem.Spec PyProof.Rows L2 Gk
open LamX hiding takes0

local macro_rules | `(tactic| walk_at "hp") => `(tactic| first | assumption | exact upd_same | (refine' (upd_ne ?n).trans ?h; (case n => assumption); (case h => walk_at "hp")) | (refine' sm_get ?s ?h; (case s => assumption); (case h => walk_at "hp")))
local macro_rules | `(tactic| walk_at "sq") => `(tactic| first | assumption | (refine' sq_l ?h; (case h => walk_at "hp")) | (refine' sm_l ?s ?h; (case s => assumption); (case h => walk_at "sq")))
local macro_rules | `(tactic| walk_at "st") => `(tactic| first | assumption | (refine' sq_t ?h; (case h => walk_at "hp")) | (refine' sm_t ?s ?h; (case s => assumption); (case h => walk_at "st")))
local macro_rules | `(tactic| walk_at "bg") => `(tactic| first | assumption | (refine' BagOk.sm ?s ?h; (case s => assumption); (case h => walk_at "bg")))
local macro_rules | `(tactic| walk_at "sm") => `(tactic| first | assumption | exact Same.refl _ | (refine' Same.trans ?h ?s; (case s => assumption); (case h => walk_at "sm")))
local macro_rules | `(tactic| walk_at "hs") => `(tactic| first | assumption | (refine' HsAt.sm ?s ?h; (case s => assumption); (case h => walk_at "hs")))
local macro_rules | `(tactic| walk_at "ms") => `(tactic| first | assumption | (refine' MAt.sm ?s ?h; (case s => assumption); (case h => walk_at "ms")))
local macro_rules | `(tactic| walk_at "dp") => `(tactic| first | assumption | (refine' dp_sm ?s ?h; (case s => assumption); (case h => walk_at "dp")))
local macro_rules | `(tactic| walk_at "sz") => `(tactic| first | decide | assumption | omega | (simp only [List.length_cons, List.length_nil, List.length_map, List.length_append]; omega))
local macro_rules | `(tactic| walk_at "g1") => `(tactic| first
  | with_reducible refine k_seq ?_
  | with_reducible refine k_itB ?_
  | with_reducible refine k_next ?_
  | with_reducible refine k_asg ?_
  | with_reducible refine k_name ?_
  | with_reducible refine k_ret ?_
  | with_reducible refine k_retN ?_
  | with_reducible refine k_drop ?_
  | with_reducible refine k_ifs ?_
  | with_reducible refine k_brk ?_
  | with_reducible refine k_cont ?_
  | with_reducible refine k_ipI ?_
  | with_reducible refine k_test ?_
  | with_reducible refine k_tB ?_
  | with_reducible refine k_bl ?_
  | with_reducible refine k_not ?_
  | with_reducible refine k_and ?_
  | with_reducible refine k_or ?_
  | with_reducible refine k_yes ?_
  | with_reducible refine k_true ?_
  | with_reducible refine k_false ?_
  | with_reducible refine k_nt ?_
  | with_reducible refine k_c ?_
  | with_reducible refine k_op ?_
  | with_reducible refine k_un ?_
  | with_reducible refine k_if ?_
  | with_reducible refine k_chain ?_
  | with_reducible refine k_nil ?_
  | with_reducible refine k_cons ?_
  | with_reducible refine k_cb ?_
  | with_reducible refine k_call ?_
  | with_reducible refine k_callS ?_
  | with_reducible refine k_andV ?_
  | with_reducible refine k_orV ?_
  | with_reducible refine k_notV ?_
  | with_reducible refine k_lst ?_
  | with_reducible refine k_tup ?_
  | with_reducible refine k_nopart ?_
  | with_reducible refine k_part ?_
  | with_reducible refine k_nInt ?_
  | with_reducible refine k_sl ?_
  | with_reducible refine k_bm ?_
  | with_reducible refine k_bm0 ?_
  | with_reducible refine k_nTyS ?_
  | with_reducible refine k_m1 ?_
  | with_reducible refine k_m0 ?_
  | with_reducible refine k_nStr ?_
  | with_reducible refine k_I0 ?_
  | with_reducible refine k_U ?_
  | with_reducible refine k_add_i ?_
  | with_reducible refine k_eq_i ?_
  | with_reducible refine k_eq_s ?_
  | with_reducible refine k_eq_b ?_
  | with_reducible refine k_ne_i ?_
  | with_reducible refine k_ne_s ?_
  | with_reducible refine k_ne_b ?_
  | with_reducible refine k_le_i ?_
  | with_reducible refine k_le_s ?_
  | with_reducible refine k_gnil ?_
  | with_reducible refine k_gcons ?_
  | with_reducible refine k_gsub ?_
  | with_reducible refine k_for ?_
  | with_reducible refine k_lc ?_
  | with_reducible refine k_rng1 ?_
  | with_reducible refine k_rng2 ?_
  | with_reducible refine k_itl ?_
  | with_reducible refine k_itt ?_
  | with_reducible refine k_its ?_
  | with_reducible refine k_ite ?_
  | with_reducible refine k_iteB ?_
  | with_reducible refine k_lrg2 ?_
  | with_reducible refine k_itz ?_
  | with_reducible refine k_nIts ?_
  | with_reducible refine k_inS ?_
  | with_reducible refine k_niS ?_
  | with_reducible refine k_mk ?_
  | with_reducible refine k_meth ?_
  | with_reducible refine k_fld ?_
  | with_reducible refine k_sfld ?_
  | with_reducible refine k_dg ?_
  | with_reducible refine k_dp ?_
  | with_reducible refine k_pr ?_
  | with_reducible refine k_pr0 ?_
  | with_reducible refine k_sg ?_
  | with_reducible refine k_lc2 ?_
  | with_reducible refine k_callN ?_
  | with_reducible refine k_callNS ?_
  | with_reducible refine k_par ?_
  | with_reducible refine k_nPar ?_
  | with_reducible refine k_isNn ?_
  | with_reducible refine k_isNr ?_
  | with_reducible refine k_ntNn ?_
  | with_reducible refine k_ntNr ?_
  | with_reducible refine k_min2 ?_
  | with_reducible refine k_max2 ?_
  | with_reducible refine k_intB ?_
  | with_reducible refine k_intI ?_
  | with_reducible refine k_isBl ?_
  | with_reducible refine k_ntBl ?_
  | ((with_reducible refine' k_var ?kv ?_); (case kv => exact rfl))
  | ((with_reducible refine' k_aug ?kv ?_); (case kv => exact rfl))
  | ((with_reducible refine' k_ix_l ?ks ?ki ?_); (case ks => walk_at "sq"); (case ki => exact rfl))
  | ((with_reducible refine' k_ix_t ?ks ?ki ?_); (case ks => walk_at "st"); (case ki => exact rfl))
  | ((with_reducible refine' k_len_l ?ks ?_); (case ks => walk_at "sq"))
  | ((with_reducible refine' k_len_t ?ks ?_); (case ks => walk_at "st"))
  | ((with_reducible refine' k_setL ?ks ?ki ?_); (case ks => walk_at "hp"); (case ki => exact rfl))
  | ((with_reducible refine' k_nTyL ?ks ?_); (case ks => walk_at "sq"))
  | ((with_reducible refine' k_nItl ?ks ?_); (case ks => walk_at "sq"))
  | ((with_reducible refine' k_nItt ?ks ?_); (case ks => walk_at "st"))
  | ((with_reducible refine' k_nIte ?ks ?_); (case ks => walk_at "sq"))
  | ((with_reducible refine' k_mul ?km ?_); (case km => first | exact Or.inr ⟨by decide, by decide⟩ | exact Or.inl ⟨by decide, by decide⟩))
  | ((with_reducible refine' k_I ?km ?_); (case km => first | assumption | decide | exact ⟨by decide, by decide +kernel⟩ | exact ⟨by decide, by decide, by decide⟩))
  | ((with_reducible refine' k_nMeth ?kp ?kl ?_); (case kp => walk_at "hp"); (case kl => exact rfl))
  | ((with_reducible refine' k_nFld ?kp ?kc ?kn ?kl ?_); (case kp => walk_at "hp"); (case kc => assumption); (case kn => assumption); (case kl => exact rfl))
  | ((with_reducible refine' k_nSFld ?kp ?kc ?kn ?kl ?_); (case kp => walk_at "hp"); (case kc => assumption); (case kn => assumption); (case kl => exact of_decide_eq_true rfl))
  | ((with_reducible refine' k_nDg ?kp ?kl ?_); (case kp => walk_at "hp"); (case kl => exact rfl))
  | ((with_reducible refine' k_nRng1 ?k1 ?k2 ?_); (case k1 => omega); (case k2 => omega))
  | ((with_reducible refine' k_nKw ?k1 ?k2 ?_); (case k1 => exact rfl); (case k2 => exact rfl))
  | ((with_reducible refine' k_hsm ?kh ?_); (case kh => walk_at "hs"))
  | ((with_reducible refine' k_nMethH ?kh ?kl ?_); (case kh => walk_at "hs"); (case kl => exact fun _ _ => rfl))
  | ((with_reducible refine' k_mLet ?kh ?_); (case kh => walk_at "ms"))
  | ((with_reducible refine' k_mChew ?kh ?_); (case kh => walk_at "ms"))
  | ((with_reducible refine' k_mPut ?kh ?_); (case kh => walk_at "ms"))
  | ((with_reducible refine' k_mMost ?kh ?_); (case kh => walk_at "ms"))
  | ((with_reducible refine' k_mCut ?kh ?_); (case kh => walk_at "ms"))
  | ((with_reducible refine' k_gtup ?ks ?kl ?_); (case ks => walk_at "st"); (case kl => exact rfl)))
local macro_rules | `(tactic| walk_at "g") => `(tactic| repeat (walk_at "g1"))
local macro_rules | `(tactic| walk_at "w1") => `(tactic| first
  | walk_at "g1"
  | ((with_reducible refine' k_decT ?kp ?_); (case kp => omega))
  | ((with_reducible refine' k_decF ?kp ?_); (case kp => omega))
  | ((with_reducible refine' k_decNT ?kp ?_); (case kp => omega))
  | ((with_reducible refine' k_decNF ?kp ?_); (case kp => omega)))
local macro_rules | `(tactic| walk_at "w") => `(tactic| repeat (walk_at "w1"))


section
variable {P : Program} {w : World} {K : PySem.W.Frag} {mg : Str → Option Value} {base : Heap} {f : Addr} {fd : FuncData}
/-! ### behind a lambda -/
theorem HsAt.ext {H H' : Hp} {a : Addr} {S : HsD} (s : ExtN H H') (h : HsAt K H a S) : HsAt K H' a S := by
  obtain ⟨dx, r, t, R, L, h1, h2, h3, h4, h5, h6, h7, h8, h9⟩ := h
  exact ⟨dx, r, t, R, L, s _ _ h1 (fun ps z => by cases z), ext_t s h2, fun q hq => ext_t s (h3 q hq), h4, ext_t s h5, fun q hq => ext_t s (h6 q hq), h7, h8, h9⟩
/-- the law's table of code objects -/
abbrev PtL (K : PySem.W.Frag) : Addr := (He.cT K ("law", none)).2
abbrev TbL (K : PySem.W.Frag) (H : Hp) : Prop := Tabs [(PtL K, (envOfC "law" (defScope s_law) 0 0 .none).qual ++ "<lambda>")] H
def spLawT (K : PySem.W.Frag) : Sp := fun vs H Q _ => ∃ (a : Addr) (ns : List Int), vs = [.ref a] ∧ SqL K H a (ns.map V.int) ∧ ns.length ≤ 63 ∧ H (PtL K) = some (.tbl #[]) ∧ ∀ H', Q (.bl true) H'
/-! ### the answer and the word of a refusal -/
structure WhyC (K : PySem.W.Frag) (C : Addr) : Prop where
  F : XfC K C
  nw : PySem.W.findIn K (.ref C) "word" = some none
  ca : PySem.W.exmOne K (.ref C) (.ref (He.ga K "GulpError")) = some true ∨ (PySem.W.exmOne K (.ref C) (.ref (He.ga K "GulpError")) = some false ∧ PySem.W.exmOne K (.ref C) (.ref (He.ga K "MissError")) = some true)
def EWhy (K : PySem.W.Frag) (Q : VK) : XK := fun cls dd H' => ∃ (C d : Addr) (fs : List (Str × V)) (z : Str), cls = .ref C ∧ WhyC K C ∧ dd = some d ∧ H' d = some (.xd fs) ∧ fs.lookup ("word" : Str) = some (.str z) ∧ ∀ T H2, H' T = none → Same H' H2 → H2 T = some (.tup [.non, .str z]) → Q (.ref T) H2
def TWhy (K : PySem.W.Frag) : (XK → Hp → VK → Prop) → Hp → VK → Prop := fun tl H Q => tl (EWhy K Q) H (fun v H' => ∀ T H2, H' T = none → Same H' H2 → H2 T = some (.tup [v, .str (Str.ofString "")]) → Q (.ref T) H2)
theorem k_why {t : XK → TE} {σ : L2.St} {H : Hp} {Q : VK} (h : t (EWhy K Q) σ H (fun v H' => ∀ T H2, H' T = none → Same H' H2 → H2 T = some (.tup [v, .str (Str.ofString "")]) → Q (.ref T) H2)) : TWhy K (fun E H' Q' => t E σ H' Q') H Q := h
theorem whyC1 {x : Str} {k : Nat} {nm fl : Str} (c : XCls P w K mg base x k nm fl) (h : PySem.W.exmOne K (.ref (He.ga K x)) (.ref (He.ga K "GulpError")) = some true) : WhyC K (He.ga K x) := ⟨c.O.F, c.nw, .inl h⟩
theorem whyC0 {x : Str} {k : Nat} {nm : Str} (c : XCls0 P w K mg base x k nm) (h : PySem.W.exmOne K (.ref (He.ga K x)) (.ref (He.ga K "GulpError")) = some true) : WhyC K (He.ga K x) := ⟨c.O.F, c.nw, .inl h⟩
theorem why_x1 {x : Str} {Q : VK} {H' : Hp} {d : Addr} {nm fl : Str} {v : V} (c : WhyC K (He.ga K x)) (hf : fl ≠ "word") (ed : H' d = some (.xd (xfs nm fl v))) (q : ∀ T H2, H' T = none → Same H' H2 → H2 T = some (.tup [.non, .str nm]) → Q (.ref T) H2) : EWhy K Q (.ref (He.ga K x)) (some d) H' := by
  refine ⟨_, d, _, nm, rfl, c, rfl, ed, ?_, q⟩
  unfold xfs
  rw [List.lookup_cons]
  rw [show (("word" : Str) == fl) = false from beq_false_of_ne fun z => hf z.symm]
  exact List.lookup_cons_self
theorem why_x0 {x : Str} {Q : VK} {H' : Hp} {d : Addr} {nm : Str} (c : WhyC K (He.ga K x)) (ed : H' d = some (.xd [("word", .str nm)])) (q : ∀ T H2, H' T = none → Same H' H2 → H2 T = some (.tup [.non, .str nm]) → Q (.ref T) H2) : EWhy K Q (.ref (He.ga K x)) (some d) H' := ⟨_, d, _, nm, rfl, c, rfl, ed, rfl, q⟩
theorem ok_Lwhy (F : FnP K "_law_why" s_Lwhy f fd) (hm : mg "_law_why" = some (.ref f)) (g_GulpError : mg "GulpError" = some (.ref (He.ga K "GulpError"))) (g_MissError : mg "MissError" = some (.ref (He.ga K "MissError"))) (g_NothingLeft : mg "NothingLeft" = some (.ref (He.ga K "NothingLeft"))) : CalleeA P w K mg base "_law_why" (TWhy K) := by
  refine CalleeA.of F hm sc_Lwhy (fun _ _ _ _ _ _ us hl => match us, hl with | [_], _ => rfl) rfl (.inl rfl) (fun cdv A outer q => fun f c' s H Q tl act hc h => ⟨_, PSs.nox (pss_cons (ps_set (i := 1) sc_Lwhy.nd rfl (by first | exact Or.inl rfl | exact Or.inr rfl) pe_non)
      (pss_cons (ps_set (i := 2) sc_Lwhy.nd rfl (by first | exact Or.inl rfl | exact Or.inr rfl) pe_str)
      (Evl.pss_cut (ps_try_manyAs (Wout := fun _ _ _ _ => False) rfl rfl sc_Lwhy.nd takes0
      (fun W pn xe tk po => (pss_one (ps_set (i := 1) sc_Lwhy.nd rfl (by first | exact Or.inl rfl | exact Or.inr rfl) (act W pn xe _ _ tk))))
      (.cons (i := 3) rfl rfl ⟨by rfl, by decide, Or.inl g_GulpError⟩ (fun a oe cls d pn hz hf => (pss_one (ps_set (i := 2) sc_Lwhy.nd rfl (by first | exact Or.inl rfl | exact Or.inr rfl) (pe_xfU K hz hf (pv 3)))))
      (.cons (i := 3) rfl rfl ⟨by rfl, by decide, Or.inl g_MissError⟩ (fun a oe cls d pn hz hf => (pss_one (ps_set (i := 2) sc_Lwhy.nd rfl (by first | exact Or.inl rfl | exact Or.inr rfl) (pe_xfU K hz hf (pv 3)))))
      (.cons (i := 3) rfl rfl ⟨by rfl, by decide, Or.inl g_NothingLeft⟩ (fun a oe cls d pn hz hf => (pss_one (ps_set (i := 2) sc_Lwhy.nd rfl (by first | exact Or.inl rfl | exact Or.inr rfl) (pe_xfU K hz hf (pv 3)))))
      .nil))))
      (pss_one (ps_ret (pe_tup (pa_cons (pv 1) (pa_cons (pv 2) pa_nil)))))))), ?rd⟩)
  case rd =>
    refine k_start (σ' := [some _, none, none, none]) rfl ?_
    walk_at "g"
    with_reducible refine k_cut (fun σ' H' => ∃ (v : V) (z : Str), σ' = [some (.ref f), some v, some (.str z), none] ∧ ∀ T H2, H' T = none → Same H' H2 → H2 T = some (.tup [v, .str z]) → Q (.ref T) H2) ?_ (fun σ' H' hq => ?_)
    · walk_at "g"
      refine ⟨rfl, hc, _, _, fun cls dd H' hE => ?_, fun v H' hQ => ?_, h⟩
      · obtain ⟨C, d, fs, z, rfl, wc, rfl, ed, el, hq⟩ := hE
        rcases wc.ca with h1 | ⟨h1, h2⟩
        · refine ⟨true, h1, fun _ a0 h0 => ?_, fun q => Bool.noConfusion q⟩
          walk_at "g"
          refine ⟨_, d, _, _, rfl, rfl, wc.F, wc.nw, rfl, ed, el, ?_⟩
          walk_at "g"
          exact ⟨_, _, rfl, hq⟩
        · refine ⟨false, h1, fun q => Bool.noConfusion q, fun _ => ⟨true, h2, fun _ a0 h0 => ?_, fun q => Bool.noConfusion q⟩⟩
          walk_at "g"
          refine ⟨_, d, _, _, rfl, rfl, wc.F, wc.nw, rfl, ed, el, ?_⟩
          walk_at "g"
          exact ⟨_, _, rfl, hq⟩
      · walk_at "g"
        exact ⟨_, _, rfl, hQ⟩
    · obtain ⟨v, z, rfl, hq⟩ := hq
      walk_at "g"
      refine k_nTup (by walk_at "sz") (fun T H2 n2 s2 e2 => ?_)
      exact hq T H2 n2 s2 e2
end
end Lw
set_option autoImplicit true
set_option pp.maxSteps 1200
set_option Elab.async false
set_option linter.all false
set_option maxRecDepth 100000
set_option maxHeartbeats 1000000
namespace Lw
open PySem PySem.Spec PyProof.Rows L2 Gk
open LamX hiding takes0

local macro_rules | `(tactic| walk_at "hp") => `(tactic| first | assumption | exact upd_same | (refine' (upd_ne ?n).trans ?h; (case n => assumption); (case h => walk_at "hp")) | (refine' sm_get ?s ?h; (case s => assumption); (case h => walk_at "hp")))
local macro_rules | `(tactic| walk_at "sq") => `(tactic| first | assumption | (refine' sq_l ?h; (case h => walk_at "hp")) | (refine' sm_l ?s ?h; (case s => assumption); (case h => walk_at "sq")))
local macro_rules | `(tactic| walk_at "st") => `(tactic| first | assumption | (refine' sq_t ?h; (case h => walk_at "hp")) | (refine' sm_t ?s ?h; (case s => assumption); (case h => walk_at "st")))
local macro_rules | `(tactic| walk_at "bg") => `(tactic| first | assumption | (refine' BagOk.sm ?s ?h; (case s => assumption); (case h => walk_at "bg")))
local macro_rules | `(tactic| walk_at "sm") => `(tactic| first | assumption | exact Same.refl _ | (refine' Same.trans ?h ?s; (case s => assumption); (case h => walk_at "sm")))
local macro_rules | `(tactic| walk_at "hs") => `(tactic| first | assumption | (refine' HsAt.sm ?s ?h; (case s => assumption); (case h => walk_at "hs")))
local macro_rules | `(tactic| walk_at "ms") => `(tactic| first | assumption | (refine' MAt.sm ?s ?h; (case s => assumption); (case h => walk_at "ms")))
local macro_rules | `(tactic| walk_at "dp") => `(tactic| first | assumption | (refine' dp_sm ?s ?h; (case s => assumption); (case h => walk_at "dp")))
local macro_rules | `(tactic| walk_at "sz") => `(tactic| first | decide | assumption | omega | (simp only [List.length_cons, List.length_nil, List.length_map, List.length_append]; omega))
local macro_rules | `(tactic| walk_at "g1") => `(tactic| first
  | with_reducible refine k_seq ?_
  | with_reducible refine k_itB ?_
  | with_reducible refine k_next ?_
  | with_reducible refine k_asg ?_
  | with_reducible refine k_name ?_
  | with_reducible refine k_ret ?_
  | with_reducible refine k_retN ?_
  | with_reducible refine k_drop ?_
  | with_reducible refine k_ifs ?_
  | with_reducible refine k_brk ?_
  | with_reducible refine k_cont ?_
  | with_reducible refine k_ipI ?_
  | with_reducible refine k_test ?_
  | with_reducible refine k_tB ?_
  | with_reducible refine k_bl ?_
  | with_reducible refine k_not ?_
  | with_reducible refine k_and ?_
  | with_reducible refine k_or ?_
  | with_reducible refine k_yes ?_
  | with_reducible refine k_true ?_
  | with_reducible refine k_false ?_
  | with_reducible refine k_nt ?_
  | with_reducible refine k_c ?_
  | with_reducible refine k_op ?_
  | with_reducible refine k_un ?_
  | with_reducible refine k_if ?_
  | with_reducible refine k_chain ?_
  | with_reducible refine k_nil ?_
  | with_reducible refine k_cons ?_
  | with_reducible refine k_cb ?_
  | with_reducible refine k_call ?_
  | with_reducible refine k_callS ?_
  | with_reducible refine k_andV ?_
  | with_reducible refine k_orV ?_
  | with_reducible refine k_notV ?_
  | with_reducible refine k_lst ?_
  | with_reducible refine k_tup ?_
  | with_reducible refine k_nopart ?_
  | with_reducible refine k_part ?_
  | with_reducible refine k_nInt ?_
  | with_reducible refine k_sl ?_
  | with_reducible refine k_bm ?_
  | with_reducible refine k_bm0 ?_
  | with_reducible refine k_nTyS ?_
  | with_reducible refine k_m1 ?_
  | with_reducible refine k_m0 ?_
  | with_reducible refine k_nStr ?_
  | with_reducible refine k_I0 ?_
  | with_reducible refine k_U ?_
  | with_reducible refine k_add_i ?_
  | with_reducible refine k_eq_i ?_
  | with_reducible refine k_eq_s ?_
  | with_reducible refine k_eq_b ?_
  | with_reducible refine k_ne_i ?_
  | with_reducible refine k_ne_s ?_
  | with_reducible refine k_ne_b ?_
  | with_reducible refine k_le_i ?_
  | with_reducible refine k_le_s ?_
  | with_reducible refine k_gnil ?_
  | with_reducible refine k_gcons ?_
  | with_reducible refine k_gsub ?_
  | with_reducible refine k_for ?_
  | with_reducible refine k_lc ?_
  | with_reducible refine k_rng1 ?_
  | with_reducible refine k_rng2 ?_
  | with_reducible refine k_itl ?_
  | with_reducible refine k_itt ?_
  | with_reducible refine k_its ?_
  | with_reducible refine k_ite ?_
  | with_reducible refine k_iteB ?_
  | with_reducible refine k_lrg2 ?_
  | with_reducible refine k_itz ?_
  | with_reducible refine k_nIts ?_
  | with_reducible refine k_inS ?_
  | with_reducible refine k_niS ?_
  | with_reducible refine k_mk ?_
  | with_reducible refine k_meth ?_
  | with_reducible refine k_fld ?_
  | with_reducible refine k_sfld ?_
  | with_reducible refine k_dg ?_
  | with_reducible refine k_dp ?_
  | with_reducible refine k_pr ?_
  | with_reducible refine k_pr0 ?_
  | with_reducible refine k_sg ?_
  | with_reducible refine k_lc2 ?_
  | with_reducible refine k_callN ?_
  | with_reducible refine k_callNS ?_
  | with_reducible refine k_par ?_
  | with_reducible refine k_nPar ?_
  | with_reducible refine k_isNn ?_
  | with_reducible refine k_isNr ?_
  | with_reducible refine k_ntNn ?_
  | with_reducible refine k_ntNr ?_
  | with_reducible refine k_min2 ?_
  | with_reducible refine k_max2 ?_
  | with_reducible refine k_intB ?_
  | with_reducible refine k_intI ?_
  | with_reducible refine k_isBl ?_
  | with_reducible refine k_ntBl ?_
  | ((with_reducible refine' k_var ?kv ?_); (case kv => exact rfl))
  | ((with_reducible refine' k_aug ?kv ?_); (case kv => exact rfl))
  | ((with_reducible refine' k_ix_l ?ks ?ki ?_); (case ks => walk_at "sq"); (case ki => exact rfl))
  | ((with_reducible refine' k_ix_t ?ks ?ki ?_); (case ks => walk_at "st"); (case ki => exact rfl))
  | ((with_reducible refine' k_len_l ?ks ?_); (case ks => walk_at "sq"))
  | ((with_reducible refine' k_len_t ?ks ?_); (case ks => walk_at "st"))
  | ((with_reducible refine' k_setL ?ks ?ki ?_); (case ks => walk_at "hp"); (case ki => exact rfl))
  | ((with_reducible refine' k_nTyL ?ks ?_); (case ks => walk_at "sq"))
  | ((with_reducible refine' k_nItl ?ks ?_); (case ks => walk_at "sq"))
  | ((with_reducible refine' k_nItt ?ks ?_); (case ks => walk_at "st"))
  | ((with_reducible refine' k_nIte ?ks ?_); (case ks => walk_at "sq"))
  | ((with_reducible refine' k_mul ?km ?_); (case km => first | exact Or.inr ⟨by decide, by decide⟩ | exact Or.inl ⟨by decide, by decide⟩))
  | ((with_reducible refine' k_I ?km ?_); (case km => first | assumption | decide | exact ⟨by decide, by decide +kernel⟩ | exact ⟨by decide, by decide, by decide⟩))
  | ((with_reducible refine' k_nMeth ?kp ?kl ?_); (case kp => walk_at "hp"); (case kl => exact rfl))
  | ((with_reducible refine' k_nFld ?kp ?kc ?kn ?kl ?_); (case kp => walk_at "hp"); (case kc => assumption); (case kn => assumption); (case kl => exact rfl))
  | ((with_reducible refine' k_nSFld ?kp ?kc ?kn ?kl ?_); (case kp => walk_at "hp"); (case kc => assumption); (case kn => assumption); (case kl => exact of_decide_eq_true rfl))
  | ((with_reducible refine' k_nDg ?kp ?kl ?_); (case kp => walk_at "hp"); (case kl => exact rfl))
  | ((with_reducible refine' k_nRng1 ?k1 ?k2 ?_); (case k1 => omega); (case k2 => omega))
  | ((with_reducible refine' k_nKw ?k1 ?k2 ?_); (case k1 => exact rfl); (case k2 => exact rfl))
  | ((with_reducible refine' k_hsm ?kh ?_); (case kh => walk_at "hs"))
  | ((with_reducible refine' k_nMethH ?kh ?kl ?_); (case kh => walk_at "hs"); (case kl => exact fun _ _ => rfl))
  | ((with_reducible refine' k_mLet ?kh ?_); (case kh => walk_at "ms"))
  | ((with_reducible refine' k_mChew ?kh ?_); (case kh => walk_at "ms"))
  | ((with_reducible refine' k_mPut ?kh ?_); (case kh => walk_at "ms"))
  | ((with_reducible refine' k_mMost ?kh ?_); (case kh => walk_at "ms"))
  | ((with_reducible refine' k_mCut ?kh ?_); (case kh => walk_at "ms"))
  | ((with_reducible refine' k_gtup ?ks ?kl ?_); (case ks => walk_at "st"); (case kl => exact rfl)))
local macro_rules | `(tactic| walk_at "g") => `(tactic| repeat (walk_at "g1"))
local macro_rules | `(tactic| walk_at "w1") => `(tactic| first
  | walk_at "g1"
  | ((with_reducible refine' k_decT ?kp ?_); (case kp => omega))
  | ((with_reducible refine' k_decF ?kp ?_); (case kp => omega))
  | ((with_reducible refine' k_decNT ?kp ?_); (case kp => omega))
  | ((with_reducible refine' k_decNF ?kp ?_); (case kp => omega)))
local macro_rules | `(tactic| walk_at "w") => `(tactic| repeat (walk_at "w1"))

local macro_rules | `(tactic| walk_at "g1") => `(tactic| first
  | with_reducible refine k_itk ?_
  | with_reducible refine k_seal ?_)

section
variable {P : Program} {w : World} {K : PySem.W.Frag} {mg : Str → Option Value} {base : Heap} {f : Addr} {fd : FuncData}
/-! ### lists of rows -/
abbrev BR : Type := Addr × List (List Nat)
abbrev rfs (B : List BR) : List V := B.map fun q => V.ref q.1
theorem rfs_app (A B : List BR) : rfs (A ++ B) = rfs A ++ rfs B := List.map_append
def LsAll (H : Hp) (B : List BR) : Prop := ∀ q ∈ B, H q.1 = some (.lst (tS q.2))
theorem LsAll.sm {H H' : Hp} {B : List BR} (s : Same H H') (h : LsAll H B) : LsAll H' B := fun q hq => s _ _ (h q hq)
def LsOk (B : List BR) : Prop := ∀ q ∈ B, q.2.length ≤ 5000 ∧ ∀ u ∈ q.2, u.length ≤ 1000 ∧ Pl (tx u)
theorem ls_rwb {H : Hp} : ∀ {B : List BR}, LsAll H B → Paired (RwB K false H) (rfs B) (B.map (·.2))
  | [], _ => .nil
  | q :: B, h => .cons ⟨q.1, rfl, sq_l (h q (List.mem_cons_self ..))⟩ (ls_rwb fun x hx => h x (List.mem_cons_of_mem _ hx))
theorem ls_dp {H : Hp} : ∀ {B : List BR}, LsAll H B → DpAll K H (rfs B) ((B.map (·.2)).map dRow)
  | [], _ => .nil
  | q :: B, h => .cons (.lst (sq_l (h q (List.mem_cons_self ..))) (dp_tS _)) (ls_dp fun x hx => h x (List.mem_cons_of_mem _ hx))
theorem ls_good {B : List BR} (h : LsOk B) (hl : B.length ≤ 50000) : Good 4 (.list ((B.map (·.2)).map dRow)) := good_plain (fun v hv => by
  obtain ⟨q, hq, rfl⟩ := List.mem_map.mp hv
  exact ⟨by have := (h q hq).1; omega, (h q hq).2⟩) (by rw [List.length_map]; exact hl)
theorem ls_nil {B : List BR} : decide ((B.map (·.2)).map dRow = []) = decide (B = []) := by cases B <;> rfl
def spMixed (K : PySem.W.Frag) : Sp := fun vs H Q _ => ∃ (b r : Addr) (B : List BR), vs = [.ref b, .ref r] ∧ BagOk H b ∧ SqL K H r (rfs B) ∧ LsAll H B ∧ LsOk B ∧ B.length ≤ 1000 ∧ ∀ p B' H', B'.Perm B → H p = none → Same H H' → H' p = some (.lst (rfs B')) → Q (.ref p) H'
theorem ok_Lmixed (F : FnP K "_law_mixed" s_Lmixed f fd) (hm : mg "_law_mixed" = some (.ref f)) (f_len : mg "len" = none) (f_list : mg "list" = none) (c_Lpull : Callee P w K mg base CX0 "_law_pull" 1 [] spPull) : Callee P w K mg base CX0 "_law_mixed" 2 [] (spMixed K) := by
  refine ⟨f, fd, _, [], F.ok sc_Lmixed (fun vs H Q E h => ?hl) (fun cdv A outer s H vs Q E hr h => ⟨_, PSs.nox (pss_cons (ps_set (i := 2) sc_Lmixed.nd rfl (by first | exact Or.inl rfl | exact Or.inr rfl) (pe_callTy (call_listK K) (by rfl) f_list (by decide +kernel) (pa_cons (pv 1) pa_nil)))
      (pss_cons (ps_set (i := 3) sc_Lmixed.nd rfl (by first | exact Or.inl rfl | exact Or.inr rfl) (pe_lst pa_nil))
      (pss_cons (ps_while PassesOwn.never (pt_cmpR (op_neK K hr.units) (pv 2) (pe_lst pa_nil) (nomark _)) (pss_one (ps_expr (pe_bmK K PySem.F.plainAttrs_list PySem.F.slot_list_append PySem.F.type_list_append mt_append (pv 3) (pa_cons (pe_bmK K PySem.F.plainAttrs_list PySem.F.slot_list_pop PySem.F.type_list_pop Gk.mt_pop (pv 2) (pa_cons (pe_cl c_Lpull hr (pa_cons (pv 0) (pa_cons (pe_callB (call_lenK K) (by rfl) f_len PySem.boot_len (pa_cons (pv 2) pa_nil)) pa_nil)) pass0) pa_nil)) pa_nil)))))
      (pss_one (ps_ret (pv 3)))))), ?rd⟩), hm, F.kp, F.bindsN fun _ _ _ _ _ _ us hl => match us, hl with | [_, _], _ => rfl, .nil⟩
  case hl =>
    obtain ⟨b, r, B, rfl, _⟩ := h
    rfl
  case rd =>
    obtain ⟨b, r, B, rfl, hb, hx, hB, hok, lB, q⟩ := h
    refine k_start (σ' := [some _, some _, none, none]) rfl ?_
    walk_at "g"
    refine k_list_l hx (fun pl H1 n1 s1 e1 => ?_)
    walk_at "g"
    refine k_nLst (by walk_at "sz") (fun pf H2 n2 s2 e2 => ?_)
    walk_at "g"
    have n2H : H pf = none := s1.free n2
    have npf : pf ≠ pl := fun z => by rw [z, e1] at n2; cases n2
    refine k_while (fun μ σ H' => σ = [some (.ref b), some (.ref r), some (.ref pl), some (.ref pf)] ∧ ∃ B1 B2 : List BR, (B2 ++ B1).Perm B ∧ Same H H' ∧ H' pl = some (.lst (rfs B1)) ∧ H' pf = some (.lst (rfs B2)) ∧ μ = B1.length) ⟨_, rfl, B, [], .refl _, s1.trans s2, s2 _ _ e1, e2, rfl⟩ (fun μ σ H' h => ?hw)
    obtain ⟨rfl, B1, B2, pm, sa, el, ef, rfl⟩ := h
    have m1 : ∀ x ∈ B1, x ∈ B := fun x hx => pm.mem_iff.mp (List.mem_append_right _ hx)
    have ll := pm.length_eq
    rw [List.length_append] at ll
    have ok1 : LsOk B1 := fun x hx => hok x (m1 x hx)
    have g1 := ls_good ok1 (by omega)
    walk_at "g"
    refine k_nLst (by walk_at "sz") (fun p3 H3 n3 s3 e3 => ?_)
    have hB3 : LsAll H3 B1 := fun x hx => (sa.trans s3) _ _ (hB x (m1 x hx))
    refine k_ne_d (.lst (sq_l (s3 _ _ el)) (ls_dp hB3)) (.lst (sq_l e3) .nil) (g1.shaped (by decide)) (by decide) ?_
    rw [eqv_nil, ls_nil]
    have el3 := s3 _ _ el
    have ef3 := s3 _ _ ef
    have s03 := sa.trans s3
    walk_at "g"
    refine k_turnN (fun hne => k_turnT ?_) (fun he => k_turnF ?_)
    · walk_at "g"
      have l1 : 0 < B1.length := List.length_pos_iff.mpr hne
      rw [show (rfs B1).length = B1.length from List.length_map _]
      refine k_pull (hb.sm s03) (by omega) (by omega) (fun n n0 nl => ?_)
      obtain ⟨n, rfl⟩ : ∃ k : Nat, n = (k : Int) := ⟨n.toNat, by omega⟩
      have nlt : n < B1.length := by omega
      obtain ⟨x, hx⟩ : ∃ x, B1[n]? = some x := ⟨_, List.getElem?_eq_getElem nlt⟩
      have eB : B1 = B1.take n ++ x :: B1.drop (n + 1) := by
        have := (List.getElem?_eq_some_iff.mp hx).2
        rw [← this]
        exact (List.take_append_drop n B1).symm.trans (by rw [List.drop_eq_getElem_cons nlt])
      walk_at "g"
      refine k_pop (i := ((n : Nat) : Int)) (p := rfs (B1.take n)) (y := .ref x.1) (q := rfs (B1.drop (n + 1))) el3 (by rw [← List.map_cons (f := fun q : BR => V.ref q.1), ← List.map_append, ← eB]) (by rw [List.length_map, List.length_take, Nat.min_eq_left (by omega)]) (by rw [List.length_map]; omega) ?_
      walk_at "g"
      refine k_append (by rw [upd_ne npf]; exact ef3) (by rw [List.length_map]; omega) ?_
      walk_at "g"
      refine ⟨(B1.take n ++ B1.drop (n + 1)).length, by rw [List.length_append, List.length_take, List.length_drop]; omega, rfl, B1.take n ++ B1.drop (n + 1), B2 ++ [x], ?_, sm_mut (sm_mut s03 n1) n2H, ?_, ?_, rfl⟩
      · refine List.Perm.trans ?_ pm
        have e2 : B2 ++ B1 = B2 ++ (B1.take n ++ x :: B1.drop (n + 1)) := by rw [← eB]
        rw [e2, List.append_assoc]
        exact List.Perm.append_left B2 (show (x :: (B1.take n ++ B1.drop (n + 1))).Perm _ from List.perm_middle.symm)
      · rw [upd_ne npf.symm, upd_same, rfs_app]
      · rw [upd_same]
        show some (HO.lst (rfs B2 ++ [V.ref x.1])) = some (HO.lst (rfs (B2 ++ [x])))
        unfold rfs
        rw [List.map_append]
        rfl
    · walk_at "g"
      subst he
      rw [List.append_nil] at pm
      exact q pf B2 H3 pm n2H s03 ef3
theorem pl_q : Pl (tx [63]) := fun c hc => by
  rw [tl_tx] at hc
  rw [List.mem_singleton.mp hc]
  decide
theorem no_q {S : HsD} (ok : HsOk S) : isW S (tx [63]) = false := by
  have : decide ((63 : Nat) ∈ S.ls) = false := decide_eq_false fun hm => by
    have := ok.rise.2 63 hm
    unfold small at this
    omega
  unfold isW
  simp [tl_tx, this]
theorem fit_bb (b c : Bool) : Fit 4 (.list [.bool b, .bool c]) := ⟨by show 2 ≤ 50000; decide, fun e he => by
  rcases List.mem_cons.mp he with rfl | he
  · trivial
  · rw [List.mem_singleton.mp he]
    trivial⟩
theorem look_ends : formsV.lookup (Str.ofString "ends") = none := by decide +kernel
/-- what stands at a place of the seven lists -/
structure BentAt (K : PySem.W.Frag) (G H : Hp) (B : List BR) (n : Nat) (v : V) : Prop where
  ex : ∃ p B', v = .ref p ∧ H p = some (.lst (rfs B')) ∧ G p = none ∧ B'.length ≤ n ∧ ∀ q ∈ B', q ∈ B
theorem ok_law (F : FnP K "law" s_law (He.fAd K ("law", none)) fd) (tb : TabB base mg (He.cT K ("law", none)).1 (PtL K)) (f_range : mg "range" = none) (f_list : mg "list" = none) (f_len : mg "len" = none) (f_tuple : mg "tuple" = none) (xm_BadWord_GulpError : PySem.W.exmOne K (.ref (He.ga K "BadWord")) (.ref (He.ga K "GulpError")) = some true) (xm_BadWish_GulpError : PySem.W.exmOne K (.ref (He.ga K "BadWish")) (.ref (He.ga K "GulpError")) = some true)
    (c_BadWord : XCls P w K mg base "BadWord" 1 "BadWord" "at") (c_BadWish : XCls0 P w K mg base "BadWish" 1 "BadWish")
    (c_Lbag : Callee P w K mg base CX0 "_law_bag" 1 [] (spBag K)) (c_Lpull : Callee P w K mg base CX0 "_law_pull" 1 [] spPull) (c_Lone : Callee P w K mg base CX0 "_law_one" 2 [] (spOne K)) (c_Lhouse : Callee P w K mg base CX0 "_law_house" 4 [] (spLHouse K)) (c_Lsame : Callee P w K mg base CX0 "_law_same" 4 [] (spSame K 4))
    (c_Lmade : Callee P w K mg base CX0 "_law_made" 4 [] (spMade K)) (c_Lrow : Callee P w K mg base CX0 "_law_row" 3 [] (spLRow K)) (c_Lsmall_row : Callee P w K mg base CX0 "_law_small_row" 4 [] (spSmall K)) (c_Lwish : Callee P w K mg base CX0 "_law_wish" 5 [] (spLWish K)) (c_Lout : Callee P w K mg base CX0 "_law_out" 4 [] (spLOut K)) (c_Lmixed : Callee P w K mg base CX0 "_law_mixed" 2 [] (spMixed K)) (c_Lis_lot : Callee P w K mg base CX0 "_law_is_lot" 5 [] (spLIsLot K))
    (c_lot_holds : Callee P w K mg base (L2.CX P w) "lot_holds" 7 [] (spLot K)) (c_Lwhy : CalleeA P w K mg base "_law_why" (TWhy K)) : FnOk P w K mg base CX0 10 (He.fAd K ("law", none)) fd ["_law_script"] (spLawT K) := by
  refine okC F sc_law (fun vs H Q E h => ?hl) (fun A outer s H vs Q E hr h => ⟨_, PSs.nox (pss_cons (ps_set (i := 1) sc_law.nd rfl (by first | exact Or.inl rfl | exact Or.inr rfl) (pe_cl c_Lbag hr (pa_cons (pv 0) pa_nil) pass0))
      (pss_cons (ps_for PassesOwn.never rfl (pi_range1 (by rfl) f_range (pa_cons pe_int pa_nil)) (pg_name (i := 2) sc_law.nd rfl (by first | exact Or.inl rfl | exact Or.inr rfl)) (pss_cons (ps_set (i := 3) sc_law.nd rfl (by first | exact Or.inl rfl | exact Or.inr rfl) (pe_cl c_Lhouse hr (pa_cons (pv 1) (pa_cons (pe_cl c_Lone hr (pa_cons (pv 1) (pa_cons (pe_lst (pa_cons pe_str (pa_cons pe_str pa_nil))) pa_nil)) pass0) (pa_cons (pe_cl c_Lone hr (pa_cons (pv 1) (pa_cons (pe_lst (pa_cons pe_int (pa_cons pe_int pa_nil))) pa_nil)) pass0) pa_nil))) pass0))
      (pss_cons (ps_set (i := 4) sc_law.nd rfl (by first | exact Or.inl rfl | exact Or.inr rfl) (pe_cl c_Lmade hr (pa_cons (pv 3) pa_nil) pass0))
      (pss_cons (ps_set (i := 5) sc_law.nd rfl (by first | exact Or.inl rfl | exact Or.inr rfl) (pe_cl c_Lsmall_row hr (pa_cons (pv 1) (pa_cons (pv 3) (pa_cons pe_int pa_nil))) pass0))
      (pss_cons (ps_set (i := 6) sc_law.nd rfl (by first | exact Or.inl rfl | exact Or.inr rfl) (pe_cl c_Lwish hr (pa_cons (pv 1) (pa_cons (pv 3) (pa_cons (pv 5) pa_nil))) pass0))
      (pss_cons (ps_set (i := 7) sc_law.nd rfl (by first | exact Or.inl rfl | exact Or.inr rfl) (pe_slice (sl_k K) (pe_lc (own := [("_law_one_here", 14)]) rfl sc_law.nd (pi_keys (pe_seal (pe_cl c_Lout hr (pa_cons (pv 3) (pa_cons (pv 5) (pa_cons pe_int pa_nil))) pass0))) (blkOk_by (N := ["_law_script", "_law_bag_here", "_law_k", "_law_m", "_law_house_here", "_law_row_here", "_law_wish_here", "_law_rows", "_law_step", "_law_bent", "_law_at", "_law_fork", "_law_handed", "_law_found", "_law_one_here"]) (sc := defScope s_law) (by decide +kernel)) (fun _ _ _ _ _ => (pg_name (i := 14) sc_law.nd rfl (by first | exact Or.inl rfl | exact Or.inr rfl))) (fun _ _ _ _ _ => pts_nil) (fun _ _ _ _ _ => (pe_callTy (call_listK K) (by rfl) f_list (by decide +kernel) (pa_cons (pv 14) pa_nil)))) po_none (po_some pe_int)))
      (pss_cons (ps_for PassesOwn.never rfl (pi_range1 (by rfl) f_range (pa_cons pe_int pa_nil)) (pg_name (i := 8) sc_law.nd rfl (by first | exact Or.inl rfl | exact Or.inr rfl)) (pss_cons (ps_set (i := 9) sc_law.nd rfl (by first | exact Or.inl rfl | exact Or.inr rfl) (pe_cl c_Lmixed hr (pa_cons (pv 1) (pa_cons (pv 7) pa_nil)) pass0))
      (pss_cons (ps_set (i := 10) sc_law.nd rfl (by first | exact Or.inl rfl | exact Or.inr rfl) (pe_cl c_Lpull hr (pa_cons (pv 1) (pa_cons (pe_callB (call_lenK K) (by rfl) f_len PySem.boot_len (pa_cons (pv 9) pa_nil)) pa_nil)) pass0))
      (pss_cons (ps_set (i := 11) sc_law.nd rfl (by first | exact Or.inl rfl | exact Or.inr rfl) (pe_cl c_Lpull hr (pa_cons (pv 1) (pa_cons pe_int pa_nil)) pass0))
      (pss_cons (ps_set (i := 9) sc_law.nd rfl (by first | exact Or.inl rfl | exact Or.inr rfl) (pe_ix (ix_k K) (pe_lst (pa_cons (pv 9) (pa_cons (pe_op (op_addK K) (pe_slice (sl_k K) (pv 9) po_none (po_some (pv 10))) (pe_slice (sl_k K) (pv 9) (po_some (pe_op (op_addK K) (pv 10) pe_int)) po_none)) (pa_cons (pe_op (op_addK K) (pv 9) (pe_slice (sl_k K) (pv 9) (po_some (pv 10)) po_none)) (pa_cons (pv 9) (pa_cons (pv 9) (pa_cons (pv 9) (pa_cons (pe_lst pa_nil) pa_nil)))))))) (pv 11) (fun _ _ => rfl)))
      (Evl.pss_cut (ps_if (pt_cmpR (op_eqK K hr.units) (pv 11) pe_int (nomark _)) (pss_one (ps_expr (pe_bmK K PySem.F.plainAttrs_list PySem.F.slot_list_insert PySem.F.type_list_insert mt_ins (pv 9) (pa_cons (pv 10) (pa_cons (pe_cl c_Lrow hr (pa_cons (pv 1) (pa_cons (pv 3) (pa_cons pe_int pa_nil))) pass0) pa_nil))))) pss_nil)
      (Evl.pss_cut (ps_if (pt_cmpR (op_eqK K hr.units) (pv 11) pe_int (nomark _)) (pss_one (ps_expr (pe_bmK K PySem.F.plainAttrs_list PySem.F.slot_list_insert PySem.F.type_list_insert mt_ins (pv 9) (pa_cons (pv 10) (pa_cons (pe_lst (pa_cons (pe_cl c_Lone hr (pa_cons (pv 1) (pa_cons (pe_lst (pa_cons pe_str (pa_cons pe_str (pa_cons (pe_op op_mulS (pe_ix (ix_k K) (pe_dget (hu_of hr) (pv 3) pe_str (fun _ _ => rfl)) pe_int (fun _ _ => rfl)) pe_int) pa_nil)))) pa_nil)) pass0) pa_nil)) pa_nil))))) pss_nil)
      (pss_cons (ps_setLc (i := 12) (own := [("_law_one_here", 14)]) rfl sc_law.nd rfl rfl (sw_true rfl rfl rfl (by decide +kernel)) (pi_listK K (pv 9)) (blkOk_by (N := ["_law_script", "_law_bag_here", "_law_k", "_law_m", "_law_house_here", "_law_row_here", "_law_wish_here", "_law_rows", "_law_step", "_law_bent", "_law_at", "_law_fork", "_law_handed", "_law_found", "_law_one_here"]) (sc := defScope s_law) (by decide +kernel)) (fun _ _ _ _ _ => (pg_name (i := 14) sc_law.nd rfl (by first | exact Or.inl rfl | exact Or.inr rfl))) (fun _ _ _ _ _ => pts_nil) (fun _ _ _ _ _ => (pe_callTy (call_listK K) (by rfl) f_list (by decide +kernel) (pa_cons (pv 14) pa_nil))))
      (pss_cons (ps_set (i := 13) sc_law.nd rfl (by first | exact Or.inl rfl | exact Or.inr rfl) (pe_lst (pa_cons (pe_cl c_lot_holds hr (pa_cons (pv 4) (pa_cons (pv 5) (pa_cons (pv 6) (pa_cons (pv 12) pa_nil)))) passX) pa_nil)))
      (pss_cons (ps_expr (pe_bmK K PySem.F.plainAttrs_list PySem.F.slot_list_append PySem.F.type_list_append mt_append (pv 13) (pa_cons (pe_cl c_lot_holds hr (pa_cons (pv 4) (pa_cons (pe_callTy (call_tupK K) (by rfl) f_tuple (by decide +kernel) (pa_cons (pv 5) pa_nil)) (pa_cons (pv 6) (pa_cons (pe_lc (own := [("_law_one_here", 14)]) rfl sc_law.nd (pi_listK K (pv 9)) (blkOk_by (N := ["_law_script", "_law_bag_here", "_law_k", "_law_m", "_law_house_here", "_law_row_here", "_law_wish_here", "_law_rows", "_law_step", "_law_bent", "_law_at", "_law_fork", "_law_handed", "_law_found", "_law_one_here"]) (sc := defScope s_law) (by decide +kernel)) (fun _ _ _ _ _ => (pg_name (i := 14) sc_law.nd rfl (by first | exact Or.inl rfl | exact Or.inr rfl))) (fun _ _ _ _ _ => pts_nil) (fun _ _ _ _ _ => (pe_callTy (call_tupK K) (by rfl) f_tuple (by decide +kernel) (pa_cons (pv 14) pa_nil)))) pa_nil)))) passX) pa_nil)))
      (pss_one (ps_if (PW.pt (pw_or (pt_not (pt_val (pe_cl c_Lsame hr (pa_cons (pv 13) (pa_cons (pe_op op_rep (pe_lst (pa_cons (pe_cl c_Lis_lot hr (pa_cons (pv 3) (pa_cons (pv 5) (pa_cons (pv 6) (pa_cons (pv 9) pa_nil)))) pass0) pa_nil)) pe_int) pa_nil)) pass0))) (pw_or1 (pt_cmpR (op_neK K hr.units) (pv 12) (pv 9) (nomark _))))) (pss_one (ps_ret pe_bl)) pss_nil))))))))))))
      (pss_cons (ps_if (pt_cmpR (op_neK K hr.units) (pe_ix (ix_k K) (pe_lamS (k := 7) c_Lwhy ⟨tb, rfl⟩ hr (by rfl) (lamS_by (sc := defScope s_law) (by decide +kernel)) rfl (fun _ _ _ _ _ => rfl) (fun E A outer s H f c' hr => (pe_cl c_lot_holds hr (pa_cons (pv 4) (pa_cons (pe_lst (pa_cons pe_str pa_nil)) (pa_cons (pe_tup (pa_cons pe_str pa_nil)) (pa_cons (pe_lst pa_nil) pa_nil)))) (passE (takes_of rfl rfl rfl rfl))))) pe_int (fun _ _ => rfl)) pe_str (nomark _)) (pss_one (ps_ret pe_bl)) pss_nil)
      (pss_one (ps_if (pt_cmpR (op_neK K hr.units) (pe_ix (ix_k K) (pe_lamS (k := 7) c_Lwhy ⟨tb, rfl⟩ hr (by rfl) (lamS_by (sc := defScope s_law) (by decide +kernel)) rfl (fun _ _ _ _ _ => rfl) (fun E A outer s H f c' hr => (pe_cl c_lot_holds hr (pa_cons (pv 4) (pa_cons (pv 5) (pa_cons (pe_tup (pa_cons pe_str pa_nil)) (pa_cons (pe_lst pa_nil) pa_nil)))) (passE (takes_of rfl rfl rfl rfl))))) pe_int (fun _ _ => rfl)) pe_str (nomark _)) (pss_one (ps_ret pe_bl)) pss_nil))))))))))
      (pss_one (ps_ret pe_bl)))), ?rd⟩)
  case hl =>
    obtain ⟨b, u, rfl, _⟩ := h
    rfl
  case rd =>
    have wc1 := whyC1 c_BadWord xm_BadWord_GulpError
    have wc2 := whyC0 c_BadWish xm_BadWish_GulpError
    obtain ⟨a, ns, rfl, hS, hn, hPt, q⟩ := h
    have hT0 : TbL K H := fun p hp => by rw [List.mem_singleton.mp hp]; exact TabS.nil hPt
    refine k_start (σ' := [some _, none, none, none, none, none, none, none, none, none, none, none, none, none, none]) rfl ?_
    walk_at "g"
    refine ⟨a, ns, rfl, hS, hn, fun b H1 s1 hb => ?_⟩
    have hT1 := tabs_sm s1 hT0
    walk_at "g"
    refine k_nFor walk_range (fun i σ H' => (∃ y2 y3 y4 y5 y6 y7 y8 y9 y10 y11 y12 y13 y14, σ = [some (.ref a), some (.ref b), y2, y3, y4, y5, y6, y7, y8, y9, y10, y11, y12, y13, y14]) ∧ BagOk H' b ∧ TbL K H') ⟨⟨_, _, _, _, _, _, _, _, _, _, _, _, _, rfl⟩, hb, hT1⟩ (fun _ _ _ _ _ => trivial) (fun i x σ Ha Hb hi h hy => ?ht) (fun σ H' h => ?he)
    case he =>
      obtain ⟨⟨y2, y3, y4, y5, y6, y7, y8, y9, y10, y11, y12, y13, y14, rfl⟩, _⟩ := h
      walk_at "g"
      exact q _
    case ht =>
      obtain ⟨⟨y2, y3, y4, y5, y6, y7, y8, y9, y10, y11, y12, y13, y14, rfl⟩, hbA, hTA⟩ := h
      obtain ⟨rfl, rfl⟩ := y_rng hy
      walk_at "g"
      refine k_nLst (by walk_at "sz") (fun p3 H3 n3 s3 e3 => ?_)
      walk_at "g"
      refine ⟨b, .ref p3, rfl, hbA.sm s3, .inl ⟨p3, _, rfl, sq_l e3, by show 0 < 2; decide, by show 2 ≤ 100000; decide, fun v hv => ?_⟩⟩
      obtain ⟨z0, rfl⟩ : ∃ z : Str, v = .str z := by
        rcases List.mem_cons.mp hv with rfl | hv
        · exact ⟨_, rfl⟩
        rcases List.mem_cons.mp hv with rfl | hv
        · exact ⟨_, rfl⟩
        cases hv
      clear hv
      walk_at "g"
      refine k_nLst (by walk_at "sz") (fun p4 H4 n4 s4 e4 => ?_)
      walk_at "g"
      have s34 := s3.trans s4
      refine ⟨b, .ref p4, rfl, hbA.sm s34, .inl ⟨p4, _, rfl, sq_l e4, by show 0 < 2; decide, by show 2 ≤ 100000; decide, fun v hv => ?_⟩⟩
      obtain ⟨mw, rfl, hmw⟩ : ∃ mw : Int, v = .int mw ∧ mw ≤ 14 := by
        rcases List.mem_cons.mp hv with rfl | hv
        · exact ⟨3, rfl, by decide⟩
        rcases List.mem_cons.mp hv with rfl | hv
        · exact ⟨6, rfl, by decide⟩
        cases hv
      clear hv
      walk_at "g"
      refine ⟨b, z0, mw, rfl, hbA.sm s34, hmw, fun S m H2 ok _ s2 hM => ?_⟩
      have hb2 := (hbA.sm s34).sm s2
      walk_at "g"
      refine ⟨m, S, rfl, hM, ok, fun ah H3 n3 s3' hs => ?_⟩
      have hM3 := hM.sm s3'
      have hb3 := hb2.sm s3'
      walk_at "g"
      refine ⟨b, m, S, 5, rfl, hb3, hM3, ok, fun us pr H5 hw lu lf n5 s5 e5 => ?_⟩
      have hb5 := hb3.sm s5
      have hs5 := hs.sm s5
      have hM5 := hM3.sm s5
      have hT5 := tabs_sm s5 (tabs_sm s3' (tabs_sm s2 (tabs_sm s34 hTA)))
      have wl : ∀ u ∈ us, u.length ≤ 1000 := fun u hu => by have := (hw.len ok) u hu; omega
      walk_at "g"
      refine ⟨b, m, pr, S, us, rfl, hb5, hM5, ok, sq_l e5, hw, by omega, fun t H6 z ws ds s6 ht hds hW => ?_⟩
      have lW : ds.length ≤ 100 := by have := hW.len; omega
      have hb6 := hb5.sm s6
      have hs6 := hs5.sm s6
      have hM6 := hM5.sm s6
      have hT6 := tabs_sm s6 hT5
      have er6 := s6 _ _ e5
      walk_at "g"
      refine ⟨m, pr, S, us, 60, rfl, hM6, ok, sq_l er6, hw, by omega, by decide, fun d L H7 hL n7 s7 e7 => ?_⟩
      obtain ⟨k1, k2, k3⟩ := qF_ok ok hw (cap := 60) (mw := none) 61
      rw [show (61 : Nat) = 60 + 1 from rfl, ← hL] at k1 k2 k3
      clear hL
      refine ⟨d, _, rfl, e7, trivial, fun od => ?_⟩
      have s8 : Same H6 (upd H7 d (.frz od (.dT (kdV L)))) := sm_mut s7 n7
      have e8 : (upd H7 d (.frz od (.dT (kdV L)))) d = some (.frz od (.dT (kdV L))) := upd_same
      generalize upd H7 d (.frz od (.dT (kdV L))) = H8 at s8 e8
      walk_at "g"
      refine ⟨d, od, rfl, .inr ⟨_, e8, ?_⟩⟩
      refine k_nLcD walk_keysT (fun H' s => s _ _ e8) (fun i zs H' => ∃ B : List BR, zs = rfs B ∧ B.map Prod.snd = (L.take i).map (·.row) ∧ LsAll H' B) (fun i zs Ha Hb s h => ?hm) ⟨[], rfl, rfl, (fun q hq => nomatch hq)⟩ (fun i zs Ha hi h => ?hz) (fun i x p5 Ha Hb zs Kp Ks hi hp sa ea hzs hy hKp hKs => ?htc) (fun pc Hb zs npc sb eb hzs => ?hec)
      case hm =>
        obtain ⟨B, h1, h2, h3⟩ := h
        exact ⟨B, h1, h2, h3.sm s⟩
      case hz =>
        obtain ⟨B, rfl, h2, _⟩ := h
        rw [List.length_map, ← List.length_map (f := Prod.snd), h2, List.length_map, List.length_take]
        omega
      case htc =>
        obtain ⟨rfl, kk, vv, qa, hkk, rfl, hqa⟩ := hy
        obtain ⟨rr, hrr, e⟩ := map_get hkk
        cases e
        rw [rk_kV] at hqa
        obtain ⟨B, rfl, h2, h3⟩ := hzs
        walk_at "g"
        refine ⟨rfl, ?_⟩
        walk_at "g"
        refine k_list_t (sq_t hqa) (fun p6 H6' n6' s6' e6' => ?_)
        have np6 : p6 ≠ p5 := fun z => by rw [z, ea] at n6'; cases n6'
        refine hKp _ _ s6' ⟨B ++ [(p6, rr.row)], by rw [rfs_app]; rfl, ?_, fun q hq => ?_⟩
        · rw [List.map_append, h2, take_more hrr, List.map_append]
          rfl
        · rcases List.mem_append.mp hq with hq | hq
          · exact (del_mono s6') _ _ (h3 q hq)
          · rw [List.mem_singleton.mp hq]
            show (del _ p5) p6 = _
            rw [del_ne np6]
            exact e6'
      case hec =>
        obtain ⟨B, rfl, h2, h3⟩ := hzs
        rw [show (kdV L).length = L.length from List.length_map _, List.take_length] at h2
        have s68 := s8.trans sb
        walk_at "g"
        refine k_sl_l (sq_l eb) (fun pR H9 n9 s9 e9 => ?_)
        rw [cutV_toI _ _ (by decide), show (rfs B).take (60 : Int).toNat = rfs (B.take 60) from (List.map_take ..).symm] at e9
        have hLs : LsAll H9 (B.take 60) := fun q hq => s9 _ _ (h3 q (List.mem_of_mem_take hq))
        have hOk : LsOk (B.take 60) := fun q hq => by
          have hq2 : q.2 ∈ B.map Prod.snd := List.mem_map_of_mem (List.mem_of_mem_take hq)
          rw [h2] at hq2
          obtain ⟨r, hr, er⟩ := List.mem_map.mp hq2
          obtain ⟨w1, w2⟩ := k1 r hr
          rw [← er]
          exact ⟨by omega, fun u hu => ⟨by have := (w1.len ok) u hu; omega, pl_in ok ((w1.len ok) u hu).2.2⟩⟩
        have lB : (B.take 60).length ≤ 60 := by rw [List.length_take]; omega
        have lB0 : 0 < (B.take 60).length := by
          have h0 : 0 < B.length := by
            rw [← List.length_map (f := Prod.snd), h2, List.length_map]
            obtain ⟨r, hr, _⟩ := List.mem_map.mp k3
            exact List.length_pos_of_mem hr
          rw [List.length_take]
          omega
        generalize B.take 60 = R at e9 hLs hOk lB lB0
        have s69 := s68.trans s9
        have hb9 := hb6.sm s69
        have hs9 := hs6.sm s69
        have hM9 := hM6.sm s69
        have hT9 := tabs_sm s69 hT6
        have er9 := s69 _ _ er6
        have ht9 := sm_t s69 ht
        have hd9 := dpall_sm s69 hds
        clear h2 h3 k1 k2 k3
        walk_at "g"
        refine k_nFor walk_range (fun j σ H' => (∃ y8 y9 y10 y11 y12 y13 y14, σ = [some (.ref a), some (.ref b), some (.int (i : Nat)), some (.ref m), some (.ref ah), some (.ref pr), some (.ref t), some (.ref pR), y8, y9, y10, y11, y12, y13, y14]) ∧ Same H9 H') ⟨⟨_, _, _, _, _, _, _, rfl⟩, Same.refl _⟩ (fun _ _ _ _ _ => trivial) (fun j x σ Hc Hd hj h hy => ?ht2) (fun σ H' h => ?he2)
        case ht2 =>
          obtain ⟨⟨y8, y9, y10, y11, y12, y13, y14, rfl⟩, sc⟩ := h
          obtain ⟨rfl, rfl⟩ := y_rng hy
          walk_at "g"
          refine ⟨b, pR, R, rfl, hb9.sm sc, sq_l (sc _ _ e9), hLs.sm sc, hOk, by omega, fun pm B1 H10 per n10 s10 e10 => ?_⟩
          have lB1 : B1.length = R.length := per.length_eq
          have mB1 : ∀ q ∈ B1, q ∈ R := fun q hq => per.mem_iff.mp hq
          have sc10 := sc.trans s10
          have n10' : H9 pm = none := sc.free n10
          walk_at "g"
          rw [show (rfs B1).length = B1.length from List.length_map _]
          refine k_pull (hb9.sm sc10) (by omega) (by omega) (fun at_ at0 at1 => ?_)
          obtain ⟨at_, rfl⟩ : ∃ k : Nat, at_ = (k : Int) := ⟨at_.toNat, by omega⟩
          walk_at "g"
          refine k_pull (hb9.sm sc10) (by omega) (by omega) (fun fk fk0 fk1 => ?_)
          obtain ⟨fk, rfl⟩ : ∃ k : Nat, fk = (k : Int) := ⟨fk.toNat, by omega⟩
          walk_at "g"
          refine k_sl_l (sq_l e10) (fun pA H11 n11 s11 e11 => ?_)
          walk_at "g"
          refine k_sl_l (sq_l (s11 _ _ e10)) (fun pB H12 n12 s12 e12 => ?_)
          rw [cutV_toI _ _ (by omega), Int.toNat_natCast, show (rfs B1).take at_ = rfs (B1.take at_) from (List.map_take ..).symm] at e11
          rw [cutV_fromI _ _ (by omega), show (((at_ : Nat) : Int) + 1).toNat = at_ + 1 by omega, show (rfs B1).drop (at_ + 1) = rfs (B1.drop (at_ + 1)) from (List.map_drop ..).symm] at e12
          walk_at "g"
          refine k_add_l (s12 _ _ e11) e12 (by rw [List.length_map, List.length_map, List.length_take, List.length_drop]; omega) (fun pC H13 n13 s13 e13 => ?_)
          have s1013 := s11.trans (s12.trans s13)
          walk_at "g"
          refine k_sl_l (sq_l (s1013 _ _ e10)) (fun pD H14 n14 s14 e14 => ?_)
          rw [cutV_fromI _ _ (by omega), Int.toNat_natCast, show (rfs B1).drop at_ = rfs (B1.drop at_) from (List.map_drop ..).symm] at e14
          walk_at "g"
          refine k_add_l (s14 _ _ (s1013 _ _ e10)) e14 (by rw [List.length_map, List.length_map, List.length_drop]; omega) (fun pE H15 n15 s15 e15 => ?_)
          walk_at "g"
          refine k_nLst (by walk_at "sz") (fun pF H16 n16 s16 e16 => ?_)
          walk_at "g"
          refine k_nLst (by walk_at "sz") (fun pG H17 n17 s17 e17 => ?_)
          have s1317 := s14.trans (s15.trans (s16.trans s17))
          have s1017 := s1013.trans s1317
          have sc17 := sc10.trans s1017
          have hbent : ∃ v, [V.ref pm, V.ref pC, V.ref pE, V.ref pm, V.ref pm, V.ref pm, V.ref pF][fk]? = some v ∧ BentAt K H9 H17 R 120 v := by
            have b0 : BentAt K H9 H17 R 120 (.ref pm) := ⟨pm, B1, rfl, s1017 _ _ e10, n10', by omega, mB1⟩
            have bC : BentAt K H9 H17 R 120 (.ref pC) := ⟨pC, B1.take at_ ++ B1.drop (at_ + 1), rfl, by rw [s1317 _ _ e13, rfs_app], sc10.free ((s11.trans s12).free n13), by rw [List.length_append, List.length_take, List.length_drop]; omega, fun q hq => (List.mem_append.mp hq).elim (fun h => mB1 q (List.mem_of_mem_take h)) fun h => mB1 q (List.mem_of_mem_drop h)⟩
            have bE : BentAt K H9 H17 R 120 (.ref pE) := ⟨pE, B1 ++ B1.drop at_, rfl, by rw [(s16.trans s17) _ _ e15, rfs_app], sc10.free (s1013.free (s14.free n15)), by rw [List.length_append, List.length_drop]; omega, fun q hq => (List.mem_append.mp hq).elim (fun h => mB1 q h) fun h => mB1 q (List.mem_of_mem_drop h)⟩
            have bF : BentAt K H9 H17 R 120 (.ref pF) := ⟨pF, [], rfl, s17 _ _ e16, sc10.free (s1013.free (s14.free (s15.free n16))), by show 0 ≤ 120; decide, fun q hq => nomatch hq⟩
            obtain rfl | rfl | rfl | rfl | rfl | rfl | rfl : fk = 0 ∨ fk = 1 ∨ fk = 2 ∨ fk = 3 ∨ fk = 4 ∨ fk = 5 ∨ fk = 6 := by omega
            · exact ⟨_, rfl, b0⟩
            · exact ⟨_, rfl, bC⟩
            · exact ⟨_, rfl, bE⟩
            · exact ⟨_, rfl, b0⟩
            · exact ⟨_, rfl, b0⟩
            · exact ⟨_, rfl, b0⟩
            · exact ⟨_, rfl, bF⟩
          obtain ⟨v, hv, ⟨pb, B2, rfl, eb2, nb2, lb2, mb2⟩⟩ := hbent
          walk_at "g"
          refine k_ix_l (sq_l e17) (at_n rfl hv) ?_
          have hLs2 : LsAll H17 B2 := fun q hq => sc17 _ _ (hLs q (mb2 q hq))
          have hOk2 : LsOk B2 := fun q hq => hOk q (mb2 q hq)
          have ne2 : ∀ q ∈ B2, q.1 ≠ pb := fun q hq z => by
            have h := hLs q (mb2 q hq)
            rw [z, nb2] at h
            cases h
          clear hv e10 e11 e12 e13 e14 e15 e16 e17 mb2
          walk_at "g"
          with_reducible refine k_cut (fun σ' H' => (∃ y12 y13 y14, σ' = [some (.ref a), some (.ref b), some (.int (i : Nat)), some (.ref m), some (.ref ah), some (.ref pr), some (.ref t), some (.ref pR), some (.int (j : Nat)), some (.ref pb), some (.int (at_ : Nat)), some (.int (fk : Nat)), y12, y13, y14]) ∧ Same H9 H' ∧ ∃ B3, H' pb = some (.lst (rfs B3)) ∧ LsAll H' B3 ∧ LsOk B3 ∧ B3.length ≤ 121 ∧ ∀ q ∈ B3, q.1 ≠ pb) ?_ (fun σ' H' hq => ?_)
          · walk_at "g"
            refine k_dec (fun d3 => ?_) (fun d3 => ?_)
            · walk_at "g"
              refine ⟨b, m, S, 3, rfl, hb9.sm sc17, hM9.sm sc17, ok, by decide, fun us8 p8 H18 w8 l8' n18 s18 e18 => ?_⟩
              have npb : p8 ≠ pb := fun z => by rw [z, eb2] at n18; cases n18
              walk_at "g"
              refine k_ins (s18 _ _ eb2) (by rw [List.length_map]; omega) (by omega) (by omega) ?_
              walk_at "g"
              refine ⟨⟨_, _, _, rfl⟩, sm_mut (sc17.trans s18) nb2, B2.take at_ ++ [(p8, us8)] ++ B2.drop at_, ?_, fun q hq => ?_, fun q hq => ?_, by simp only [List.length_append, List.length_take, List.length_drop, List.length_cons, List.length_nil]; omega, fun q hq => ?_⟩
              · rw [upd_same, Int.toNat_natCast]
                simp only [rfs, List.map_append, List.map_take, List.map_drop, List.map_cons, List.map_nil]
              · rcases List.mem_append.mp hq with hq | hq
                · rcases List.mem_append.mp hq with hq | hq
                  · rw [upd_ne (ne2 q (List.mem_of_mem_take hq))]
                    exact s18 _ _ (hLs2 q (List.mem_of_mem_take hq))
                  · rw [List.mem_singleton.mp hq]
                    show (upd _ pb _) p8 = _
                    rw [upd_ne npb]
                    exact e18
                · rw [upd_ne (ne2 q (List.mem_of_mem_drop hq))]
                  exact s18 _ _ (hLs2 q (List.mem_of_mem_drop hq))
              · rcases List.mem_append.mp hq with hq | hq
                · rcases List.mem_append.mp hq with hq | hq
                  · exact hOk2 q (List.mem_of_mem_take hq)
                  · rw [List.mem_singleton.mp hq]
                    exact ⟨by show us8.length ≤ 5000; omega, fun u hu => ⟨by have := (w8.len ok) u hu; omega, pl_in ok ((w8.len ok) u hu).2.2⟩⟩
                · exact hOk2 q (List.mem_of_mem_drop hq)
              · rcases List.mem_append.mp hq with hq | hq
                · rcases List.mem_append.mp hq with hq | hq
                  · exact ne2 q (List.mem_of_mem_take hq)
                  · rw [List.mem_singleton.mp hq]
                    exact npb
                · exact ne2 q (List.mem_of_mem_drop hq)
            · walk_at "g"
              exact ⟨⟨_, _, _, rfl⟩, sc17, B2, eb2, hLs2, hOk2, by omega, ne2⟩
          obtain ⟨⟨z12, z13, z14, rfl⟩, sd, B3, eb3, hLs3, hOk3, lb3, ne3⟩ := hq
          clear eb2 hLs2 hOk2 lb2 ne2 s1017 s1317 s1013 s11 s12 s13 s14 s15 s16 s17 sc17 sc10 s10
          walk_at "g"
          with_reducible refine k_cut (fun σ' H' => (∃ y12 y13 y14, σ' = [some (.ref a), some (.ref b), some (.int (i : Nat)), some (.ref m), some (.ref ah), some (.ref pr), some (.ref t), some (.ref pR), some (.int (j : Nat)), some (.ref pb), some (.int (at_ : Nat)), some (.int (fk : Nat)), y12, y13, y14]) ∧ Same H9 H' ∧ ∃ B3, H' pb = some (.lst (rfs B3)) ∧ LsAll H' B3 ∧ LsOk B3 ∧ B3.length ≤ 122) ?_ (fun σ' H' hq => ?_)
          · walk_at "g"
            refine k_dec (fun d4 => ?_) (fun d4 => ?_)
            · walk_at "g"
              obtain ⟨c, cr, hls⟩ : ∃ c cr, S.ls = c :: cr := by
                cases e : S.ls with
                | nil => have := ok.l1; rw [e] at this; cases this
                | cons c cr => exact ⟨c, cr, rfl⟩
              have hcin : c ∈ S.ls := by rw [hls]; exact List.mem_cons_self ..
              rw [hls]
              refine k_ix_s (c := c) (by rw [len_tx, ← hls]; have := ok.l3; omega) (at_n (j := 0) rfl rfl) ?_
              walk_at "g"
              refine k_mulS ⟨by decide, by decide⟩ (by show 1 ≤ 1000; decide) ?_
              rw [show Txt.mul ⟨#[c]⟩ 4 = tx [c, c, c, c] from rfl]
              walk_at "g"
              refine k_nLst (by walk_at "sz") (fun p18 H18 n18 s18 e18 => ?_)
              walk_at "g"
              refine ⟨b, .ref p18, rfl, hb9.sm (sd.trans s18), .inl ⟨p18, _, rfl, sq_l e18, by show 0 < 3; decide, by show 3 ≤ 100000; decide, fun v hv => ?_⟩⟩
              obtain ⟨u, rfl, hu1, hu2⟩ : ∃ u, v = .str (tx u) ∧ u.length ≤ 1000 ∧ Pl (tx u) := by
                rcases List.mem_cons.mp hv with rfl | hv
                · exact ⟨[63], by rw [show Str.ofString "?" = tx [63] by decide +kernel], by decide, pl_q⟩
                rcases List.mem_cons.mp hv with rfl | hv
                · exact ⟨[], by rw [show Str.ofString "" = tx [] by decide +kernel], by decide, fun c hc => by rw [tl_tx] at hc; cases hc⟩
                rcases List.mem_cons.mp hv with rfl | hv
                · exact ⟨[c, c, c, c], rfl, by show 4 ≤ 1000; decide, pl_in ok fun x hx => by
                    rcases List.mem_cons.mp hx with rfl | hx
                    · exact hcin
                    rcases List.mem_cons.mp hx with rfl | hx
                    · exact hcin
                    rcases List.mem_cons.mp hx with rfl | hx
                    · exact hcin
                    rcases List.mem_cons.mp hx with rfl | hx
                    · exact hcin
                    cases hx⟩
                cases hv
              clear hv
              walk_at "g"
              refine k_nLst (by walk_at "sz") (fun p19 H19 n19 s19 e19 => ?_)
              have s1819 := s18.trans s19
              have npb : p19 ≠ pb := fun z => by rw [z, s18 _ _ eb3] at n19; cases n19
              walk_at "g"
              refine k_ins (s1819 _ _ eb3) (by rw [List.length_map]; omega) (by omega) (by omega) ?_
              walk_at "g"
              refine ⟨⟨_, _, _, rfl⟩, sm_mut (sd.trans s1819) nb2, B3.take at_ ++ [(p19, [u])] ++ B3.drop at_, ?_, fun q hq => ?_, fun q hq => ?_, by simp only [List.length_append, List.length_take, List.length_drop, List.length_cons, List.length_nil]; omega⟩
              · rw [upd_same, Int.toNat_natCast]
                simp only [rfs, List.map_append, List.map_take, List.map_drop, List.map_cons, List.map_nil]
              · rcases List.mem_append.mp hq with hq | hq
                · rcases List.mem_append.mp hq with hq | hq
                  · rw [upd_ne (ne3 q (List.mem_of_mem_take hq))]
                    exact s1819 _ _ (hLs3 q (List.mem_of_mem_take hq))
                  · rw [List.mem_singleton.mp hq]
                    show (upd _ pb _) p19 = _
                    rw [upd_ne npb]
                    exact e19
                · rw [upd_ne (ne3 q (List.mem_of_mem_drop hq))]
                  exact s1819 _ _ (hLs3 q (List.mem_of_mem_drop hq))
              · rcases List.mem_append.mp hq with hq | hq
                · rcases List.mem_append.mp hq with hq | hq
                  · exact hOk3 q (List.mem_of_mem_take hq)
                  · rw [List.mem_singleton.mp hq]
                    exact ⟨by show 1 ≤ 5000; decide, fun x hx => by rw [List.mem_singleton.mp hx]; exact ⟨hu1, hu2⟩⟩
                · exact hOk3 q (List.mem_of_mem_drop hq)
            · walk_at "g"
              exact ⟨⟨_, _, _, rfl⟩, sd, B3, eb3, hLs3, hOk3, by omega⟩
          obtain ⟨⟨w12, w13, w14, rfl⟩, se, B4, eb4, hLs4, hOk4, lb4⟩ := hq
          clear eb3 hLs3 hOk3 lb3 ne3
          walk_at "g"
          have hbx := hb9.sm se
          have hsx := hs9.sm se
          have hMx := hM9.sm se
          have erx := se _ _ er9
          have htx := sm_t se ht9
          have hdx := dpall_sm se hd9
          refine k_nLcD (walk_list (xs := rfs B4)) (fun H' s => sq_l (s _ _ eb4)) (fun i zs H' => ∃ B : List BR, zs = rfs B ∧ B.map Prod.snd = (B4.take i).map (·.2) ∧ LsAll H' B) (fun i zs Ha Hb s h => ?hm3) ⟨[], rfl, rfl, (fun q hq => nomatch hq)⟩ (fun i zs Ha hi h => ?hz3) (fun i x p5 Ha Hb zs Kp Ks hi hp sa ea hzs hy hKp hKs => ?ht3) (fun ph H20 zs nph s20 e20 hzs => ?he3)
          case hm3 =>
            obtain ⟨B, h1, h2, h3⟩ := h
            exact ⟨B, h1, h2, h3.sm s⟩
          case hz3 =>
            obtain ⟨B, rfl, h2, _⟩ := h
            rw [List.length_map, ← List.length_map (f := Prod.snd), h2, List.length_map, List.length_take]
            omega
          case ht3 =>
            obtain ⟨rfl, hv⟩ := hy
            obtain ⟨qq, hqq, rfl⟩ := map_get hv
            obtain ⟨B, rfl, h2, h3⟩ := hzs
            walk_at "g"
            refine ⟨rfl, ?_⟩
            walk_at "g"
            refine k_list_l (sq_l (sa _ _ (hLs4 qq (List.mem_of_getElem? hqq)))) (fun p6 H6' n6' s6' e6' => ?_)
            have np6 : p6 ≠ p5 := fun z => by rw [z, ea] at n6'; cases n6'
            refine hKp _ _ s6' ⟨B ++ [(p6, qq.2)], by rw [rfs_app]; rfl, ?_, fun q hq => ?_⟩
            · rw [List.map_append, h2, take_more hqq, List.map_append]
              rfl
            · rcases List.mem_append.mp hq with hq | hq
              · exact (del_mono s6') _ _ (h3 q hq)
              · rw [List.mem_singleton.mp hq]
                show (del _ p5) p6 = _
                rw [del_ne np6]
                exact e6'
          case he3 =>
            obtain ⟨C, rfl, h2, h3⟩ := hzs
            rw [show (rfs B4).length = B4.length from List.length_map _, List.take_length] at h2
            have lC : C.length = B4.length := by rw [← List.length_map (f := Prod.snd), h2, List.length_map]
            have hR : ∀ v ∈ B4.map (·.2), v.length ≤ 5000 ∧ ∀ u ∈ v, u.length ≤ 1000 ∧ Pl (tx u) := fun v hv => by
              obtain ⟨q, hq, rfl⟩ := List.mem_map.mp hv
              exact hOk4 q hq
            have hR2 : ∀ v ∈ B4.map (·.2), v.length ≤ 5000 ∧ ∀ u ∈ v, u.length ≤ 1000 := fun v hv => ⟨(hR v hv).1, fun u hu => ((hR v hv).2 u hu).1⟩
            have lR : (B4.map (·.2)).length ≤ 122 := by rw [List.length_map]; exact lb4
            have pC : Paired (RwB K false H20) (rfs C) (B4.map (·.2)) := by rw [← h2]; exact ls_rwb h3
            have gR := ls_good hOk4 (by omega)
            have dC : DpAll K H20 (rfs C) ((B4.map (·.2)).map dRow) := by rw [← h2]; exact ls_dp h3
            have hLs20 := hLs4.sm s20
            have dB : DpAll K H20 (rfs B4) ((B4.map (·.2)).map dRow) := ls_dp hLs20
            have pB4 : Paired (RwB K false H20) (rfs B4) (B4.map (·.2)) := ls_rwb hLs20
            have eb20 := s20 _ _ eb4
            clear h2 h3 hLs4
            have bad := hw.bad ok (by omega)
            walk_at "g"
            refine ⟨ah, pr, t, ph, S, us, false, false, z, ws, ds, rfs C, B4.map (·.2), rfl, hsx.sm s20, ok, sq_l (s20 _ _ erx), by omega, wl, sm_t s20 htx, dpall_sm s20 hdx, lW, hW.sm, sq_l e20, pC, by omega, hR2, fun _ _ H21 s21 => ?_, fun _ hn => absurd hn (by rw [hW.is]; exact fun z => by cases z), fun j hj => absurd hj (by rw [bad]; exact fun z => nomatch z)⟩
            have hs21 := hsx.sm (s20.trans s21)
            walk_at "g"
            refine k_nLst (by walk_at "sz") (fun pf H22 n22 s22 e22 => ?_)
            have s2022 := s21.trans s22
            have sx22 := s20.trans s2022
            walk_at "g"
            refine k_tup_l (sq_l (sx22 _ _ erx)) (fun pt H23 n23 s23 e23 => ?_)
            have sx23 := sx22.trans s23
            have s2023 := s2022.trans s23
            walk_at "g"
            refine k_nLcD (walk_list (xs := rfs B4)) (fun H' s => sq_l (s _ _ (s2023 _ _ eb20))) (fun i zs H' => ∃ B : List BR, zs = rfs B ∧ B.map Prod.snd = (B4.take i).map (·.2) ∧ ∀ q ∈ B, H' q.1 = some (.tup (tS q.2))) (fun i zs Ha Hb s h => ?hm4) ⟨[], rfl, rfl, (fun q hq => nomatch hq)⟩ (fun i zs Ha hi h => ?hz4) (fun i x p5 Ha Hb zs Kp Ks hi hp sa ea hzs hy hKp hKs => ?ht4) (fun pg H24 zs npg s24 e24 hzs => ?he4)
            case hm4 =>
              obtain ⟨B, h1, h2, h3⟩ := h
              exact ⟨B, h1, h2, fun q hq => s _ _ (h3 q hq)⟩
            case hz4 =>
              obtain ⟨B, rfl, h2, _⟩ := h
              rw [List.length_map, ← List.length_map (f := Prod.snd), h2, List.length_map, List.length_take]
              omega
            case ht4 =>
              obtain ⟨rfl, hv⟩ := hy
              obtain ⟨qq, hqq, rfl⟩ := map_get hv
              obtain ⟨B, rfl, h2, h3⟩ := hzs
              walk_at "g"
              refine ⟨rfl, ?_⟩
              walk_at "g"
              refine k_tup_l (sq_l (sa _ _ (s2023 _ _ (hLs20 qq (List.mem_of_getElem? hqq))))) (fun p6 H6' n6' s6' e6' => ?_)
              have np6 : p6 ≠ p5 := fun z => by rw [z, ea] at n6'; cases n6'
              refine hKp _ _ s6' ⟨B ++ [(p6, qq.2)], by rw [rfs_app]; rfl, ?_, fun q hq => ?_⟩
              · rw [List.map_append, h2, take_more hqq, List.map_append]
                rfl
              · rcases List.mem_append.mp hq with hq | hq
                · exact (del_mono s6') _ _ (h3 q hq)
                · rw [List.mem_singleton.mp hq]
                  show (del _ p5) p6 = _
                  rw [del_ne np6]
                  exact e6'
            case he4 =>
              obtain ⟨D, rfl, h2, h3⟩ := hzs
              rw [show (rfs B4).length = B4.length from List.length_map _, List.take_length] at h2
              have pD : Paired (RwB K true H24) (rfs D) (B4.map (·.2)) := by
                rw [← h2]
                clear h2 e24
                induction D with
                | nil => exact .nil
                | cons q D ih => exact .cons ⟨q.1, rfl, h3 q (List.mem_cons_self ..)⟩ (ih fun x hx => h3 x (List.mem_cons_of_mem _ hx))
              have sx24 := sx23.trans s24
              have e2324 := s24 _ _ e23
              have e2224 := s24 _ _ (s23 _ _ e22)
              walk_at "g"
              refine ⟨ah, pt, t, pg, S, us, true, true, z, ws, ds, rfs D, B4.map (·.2), rfl, hsx.sm sx24, ok, e2324, by omega, wl, sm_t sx24 htx, dpall_sm sx24 hdx, lW, hW.sm, sq_l e24, pD, by omega, hR2, fun _ _ H25 s25 => ?_, fun _ hn => absurd hn (by rw [hW.is]; exact fun z => by cases z), fun j hj => absurd hj (by rw [bad]; exact fun z => nomatch z)⟩
              walk_at "g"
              refine k_append (s25 _ _ e2224) (by show 1 < 100000; decide) ?_
              have n22x : H' pf = none := (s20.trans s21).free n22
              have eff : (upd H25 pf (.lst ([V.bl (lotF S z ds us (B4.map (·.2)))] ++ [V.bl (lotF S z ds us (B4.map (·.2)))]))) pf = some (.lst [V.bl (lotF S z ds us (B4.map (·.2))), V.bl (lotF S z ds us (B4.map (·.2)))]) := upd_same
              have s26 : Same H' (upd H25 pf (.lst ([V.bl (lotF S z ds us (B4.map (·.2)))] ++ [V.bl (lotF S z ds us (B4.map (·.2)))]))) := sm_mut (sx24.trans s25) n22x
              have s26b : Same H20 (upd H25 pf (.lst ([V.bl (lotF S z ds us (B4.map (·.2)))] ++ [V.bl (lotF S z ds us (B4.map (·.2)))]))) := sm_mut (s2023.trans (s24.trans s25)) (s21.free n22)
              generalize upd H25 pf (.lst ([V.bl (lotF S z ds us (B4.map (·.2)))] ++ [V.bl (lotF S z ds us (B4.map (·.2)))])) = H26 at eff s26 s26b ⊢
              walk_at "g"
              refine ⟨m, pr, t, pb, S, us, false, z, ws, ds, rfs B4, B4.map (·.2), rfl, hMx.sm s26, ok, sq_l (s26 _ _ erx), hw, by omega, sm_t s26 htx, dpall_sm s26 hdx, hW.is, sq_l (s26b _ _ eb20), RwB.sm s26b pB4, by omega, hR, fun H27 s27 => ?_⟩
              walk_at "g"
              refine k_nLst (by walk_at "sz") (fun p28 H28 n28 s28 e28 => ?_)
              walk_at "g"
              refine k_rep e28 ⟨by decide, by decide⟩ (by show 1 ≤ 100; decide) (fun p29 H29 n29 s29 e29 => ?_)
              rw [show (List.replicate (2 : Int).toNat [V.bl (lotF S z ds us (B4.map (·.2)))]).flatten = [V.bl (lotF S z ds us (B4.map (·.2))), V.bl (lotF S z ds us (B4.map (·.2)))] from rfl] at e29
              have s2629 := s27.trans (s28.trans s29)
              refine ⟨_, _, _, rfl, .lst (sq_l (s2629 _ _ eff)) (.cons (.bl _) (.cons (.bl _) .nil)), .lst (sq_l e29) (.cons (.bl _) (.cons (.bl _) .nil)), fit_bb _ _, fun H30 s30 => ?_⟩
              have s2030 := s26b.trans (s2629.trans s30)
              walk_at "g"
              refine k_ne_d (.lst (sq_l (s2030 _ _ e20)) (dpall_sm s2030 dC)) (.lst (sq_l (s2030 _ _ eb20)) (dpall_sm s2030 dB)) (gR.shaped (by decide)) (gR.shaped (by decide)) ?_
              rw [eqv_self gR]
              walk_at "g"
              exact ⟨⟨_, _, _, _, _, _, _, rfl⟩, se.trans (s20.trans s2030)⟩
        case he2 =>
          obtain ⟨⟨y8, y9, y10, y11, y12, y13, y14, rfl⟩, sc⟩ := h
          have hTc := tabs_sm sc hT9
          walk_at "g"
          refine k_lam hTc (fun H51 x51 hT51 => ?_)
          have hs51 := (hs9.sm sc).ext x51
          have hb51 := (hb9.sm sc).ext x51
          have er51 := ext_lst x51 (sc _ _ er9)
          refine k_why ?_
          walk_at "g"
          refine k_nLst (by walk_at "sz") (fun p52 H52 n52 s52 e52 => ?_)
          walk_at "g"
          refine k_nTup (by walk_at "sz") (fun p53 H53 n53 s53 e53 => ?_)
          walk_at "g"
          refine k_nLst (by walk_at "sz") (fun p54 H54 n54 s54 e54 => ?_)
          have s5154 := s52.trans (s53.trans s54)
          have badq : badAt S [[63]] = some 0 := by
            unfold badAt firstBad
            simp [no_q ok]
          have sml : ∀ d ∈ ([] : List PyData), Small d := fun d hd => nomatch hd
          walk_at "g"
          refine ⟨ah, p52, p53, p54, S, [[63]], false, false, Str.ofString "ends", [], [], [], [], rfl, hs51.sm s5154, ok, sq_l (by rw [(s53.trans s54) _ _ e52, show Str.ofString "?" = tx [63] by decide +kernel]; rfl), by decide, fun u hu => by rw [List.mem_singleton.mp hu]; decide, sq_t (s54 _ _ e53), .nil, by decide, sml, sq_l e54, .nil, by decide, fun v hv => (nomatch hv), fun h => absurd h (by rw [badq]; exact fun z => nomatch z), fun h => absurd h (by rw [badq]; exact fun z => nomatch z), fun j hj dd H55 n55 s55 e55 => why_x1 wc1 (by decide) e55 (fun T H56 n56 s56 e56 => ?_)⟩
          have s5156 := s5154.trans (s55.trans s56)
          walk_at "g"
          rw [show decide (Str.ofString "BadWord" = Str.ofString "BadWord") = true by decide +kernel]
          walk_at "g"
          refine k_lam (tabs_sm s5156 hT51) (fun H61 x61 hT61 => ?_)
          have hs61 := (hs51.sm s5156).ext x61
          have hb61 := (hb51.sm s5156).ext x61
          have er61 := ext_lst x61 (s5156 _ _ er51)
          have bad := hw.bad ok (by omega)
          have noW : isWishD S (Str.ofString "ends") [] = false := wish_no1 look_ends
          refine k_why ?_
          walk_at "g"
          refine k_nTup (by walk_at "sz") (fun p63 H63 n63 s63 e63 => ?_)
          walk_at "g"
          refine k_nLst (by walk_at "sz") (fun p64 H64 n64 s64 e64 => ?_)
          have s6164 := s63.trans s64
          walk_at "g"
          refine ⟨ah, pr, p63, p64, S, us, false, false, Str.ofString "ends", [], [], [], [], rfl, hs61.sm s6164, ok, sq_l (s6164 _ _ er61), by omega, wl, sq_t (s64 _ _ e63), .nil, by decide, sml, sq_l e64, .nil, by decide, fun v hv => (nomatch hv), fun _ h => absurd h (by rw [noW]; exact fun z => nomatch z), fun _ _ dd H65 n65 s65 e65 => why_x0 wc2 e65 (fun T H66 n66 s66 e66 => ?_), fun j hj => absurd hj (by rw [bad]; exact fun z => nomatch z)⟩
          have s6166 := s6164.trans (s65.trans s66)
          walk_at "g"
          rw [show decide (Str.ofString "BadWish" = Str.ofString "BadWish") = true by decide +kernel]
          walk_at "g"
          exact ⟨⟨_, _, _, _, _, _, _, _, _, _, _, _, _, rfl⟩, hb61.sm s6166, tabs_sm s6166 hT61⟩
end
end Lw
set_option autoImplicit true
set_option pp.maxSteps 1200
set_option Elab.async false
set_option linter.all false
set_option maxRecDepth 100000
set_option maxHeartbeats 1000000

namespace Lw
open PySem PySem.Spec PyProof.Rows L2 Gk
theorem facts {P : Program} {w : World} {K : PySem.W.Frag} {h : Heap} {mg : Str → Option Value} {f : Addr} (X : K.In h) (G : h.Ns mainGlobals mg) (hfa : mg ("law" : Str) = some (.ref f)) (c : SaysX fa fx fn K) (cf : SaysF fa fx fn [(("law" : Str), (none : Option Str))] dts w h K) :
    ∃ fd : FuncData, (∀ (s : Shared) (v : Value), BindsTo s fd ⟨[v], []⟩ [("_law_script", v)]) ∧ ∀ base : Heap, K.In base → base.Ns mainGlobals mg → LamX.TabB base mg (He.cT K ("law", none)).1 (He.cT K ("law", none)).2 → FnOk P w K mg base CX0 10 f fd ["_law_script"] (spLawT K) := by
  obtain ⟨fd0, F0⟩ := c.def_ 0 (d := dd0) rfl
  obtain ⟨fd1, F1⟩ := c.def_ 1 (d := dd1) rfl
  obtain ⟨fd2, F2⟩ := c.def_ 2 (d := dd2) rfl
  obtain ⟨fd3, F3⟩ := c.def_ 3 (d := dd3) rfl
  obtain ⟨fd4, F4⟩ := c.def_ 4 (d := dd4) rfl
  obtain ⟨fd5, F5⟩ := c.def_ 5 (d := dd5) rfl
  obtain ⟨fd6, F6⟩ := c.def_ 6 (d := dd6) rfl
  obtain ⟨fd7, F7⟩ := c.def_ 7 (d := dd7) rfl
  obtain ⟨fd8, F8⟩ := c.def_ 8 (d := dd8) rfl
  obtain ⟨fd9, F9⟩ := c.def_ 9 (d := dd9) rfl
  obtain ⟨fd10, F10⟩ := c.def_ 10 (d := dd10) rfl
  obtain ⟨fd11, F11⟩ := c.def_ 11 (d := dd11) rfl
  obtain ⟨fd12, F12⟩ := c.def_ 12 (d := dd12) rfl
  obtain ⟨fd13, F13⟩ := c.def_ 13 (d := dd13) rfl
  obtain ⟨fd14, F14⟩ := c.def_ 14 (d := dd14) rfl
  obtain ⟨fd15, F15⟩ := c.def_ 15 (d := dd15) rfl
  obtain ⟨fd16, F16⟩ := c.def_ 16 (d := dd16) rfl
  obtain ⟨fd17, F17⟩ := c.def_ 17 (d := dd17) rfl
  obtain ⟨fd18, F18⟩ := c.def_ 18 (d := dd18) rfl
  obtain ⟨fd19, F19⟩ := c.def_ 19 (d := dd19) rfl
  obtain ⟨fd20, F20⟩ := c.def_ 20 (d := dd20) rfl
  obtain ⟨fd21, F21⟩ := c.def_ 21 (d := dd21) rfl
  obtain ⟨fd22, F22⟩ := c.def_ 22 (d := dd22) rfl
  obtain ⟨fd23, F23⟩ := c.def_ 23 (d := dd23) rfl
  obtain ⟨fd24, F24⟩ := c.def_ 24 (d := dd24) rfl
  obtain ⟨fd25, F25⟩ := c.def_ 25 (d := dd25) rfl
  obtain ⟨fd26, F26⟩ := c.def_ 26 (d := dd26) rfl
  obtain ⟨fd27, F27⟩ := c.def_ 27 (d := dd27) rfl
  obtain ⟨fd28, F28⟩ := c.def_ 28 (d := dd28) rfl
  obtain ⟨fd29, F29⟩ := c.def_ 29 (d := dd29) rfl
  obtain ⟨fd30, F30⟩ := c.def_ 30 (d := dd30) rfl
  obtain ⟨fd31, F31⟩ := c.def_ 31 (d := dd31) rfl
  obtain ⟨fd32, F32⟩ := c.def_ 32 (d := dd32) rfl
  obtain ⟨fd33, F33⟩ := c.def_ 33 (d := dd33) rfl
  obtain ⟨fd34, F34⟩ := c.def_ 34 (d := dd34) rfl
  obtain ⟨fd35, F35⟩ := c.def_ 35 (d := dd35) rfl
  obtain ⟨fd36, F36⟩ := c.def_ 36 (d := dd36) rfl
  obtain ⟨fd37, F37⟩ := c.def_ 37 (d := dd37) rfl
  obtain ⟨fd38, F38⟩ := c.def_ 38 (d := dd38) rfl
  obtain ⟨fd39, F39⟩ := c.def_ 39 (d := dd39) rfl
  obtain ⟨fd40, F40⟩ := c.def_ 40 (d := dd40) rfl
  obtain ⟨fd41, F41⟩ := c.def_ 41 (d := dd41) rfl
  obtain ⟨fd42, F42⟩ := c.def_ 42 (d := dd42) rfl
  obtain ⟨fd43, F43⟩ := c.def_ 43 (d := dd43) rfl
  obtain ⟨fd44, F44⟩ := c.def_ 44 (d := dd44) rfl
  obtain ⟨fd45, F45⟩ := c.def_ 45 (d := dd45) rfl
  obtain ⟨fd46, F46⟩ := c.def_ 46 (d := dd46) rfl
  obtain ⟨fd47, F47⟩ := c.def_ 47 (d := dd47) rfl
  obtain ⟨fd48, F48⟩ := c.def_ 48 (d := dd48) rfl
  obtain ⟨fd49, F49⟩ := c.def_ 49 (d := dd49) rfl
  obtain ⟨fd50, F50⟩ := c.def_ 50 (d := dd50) rfl
  have g_BadWish := He.glo_ok X G (c.fact 0 (f := .glo "BadWish") rfl)
  have g_BadWord := He.glo_ok X G (c.fact 1 (f := .glo "BadWord") rfl)
  have g_FORMS := He.glo_ok X G (c.fact 2 (f := .glo "FORMS") rfl)
  have g_GulpError := He.glo_ok X G (c.fact 3 (f := .glo "GulpError") rfl)
  have g_House := He.glo_ok X G (c.fact 4 (f := .glo "House") rfl)
  have g_MissError := He.glo_ok X G (c.fact 5 (f := .glo "MissError") rfl)
  have g_NothingLeft := He.glo_ok X G (c.fact 6 (f := .glo "NothingLeft") rfl)
  have g_SIDES := He.glo_ok X G (c.fact 7 (f := .glo "SIDES") rfl)
  have g_Lbag := He.glo_ok X G (c.fact 8 (f := .glo "_law_bag") rfl)
  have g_Lbehind := He.glo_ok X G (c.fact 9 (f := .glo "_law_behind") rfl)
  have g_Lbites := He.glo_ok X G (c.fact 10 (f := .glo "_law_bites") rfl)
  have g_Lcut := He.glo_ok X G (c.fact 11 (f := .glo "_law_cut") rfl)
  have g_Lfulfils := He.glo_ok X G (c.fact 12 (f := .glo "_law_fulfils") rfl)
  have g_Lgone := He.glo_ok X G (c.fact 13 (f := .glo "_law_gone") rfl)
  have g_Lgrown := He.glo_ok X G (c.fact 14 (f := .glo "_law_grown") rfl)
  have g_Lhouse := He.glo_ok X G (c.fact 15 (f := .glo "_law_house") rfl)
  have g_Lis_lot := He.glo_ok X G (c.fact 16 (f := .glo "_law_is_lot") rfl)
  have g_Lletters := He.glo_ok X G (c.fact 17 (f := .glo "_law_letters") rfl)
  have g_Lmade := He.glo_ok X G (c.fact 18 (f := .glo "_law_made") rfl)
  have g_Lmeasures := He.glo_ok X G (c.fact 19 (f := .glo "_law_measures") rfl)
  have g_Lmixed := He.glo_ok X G (c.fact 20 (f := .glo "_law_mixed") rfl)
  have g_Lone := He.glo_ok X G (c.fact 21 (f := .glo "_law_one") rfl)
  have g_Lout := He.glo_ok X G (c.fact 22 (f := .glo "_law_out") rfl)
  have g_Lpull := He.glo_ok X G (c.fact 23 (f := .glo "_law_pull") rfl)
  have g_Lrow := He.glo_ok X G (c.fact 24 (f := .glo "_law_row") rfl)
  have g_Lsame := He.glo_ok X G (c.fact 25 (f := .glo "_law_same") rfl)
  have g_Lsmall_row := He.glo_ok X G (c.fact 26 (f := .glo "_law_small_row") rfl)
  have g_Ltaste := He.glo_ok X G (c.fact 27 (f := .glo "_law_taste") rfl)
  have g_Lwhy := He.glo_ok X G (c.fact 28 (f := .glo "_law_why") rfl)
  have g_Lwish := He.glo_ok X G (c.fact 29 (f := .glo "_law_wish") rfl)
  have g_Lwords := He.glo_ok X G (c.fact 30 (f := .glo "_law_words") rfl)
  have g_behind := He.glo_ok X G (c.fact 31 (f := .glo "behind") rfl)
  have g_bites_of := He.glo_ok X G (c.fact 32 (f := .glo "bites_of") rfl)
  have g_cut_long := He.glo_ok X G (c.fact 33 (f := .glo "cut_long") rfl)
  have g_fits := He.glo_ok X G (c.fact 34 (f := .glo "fits") rfl)
  have g_fulfilled := He.glo_ok X G (c.fact 35 (f := .glo "fulfilled") rfl)
  have g_grown := He.glo_ok X G (c.fact 36 (f := .glo "grown") rfl)
  have g_is_number := He.glo_ok X G (c.fact 37 (f := .glo "is_number") rfl)
  have g_is_row := He.glo_ok X G (c.fact 38 (f := .glo "is_row") rfl)
  have g_is_wish := He.glo_ok X G (c.fact 39 (f := .glo "is_wish") rfl)
  have g_is_word := He.glo_ok X G (c.fact 40 (f := .glo "is_word") rfl)
  have g_law := He.glo_ok X G (c.fact 41 (f := .glo "law") rfl)
  have g_letters_in := He.glo_ok X G (c.fact 42 (f := .glo "letters_in") rfl)
  have g_lot_holds := He.glo_ok X G (c.fact 43 (f := .glo "lot_holds") rfl)
  have g_need_eats := He.glo_ok X G (c.fact 44 (f := .glo "need_eats") rfl)
  have g_need_letters := He.glo_ok X G (c.fact 45 (f := .glo "need_letters") rfl)
  have g_need_row := He.glo_ok X G (c.fact 46 (f := .glo "need_row") rfl)
  have g_need_table := He.glo_ok X G (c.fact 47 (f := .glo "need_table") rfl)
  have g_need_wish := He.glo_ok X G (c.fact 48 (f := .glo "need_wish") rfl)
  have g_word_count := He.glo_ok X G (c.fact 49 (f := .glo "word_count") rfl)
  have f_all := He.free_ok X G (c.fact 50 (f := .free "all") rfl)
  have f_any := He.free_ok X G (c.fact 51 (f := .free "any") rfl)
  have f_bool := He.free_ok X G (c.fact 52 (f := .free "bool") rfl)
  have f_enumerate := He.free_ok X G (c.fact 53 (f := .free "enumerate") rfl)
  have f_int := He.free_ok X G (c.fact 54 (f := .free "int") rfl)
  have f_isinstance := He.free_ok X G (c.fact 55 (f := .free "isinstance") rfl)
  have f_len := He.free_ok X G (c.fact 56 (f := .free "len") rfl)
  have f_list := He.free_ok X G (c.fact 57 (f := .free "list") rfl)
  have f_max := He.free_ok X G (c.fact 58 (f := .free "max") rfl)
  have f_min := He.free_ok X G (c.fact 59 (f := .free "min") rfl)
  have f_range := He.free_ok X G (c.fact 60 (f := .free "range") rfl)
  have f_repr := He.free_ok X G (c.fact 61 (f := .free "repr") rfl)
  have f_set := He.free_ok X G (c.fact 62 (f := .free "set") rfl)
  have f_sorted := He.free_ok X G (c.fact 63 (f := .free "sorted") rfl)
  have f_str := He.free_ok X G (c.fact 64 (f := .free "str") rfl)
  have f_sum := He.free_ok X G (c.fact 65 (f := .free "sum") rfl)
  have f_tuple := He.free_ok X G (c.fact 66 (f := .free "tuple") rfl)
  have f_zip := He.free_ok X G (c.fact 67 (f := .free "zip") rfl)
  have c_MOST_ROW := He.int_ok X G (c.fact 68 (f := .int "MOST_ROW" 12) rfl)
  have c_MOST_TASTES := He.int_ok X G (c.fact 69 (f := .int "MOST_TASTES" 4) rfl)
  have c_MOST_WORDS := He.int_ok X G (c.fact 70 (f := .int "MOST_WORDS" 14) rfl)
  have c_SMALL := He.str_ok X G (c.fact 71 (f := .str "SMALL" "abcdefghijklmnopqrstuvwxyz") rfl)
  have a_House := c.fact 72 (f := .cls "House") rfl
  have a_mk := c.fact 73 (f := .mkr "House") rfl
  have n1 := c.fact 74 (f := .noat "House" "signs") rfl
  have n2 := c.fact 75 (f := .noat "House" "rooms") rfl
  have n3 := c.fact 76 (f := .noat "House" "triples") rfl
  have n4 := c.fact 77 (f := .noat "House" "chewed") rfl
  have n5 := c.fact 78 (f := .noat "House" "putting") rfl
  have n6 := c.fact 79 (f := .noat "House" "span") rfl
  have n7 := c.fact 80 (f := .noat "House" "cutting") rfl
  have m_House_letters := c.fact 81 (f := .meth "House" "letters") rfl
  have m_House_most := c.fact 82 (f := .meth "House" "most") rfl
  have m_House_tasted := c.fact 83 (f := .meth "House" "tasted") rfl
  have m_House_chew := c.fact 84 (f := .meth "House" "chew") rfl
  have m_House_put := c.fact 85 (f := .meth "House" "put") rfl
  have m_House_cut := c.fact 86 (f := .meth "House" "cut") rfl
  have x0 := c.more 0 (f := .tup "SIDES" [.str "left", .str "right"]) rfl
  have x1 := c.more 1 (f := .oex "BadWord") rfl
  have x2 := c.more 2 (f := .field "BadWord" "word") rfl
  have x3 := c.more 3 (f := .field "BadWord" "at") rfl
  have x4 := c.more 4 (f := .exm "BadWord" "BadWord" true) rfl
  have x5 := c.more 5 (f := .oex "BadWish") rfl
  have x6 := c.more 6 (f := .field "BadWish" "word") rfl
  have x7 := c.more 7 (f := .exm "BadWord" "GulpError" true) rfl
  have x8 := c.more 8 (f := .exm "BadWish" "GulpError" true) rfl
  have e := hfa.symm.trans g_law
  cases e
  have b := FunD.bindsA (ps := ["_law_script"]) F50 fun _ _ _ _ _ _ us hl => match us, hl with | [_], _ => rfl
  refine ⟨fd50, fun s v => b s [v] rfl, fun base Kb Gb tb => ?_⟩
  have c_FORMS : GloD K w mg "FORMS" [("row", 1), ("word", 1), ("words", 1), ("letters", 1), ("end", 0)] := cf.dict X G (by decide) g_FORMS
  have c_SIDES : GloT K mg "SIDES" [V.str (Str.ofString "left"), V.str (Str.ofString "right")] := ⟨g_SIDES, fun H => He.tupB_ok (vs := [.str "left", .str "right"]) x0 H⟩
  have c_Lbag := ok_Lbag (P := P) (w := w) (K := K) (mg := mg) (base := base) F0 g_Lbag f_len f_list
  have c_Lpull := ok_Lpull (P := P) (w := w) (K := K) (mg := mg) (base := base) F1 g_Lpull f_len
  have c_Lone := ok_Lone (P := P) (w := w) (K := K) (mg := mg) (base := base) F2 g_Lone f_len c_Lpull
  have c_Lsame := ok_Lsame (P := P) (w := w) (K := K) (mg := mg) (base := base) F3 g_Lsame f_len f_isinstance f_list f_tuple f_repr f_zip f_all 4
  have c_Lletters := ok_Lletters (P := P) (w := w) (K := K) (mg := mg) (base := base) F4 g_Lletters f_range f_sorted c_Lpull
  have hC : HsC K := ⟨He.cls_ok a_House, He.noat_ok n1, He.noat_ok n2, He.noat_ok n3, He.noat_ok n4, He.noat_ok n5, He.noat_ok n6, He.noat_ok n7⟩
  have c_word_count := ok_word_count (P := P) (w := w) (K := K) (mg := mg) (base := base) F5 g_word_count f_sum
  have c_need_letters := ok_need_letters (P := P) (w := w) (K := K) (mg := mg) (base := base) F6 g_need_letters f_len f_all f_sorted f_set c_SMALL
  have c_need_table := ok_need_table (P := P) (w := w) (K := K) (mg := mg) (base := base) F7 g_need_table f_len f_all f_enumerate c_MOST_TASTES
  have c_need_eats := ok_need_eats (P := P) (w := w) (K := K) (mg := mg) (base := base) F8 g_need_eats f_enumerate c_SIDES
  have c_House_init := ok_House_init (P := P) (w := w) (K := K) (mg := mg) (base := base) F9 hC f_tuple f_sorted f_all f_len c_MOST_WORDS c_need_eats c_need_table c_word_count c_need_letters
  have c_House_letters := ok_House_letters (P := P) (w := w) (K := K) (mg := mg) (base := base) F10 hC (He.meth_ok m_House_letters)
  have c_House_most := ok_House_most (P := P) (w := w) (K := K) (mg := mg) (base := base) F11 hC (He.meth_ok m_House_most)
  have c_House_tasted := ok_House_tasted (P := P) (w := w) (K := K) (mg := mg) (base := base) F12 hC (He.meth_ok m_House_tasted)
  have c_House_chew := ok_House_chew (P := P) (w := w) (K := K) (mg := mg) (base := base) F13 hC (He.meth_ok m_House_chew)
  have c_House_put := ok_House_put (P := P) (w := w) (K := K) (mg := mg) (base := base) F14 hC (He.meth_ok m_House_put)
  have c_House_cut := ok_House_cut (P := P) (w := w) (K := K) (mg := mg) (base := base) F15 hC (He.meth_ok m_House_cut)
  have c_is_word := ok_is_word (P := P) (w := w) (K := K) (mg := mg) (base := base) F16 g_is_word f_len f_all c_House_letters c_House_most
  have c_BadWord := made_BadWord (P := P) (w := w) (K := K) (mg := mg) (base := base) F17 g_BadWord (oex_ok x1) (of_decide_eq_true x2) (of_decide_eq_true x3)
  have c_need_row := ok_need_row (P := P) (w := w) (K := K) (mg := mg) (base := base) F18 g_need_row f_len f_enumerate c_MOST_ROW c_is_word c_BadWord
  have c_cut_long := ok_cut_long (P := P) (w := w) (K := K) (mg := mg) (base := base) F19 g_cut_long f_len c_House_most c_House_cut
  have c_grown := ok_grown (P := P) (w := w) (K := K) (mg := mg) (base := base) F20 g_grown f_len f_max c_House_put c_House_chew
  have c_behind := ok_behind (P := P) (w := w) (K := K) (mg := mg) (base := base) F21 g_behind hC f_len f_min c_House_tasted c_cut_long c_grown
  have c_bites_of := ok_bites_of (P := P) (w := w) (K := K) (mg := mg) (base := base) F22 g_bites_of f_len f_range c_behind
  have c_is_number := ok_is_number (P := P) (w := w) (K := K) (mg := mg) (base := base) F23 g_is_number f_isinstance f_int f_bool
  have c_is_row := ok_is_row (P := P) (w := w) (K := K) (mg := mg) (base := base) F24 g_is_row f_isinstance f_all f_list f_tuple f_str (of_decide_eq_true x4) c_BadWord c_need_row
  have c_is_wish := ok_is_wish (P := P) (w := w) (K := K) (mg := mg) (base := base) F25 g_is_wish f_isinstance f_len f_str c_FORMS c_is_number c_is_row c_is_word
  have c_BadWish := made_BadWish (P := P) (w := w) (K := K) (mg := mg) (base := base) F26 g_BadWish (oex_ok x5) (of_decide_eq_true x6)
  have c_need_wish := ok_need_wish (P := P) (w := w) (K := K) (mg := mg) (base := base) F27 g_need_wish c_is_wish c_BadWish
  have c_letters_in := ok_letters_in (P := P) (w := w) (K := K) (mg := mg) (base := base) F28 g_letters_in f_len f_sum
  have c_fulfilled := ok_fulfilled (P := P) (w := w) (K := K) (mg := mg) (base := base) F29 g_fulfilled f_len f_list c_letters_in c_bites_of
  have c_fits := ok_fits (P := P) (w := w) (K := K) (mg := mg) (base := base) F30 g_fits f_all c_is_word
  have c_lot_holds := ok_lot_holds (P := P) (w := w) (K := K) (mg := mg) (base := base) F31 g_lot_holds f_all f_any f_list f_tuple c_need_row c_need_wish c_fits c_fulfilled c_bites_of
  have c_Lmeasures := ok_Lmeasures (P := P) (w := w) (K := K) (mg := mg) (base := base) F32 g_Lmeasures c_Lone
  have c_Lhouse := ok_Lhouse (P := P) (w := w) (K := K) (mg := mg) (base := base) F33 g_Lhouse f_range f_tuple f_sum c_Lpull c_Lone c_Lmeasures c_Lletters
  have c_House := House_made F9 g_House (He.mkr_ok a_mk) c_House_init
  have c_Lmade := ok_Lmade (P := P) (w := w) (K := K) (mg := mg) (base := base) F34 g_Lmade f_list c_House
  have c_Lwords := ok_Lwords (P := P) (w := w) (K := K) (mg := mg) (base := base) F35 g_Lwords f_range
  have c_Ltaste := ok_Ltaste (P := P) (w := w) (K := K) (mg := mg) (base := base) F36 g_Ltaste
  have c_Lcut := ok_Lcut (P := P) (w := w) (K := K) (mg := mg) (base := base) F37 g_Lcut f_len
  have c_Lgrown := ok_Lgrown (P := P) (w := w) (K := K) (mg := mg) (base := base) F38 g_Lgrown f_len f_range
  have c_Lbehind := ok_Lbehind (P := P) (w := w) (K := K) (mg := mg) (base := base) F39 g_Lbehind f_len f_min c_Ltaste c_Lcut c_Lgrown
  have c_Lbites := ok_Lbites (P := P) (w := w) (K := K) (mg := mg) (base := base) F40 g_Lbites f_len f_range c_Lbehind
  have c_Lrow := ok_Lrow (P := P) (w := w) (K := K) (mg := mg) (base := base) F41 g_Lrow f_range c_Lpull c_Lone c_Lwords
  have c_Lout := ok_Lout (P := P) (w := w) (K := K) (mg := mg) (base := base) F42 g_Lout f_range f_len f_list f_tuple c_Lbehind c_Lbites
  have c_Lsmall_row := ok_Lsmall_row (P := P) (w := w) (K := K) (mg := mg) (base := base) F43 g_Lsmall_row f_len f_int c_Lrow
  have c_Lgone := ok_Lgone (P := P) (w := w) (K := K) (mg := mg) (base := base) F44 g_Lgone f_len f_min f_max f_isinstance f_list f_range f_int c_Lbites c_Lbehind
  have c_Lwish := ok_Lwish (P := P) (w := w) (K := K) (mg := mg) (base := base) F45 g_Lwish f_range f_len f_tuple c_Lpull c_Lone c_Lwords c_Lrow c_Lgone
  have c_Lfulfils := ok_Lfulfils (P := P) (w := w) (K := K) (mg := mg) (base := base) F46 g_Lfulfils f_len f_list c_Lbites
  have c_Lis_lot := ok_Lis_lot (P := P) (w := w) (K := K) (mg := mg) (base := base) F47 g_Lis_lot f_list c_Lwords c_Lbites c_Lbehind c_Lfulfils
  have c_Lwhy := ok_Lwhy (P := P) (w := w) (K := K) (mg := mg) (base := base) F48 g_Lwhy g_GulpError g_MissError g_NothingLeft
  have c_Lmixed := ok_Lmixed (P := P) (w := w) (K := K) (mg := mg) (base := base) F49 g_Lmixed f_len f_list c_Lpull
  exact ok_law (P := P) (w := w) (K := K) (mg := mg) (base := base) F50 tb f_range f_list f_len f_tuple (of_decide_eq_true x7) (of_decide_eq_true x8) c_BadWord c_BadWish c_Lbag c_Lpull c_Lone c_Lhouse c_Lsame c_Lmade c_Lrow c_Lsmall_row c_Lwish c_Lout c_Lmixed c_Lis_lot c_lot_holds c_Lwhy
end Lw
open PySem PySem.W PySem.Calls PyProof.Rows
theorem PySem.Challenge.cw_gulprow_k20_lots_judged_holds : PySem.Challenge.rw_gulprow_k20_lots_judged.Holds := by
  refine Lw.pre ?hc
  case hc =>
    refine LamX.walk_ofTsE (l := PySem.Challenge.rw_gulprow_k20_lots_judged) (n := 63) (k := 10) (x := "_law_script") (CX := fun _ => L2.CX0) rfl (by decide) (by kernel_rfl) ⟨rfl, by decide, by decide⟩ ?F (fun _ _ _ _ _ z => z)
    intro w mg fa h Y G hmg0
    obtain ⟨K, KX, c⟩ := Y
    have hmg : mg ("law" : PySem.Str) = some (.ref fa) := by
      have e : (HandSHeadRun.topDef (OpenLaw.row PySem.Challenge.rw_gulprow_k20_lots_judged).prog 71).name = ("law" : PySem.Str) := by kernel_rfl
      rw [← e]
      exact hmg0
    obtain ⟨fd, hb, hF⟩ := Lw.facts (P := (PySem.Challenge.rw_gulprow_k20_lots_judged).prog) (w := w) KX G hmg c.l.x c
    have m1 : (("law" : Str), (none : Option Str)) ∈ [(("law" : Str), (none : Option Str))] := List.mem_singleton.mpr rfl
    exact ⟨K, KX, fd, [He.cT K ("law", none)], Lw.spLawT K, fun p hp => by rw [List.mem_singleton.mp hp]; exact c.l.empty _ m1, fun p hp => by rw [List.mem_singleton.mp hp]; exact c.l.out _ m1, fun p hp => by rw [List.mem_singleton.mp hp]; exact PySem.W.codeHd_of_K KX (c.l.hd _ m1), hb, fun H a ns hl _ ht hS => ⟨a, ns, rfl, hS, hl, ht _ (List.mem_singleton.mpr rfl), fun _ => rfl⟩, fun base Kb Gb hT => hF base Kb Gb (hT _ (List.mem_singleton.mpr rfl))⟩
