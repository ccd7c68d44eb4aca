import PyProof.Rows.All
import Wide.All
import OpenK.AllK
import Wide.FinOn
import KE.KStateDown
import HandS.ForMost
import HandS.Exc
import HandS.ExcOwn
import HandS.TryOnly
import HandS.TryMany
import HandS.WordsExc
import HandS.ExcInit
import HandS.ExcField
import HandS.Flow
import HandS.Walk
import HandS.Steps
import HandS.Evl
import HandS.Zip
import HandS.IsInst
import HandS.Wide
import HandS.RaiseMore
import HandS.Defaults
import HandS.More
import HandS.Head0
import HandS.Head1
import HandS.Head2
import HandS.HeadEnd
import HandS.HeadHook1
import HandS.HeadHook2
import Lean
import HandS.Base
import HandS.Call
import HandS.Ends
import HandS.Words
import PySem.Challenge.RW_gulprow_k05_rows_written_and_read
set_option Elab.async false
set_option linter.all false
set_option maxRecDepth 100000
set_option maxHeartbeats 4000000
/-! # The common part: facts of the top, callees, steps of readings -/
namespace Gk
open PySem PySem.Spec PyProof.Rows L2

/-! ## 1. Facts of the top beyond those of the modules -/
/-- an own exception class under ValueError, as ExcInit wants it -/
def oexB (K : PySem.W.Frag) (C : Addr) : Bool := match K.lookup C with
  | some ⟨.type t, _, .cls cd, sl⟩ => (match cd.mro, sl.toList with
    | .ref C' :: bm, [_, _, _, _, some (.builtin n), _] => decide (t = "type") && (decide (C' = C) && (decide (n = "ValueError.__new__") && (!cd.hasDel && (cd.hasDict && PySem.HandSPX.refsVE bm))))
    | _, _ => false)
  | _ => false
theorem oexB_ok {K : PySem.W.Frag} {C : Addr} (q : oexB K C = true) :
    ∃ nm q N bs bm sn sub ab col dd k0 k1 k2 k3 k5, K.lookup C = some (excClassObj nm q C N bs bm true sn sub ab col dd k0 k1 k2 k3 k5 "ValueError.__new__") ∧ PySem.HandSPX.refsVE bm = true := by
  unfold oexB at q
  split at q
  · rename_i t dd cd sl ho
    split at q
    · rename_i C' bm k0 k1 k2 k3 n k5 hm hs
      simp only [Bool.and_eq_true, decide_eq_true_eq, Bool.not_eq_true'] at q
      obtain ⟨rfl, rfl, rfl, hdel, hdct, ht⟩ := q
      obtain ⟨nm, bs, mro, ns, qn, hd, sn, sub, ab, col, del⟩ := cd
      dsimp only at hm hdel hdct
      subst hm hdel hdct
      have hsl : sl = #[k0, k1, k2, k3, some (.builtin "ValueError.__new__"), k5] := by
        obtain ⟨l⟩ := sl
        simp only at hs
        rw [hs]
      subst hsl
      exact ⟨nm, qn, ns, bs, bm, sn, sub, ab, col, dd, k0, k1, k2, k3, k5, ho, ht⟩
    · cases q
  · cases q
inductive Fx where
  /-- an exception class with an __init__ of its own -/
  | oex (x : Str)
  /-- the class is an exception's (what a clause names) -/
  | exc (x : Str)
  | field (x f : Str)
  | exm (x y : Str) (b : Bool)
  | str (x z : Str)
  | tup (x : Str) (vs : List He.Dv)
def Fx.ok (K : PySem.W.Frag) : Fx → Bool
  | .oex x => oexB K (He.ga K x) && (decide (PySem.W.findIn K (.ref (He.ga K x)) "__setattr__" = some (some (.builtin "object.__setattr__"))) && (decide (PySem.W.subIn K (.ref (He.ga K x)) (.type "BaseException") = some true) && (decide (PySem.W.typeIn K (.ref (He.ga K x)) = some (.type "type")) &&
      (PySem.W.keepIn K (.ref (He.ga K x)) && (decide (PySem.W.findIn K (.ref (He.ga K x)) "__init__" = some (some (.ref (He.ma K (He.ga K x) "__init__")))) && (decide (PySem.W.typeIn K (.ref (He.ma K (He.ga K x) "__init__")) = some (.type "function")) && xfB K (He.ga K x)))))))
  | .exc x => decide (PySem.W.subIn K (.ref (He.ga K x)) (.type "BaseException") = some true) && decide (PySem.W.typeIn K (.ref (He.ga K x)) = some (.type "type"))
  | .field x f => decide (PySem.W.findIn K (.ref (He.ga K x)) f = some none)
  | .exm x y b => decide (PySem.W.exmOne K (.ref (He.ga K x)) (.ref (He.ga K y)) = some b)
  | .str x z => (match PySem.W.nsIn K mainGlobals x with
    | some (some (.str y _)) => decide (y = z)
    | _ => false)
  | .tup x vs => He.tupB K x vs
/-- an exception class of the text, made by its own __init__ -/
structure Oex (K : PySem.W.Frag) (C fI : Addr) : Prop where
  T : OexC K C
  iC : PySem.W.findIn K (.ref C) "__init__" = some (some (.ref fI))
  tI : PySem.W.typeIn K (.ref fI) = some (.type "function")
  F : XfC K C
theorem ba {a b : Bool} (h : (a && b) = true) : a = true ∧ b = true := Bool.and_eq_true_iff.mp h
theorem oex_ok {K : PySem.W.Frag} {x : Str} (h : (Fx.oex x).ok K = true) : Oex K (He.ga K x) (He.ma K (He.ga K x) "__init__") := by
  obtain ⟨h1, h⟩ := ba h
  obtain ⟨h2, h⟩ := ba h
  obtain ⟨h3, h⟩ := ba h
  obtain ⟨h4, h⟩ := ba h
  obtain ⟨h5, h⟩ := ba h
  obtain ⟨h6, h⟩ := ba h
  obtain ⟨h7, h8⟩ := ba h
  exact ⟨⟨oexB_ok h1, of_decide_eq_true h2, of_decide_eq_true h3, of_decide_eq_true h4, h5⟩, of_decide_eq_true h6, of_decide_eq_true h7, xfB_ok h8⟩

/-! ## 2. The head's Hook -/
abbrev AlX : Type := Bool × List He.FnW
def obsX (fa : List He.Fa) (fx : List Fx) (fn : List He.DefD) (K : PySem.W.Frag) : AlX := ((fa.all fun f => f.ok K) && ((fx.all fun f => f.ok K) && fn.all fun d => d.ok K), fn.map fun d => He.fnW K d.at_)
def valX (fn : List He.DefD) : AlX := (true, fn.map He.DefD.val)
def SaysX (fa : List He.Fa) (fx : List Fx) (fn : List He.DefD) (K : PySem.W.Frag) : Prop := obsX fa fx fn K = valX fn
def obsXG (n : Nat) (fa : List He.Fa) (fx : List Fx) (fn : List He.DefD) (g : Addr → Option Obj) : AlX := obsX fa fx fn (He.frG g (He.asD g n))
def hookX (n : Nat) (fa : List He.Fa) (fx : List Fx) (fn : List He.DefD) : PySem.W.Hook where
  α := AlX
  obs := fun s => obsXG n fa fx fn s.heap.get?
  val := fun _ => valX fn
  says := fun _ h => ∃ K : PySem.W.Frag, K.In h ∧ SaysX fa fx fn K
  of := fun _ _ e => ⟨_, He.frG_in, e⟩
  keeps := fun _ _ _ ⟨K, hK, c⟩ k => ⟨K, PySem.W.Frag.In.keeps hK k, c⟩
theorem obsXG_eq {n : Nat} {fa : List He.Fa} {fx : List Fx} {fn : List He.DefD} {g : Addr → Option Obj} {s : Shared} (h : ∀ a, g a = s.heap.get? a) : obsXG n fa fx fn g = (hookX n fa fx fn).obs s := by
  have e : g = s.heap.get? := funext h
  rw [e] <;> rfl
section
variable {fa : List He.Fa} {fx : List Fx} {fn : List He.DefD} {K : PySem.W.Frag}
theorem SaysX.fact (c : SaysX fa fx fn K) (i : Nat) {f : He.Fa} (h : fa[i]? = some f := by rfl) : f.ok K = true := by
  have c1 := (ba (show ((fa.all fun f => f.ok K) && ((fx.all fun f => f.ok K) && fn.all fun d => d.ok K)) = true from congrArg (fun z : AlX => z.1) c)).1
  exact List.all_eq_true.mp c1 f (List.mem_of_getElem? h)
theorem SaysX.more (c : SaysX fa fx fn K) (i : Nat) {f : Fx} (h : fx[i]? = some f := by rfl) : f.ok K = true := by
  have c1 := (ba (ba (show ((fa.all fun f => f.ok K) && ((fx.all fun f => f.ok K) && fn.all fun d => d.ok K)) = true from congrArg (fun z : AlX => z.1) c)).2).1
  exact List.all_eq_true.mp c1 f (List.mem_of_getElem? h)
theorem SaysX.def_ (c : SaysX fa fx fn K) (i : Nat) {d : He.DefD} (h : fn[i]? = some d := by rfl) : ∃ fd, FunD K d.name d.qual d.params d.body d.scope (d.dvs K) (d.kws K) (He.fAd K d.at_) fd := by
  have c2 := (ba (ba (show ((fa.all fun f => f.ok K) && ((fx.all fun f => f.ok K) && fn.all fun d => d.ok K)) = true from congrArg (fun z : AlX => z.1) c)).2).2
  have e : fn.map (fun d => He.fnW K d.at_) = fn.map He.DefD.val := congrArg (fun z : AlX => z.2) c
  have e2 : (fn.map fun d => He.fnW K d.at_)[i]? = (fn.map He.DefD.val)[i]? := by rw [e]
  rw [List.getElem?_map, List.getElem?_map, h] at e2
  exact He.DefD.funD (Option.some.inj e2) (List.all_eq_true.mp c2 d (List.mem_of_getElem? h))
end

/-! ## 3. Callees -/
/-- the module's name x stands for a def that keeps sp, called with its last arguments dvs left out -/
structure Callee (P : Program) (w : World) (K : PySem.W.Frag) (mg : Str → Option Value) (base : Heap) (CX : CXT) (x : Str) (k : Nat) (dvs : List V) (sp : Sp) : Prop where
  ex : ∃ f fd ps ds, FnOk P w K mg base CX k f fd ps sp ∧ mg x = some (.ref f) ∧ PySem.W.keepIn K (.ref f) = true ∧ Binds K fd ps ds ∧ Vals dvs ds
section
variable {X : Cx} {CX : CXT} {k j : Nat} {sp : Sp} {dvs : List V} {E : XK} {x : Str} {p pos : Pos} {e : Expr} {es : List Expr} {t : TA}
theorem pe_cl (C : Callee X.prog X.w X.K X.mg X.base CX x k dvs sp) (hr : Room j X.A) (ha : PA X (e :: es) t) (hx : Passes CX X E) (hj : k ≤ j := by first | decide | omega) (hg : Gl X x := by rfl) (hdb : (x == ("__debug__" : Str)) = false := by decide)
    (he : starEach (e :: es) X.env = (false, eval e X.env) :: starEach es X.env := by rfl) (hpl : (backTo pos (starEach es X.env)).any (·.1) = false := by rfl) : PE X (.Call (.Name x p) (e :: es) [] pos) (tCall sp dvs E t) := by
  obtain ⟨f, fd, ps, ds, F, hm, hk, hb, hd⟩ := C.ex
  exact pe_call F (hr.mono hj) hg hm hk hb hd hx ha hdb he hpl
/-- one whose raising is wished for at the caller's slots -/
theorem pe_clS {ES : L2.St → XK} (C : Callee X.prog X.w X.K X.mg X.base CX x k [] sp) (hr : Room j X.A) (ha : PA X (e :: es) t) (hx : ∀ σ, PassesAt CX X σ (ES σ)) (hj : k ≤ j := by first | decide | omega) (hg : Gl X x := by rfl) (hdb : (x == ("__debug__" : Str)) = false := by decide)
    (he : starEach (e :: es) X.env = (false, eval e X.env) :: starEach es X.env := by rfl) (hpl : (backTo pos (starEach es X.env)).any (·.1) = false := by rfl) : PE X (.Call (.Name x p) (e :: es) [] pos) (tCallS sp ES t) := by
  obtain ⟨f, fd, ps, ds, F, hm, hk, hb, hd⟩ := C.ex
  cases hd
  exact pe_callS F (hr.mono hj) hg hm hk hb hx ha hdb he hpl
end

/-! ## 4. Heaps -/
theorem sm_new {H : Hp} {p : Addr} {o : HO} (h : H p = none) : Same H (upd H p o) := fun a u e => by
  rw [upd_ne (ne_of_none e h)]
  exact e
theorem sm_mut {H H' : Hp} {p : Addr} {o : HO} (e : Same H H') (h : H p = none) : Same H (upd H' p o) := fun a u ha => by
  rw [upd_ne (ne_of_none ha h)]
  exact e a u ha
theorem sm_get {H H' : Hp} {p : Addr} {o : HO} (e : Same H H') (h : H p = some o) : H' p = some o := e p o h
theorem sm_rd {H H' : Hp} {a : Addr} {u : HO} (e : Same H H') (h : Rd H a u) : Rd H' a u := by
  rcases h with h | ⟨o, h⟩
  · exact Or.inl (e a _ h)
  · exact Or.inr ⟨o, e a _ h⟩
theorem sm_l {K : PySem.W.Frag} {H H' : Hp} {a : Addr} {xs : List V} (e : Same H H') (h : SqL K H a xs) : SqL K H' a xs := by
  rcases h with h | h
  · exact Or.inl (sm_rd e h)
  · exact Or.inr h
theorem sm_t {K : PySem.W.Frag} {H H' : Hp} {a : Addr} {xs : List V} (e : Same H H') (h : SqT K H a xs) : SqT K H' a xs := by
  rcases h with h | h
  · exact Or.inl (sm_rd e h)
  · exact Or.inr h
theorem sq_l {K : PySem.W.Frag} {H : Hp} {a : Addr} {xs : List V} (h : H a = some (.lst xs)) : SqL K H a xs := Or.inl (Or.inl h)
theorem sq_t {K : PySem.W.Frag} {H : Hp} {a : Addr} {xs : List V} (h : H a = some (.tup xs)) : SqT K H a xs := Or.inl (Or.inl h)
mutual
theorem dp_sm {K : PySem.W.Frag} {H H' : Hp} (e : Same H H') : ∀ {v : V} {d : PyData}, Dp K H v d → Dp K H' v d
  | _, _, .non => .non
  | _, _, .bl b => .bl b
  | _, _, .int i => .int i
  | _, _, .str x => .str x
  | _, _, .lst h r => .lst (sm_l e h) (dpall_sm e r)
  | _, _, .tup h r => .tup (sm_t e h) (dpall_sm e r)
theorem dpall_sm {K : PySem.W.Frag} {H H' : Hp} (e : Same H H') : ∀ {vs : List V} {ds : List PyData}, DpAll K H vs ds → DpAll K H' vs ds
  | _, _, .nil => .nil
  | _, _, .cons h r => .cons (dp_sm e h) (dpall_sm e r)
end
theorem sz_of {n : Nat} (h : n ≤ 100000) : n ≤ sizeLine := Nat.le_trans h (by decide)
theorem sz_lt {n : Nat} (h : n < 100000) : n < sizeLine := Nat.lt_of_lt_of_le h (by decide)
theorem upd_id {H : Hp} {a : Addr} {o : HO} (h : H a = some o) : upd H a o = H := by
  funext b
  by_cases e : b = a
  · rw [e, upd_same, h]
  · rw [upd_ne e]

/-! ## 5. Operators for values of several kinds -/
def rAddS : R2 := fun x y H Q => ∃ i j, x = .str i ∧ y = .str j ∧ i.length + j.length ≤ sizeLine ∧ Q (.str (i ++ j)) H
def rAddU (K : PySem.W.Frag) : R2 := fun x y H Q => (rI0 (fun i j => .int (i + j)) x y H Q ∨ rAddS x y H Q) ∨ (rCat x y H Q ∨ rCatT K x y H Q)
def rEqU (K : PySem.W.Frag) : R2 := fun x y H Q => rEq x y H Q ∨ rEqD K x y H Q
def rNeU (K : PySem.W.Frag) : R2 := fun x y H Q => rNe x y H Q ∨ rNeD K x y H Q
def rSlU (K : PySem.W.Frag) : V → Option Int → Option Int → Hp → VK → Prop := fun x lo hi H Q => rSlL K x lo hi H Q ∨ (rSlS x lo hi H Q ∨ rSlT K x lo hi H Q)
def rLeU : R2 := fun x y H Q => rI0 (fun i j => .bl (decide (i ≤ j))) x y H Q ∨ ∃ i j, x = .str i ∧ y = .str j ∧ Q (.bl (!decide (j.cps.toList < i.cps.toList))) H
def rLenU (K : PySem.W.Frag) : List V → Hp → VK → Prop := fun xs H Q => ∃ x n, xs = [x] ∧ LenV K x H n ∧ Q (.int n) H
def rListU (K : PySem.W.Frag) : List V → Hp → VK → Prop := fun xs H Q => ∃ p ys, xs = [.ref p] ∧ (SqL K H p ys ∨ SqT K H p ys) ∧ ∀ l, H l = none → Q (.ref l) (upd H l (.lst ys))
def rTupU (K : PySem.W.Frag) : List V → Hp → VK → Prop := fun xs H Q => ∃ p ys, xs = [.ref p] ∧ ((SqL K H p ys ∧ ∀ l, H l = none → Q (.ref l) (upd H l (.tup ys))) ∨ (SqT K H p ys ∧ Q (.ref p) H))
/-- the text that repr tells -/
inductive ReprV : V → Str → Prop where
  | non : ReprV .non "None"
  | bl (b : Bool) : ReprV (.bl b) (if b then "True" else "False")
  | int (i : Int) (h : i.natAbs.log2 < 1920) : ReprV (.int i) (toString i)
  | str (x : Str) (h : (reprText x).length ≤ sizeLine) : ReprV (.str x) (reprText x)
def rReprU : List V → Hp → VK → Prop := fun xs H Q => ∃ x z, xs = [x] ∧ ReprV x z ∧ Q (.str z) H
section
variable {X : Cx}
theorem op_addU : OpR X (binaryOp .Add) (rAddU X.K) := OpR.or (OpR.or op_add op_add_str) (OpR.or op_cat op_catT)
theorem op_eqU (hu : X.A.units + 64 < cLine) : OpR X (compareOp .Eq) (rEqU X.K) := OpR.or op_eq (op_eqD hu)
theorem op_neU (hu : X.A.units + 64 < cLine) : OpR X (compareOp .NotEq) (rNeU X.K) := OpR.or op_ne (op_neD hu)
theorem op_leU : OpR X (compareOp .LtE) rLeU := OpR.or op_le op_le_str
theorem sl_u : SlR X (rSlU X.K) := SlR.or sl_list (SlR.or sl_str sl_tup)
theorem call_lenU : CallR X (.builtin "len") (rLenU X.K) := call_len
theorem call_listU : CallR X (.type "list") (rListU X.K) := call_list_of
theorem call_tupU : CallR X (.type "tuple") (rTupU X.K) := call_tuple_of
theorem call_reprU : CallR X (.builtin "repr") rReprU := by
  intro pins s σ H xs us Q I r h
  obtain ⟨x, z, rfl, hz, q⟩ := h
  obtain ⟨u, rfl, ru⟩ := vals1 r
  cases hz with
  | non =>
    cases ru
    exact PySem.P.repr_of_none ⟨.str _, H, I.tok _, ⟨_, rfl⟩, q⟩
  | bl b =>
    cases ru
    exact PySem.P.repr_of_bool ⟨.str _, H, I.tok _, ⟨_, rfl⟩, q⟩
  | int i hi =>
    obtain ⟨t, rfl⟩ := ru
    exact PySem.P.repr_of_int hi ⟨.str _, H, I.tok _, ⟨_, rfl⟩, q⟩
  | str y hy =>
    obtain ⟨t, rfl⟩ := ru
    exact PySem.P.repr_of_str ⟨.str _, H, I.tok _, ⟨_, rfl⟩, q⟩ hy
end

/-! ## 6. Steps of readings. Leaves bear names, so that a step is found by the goal's head -/
def nBl (x : V) (R : Bool → Hp → Prop) (H : Hp) : Prop := ∃ k, x = .bl k ∧ R k H
def nInt (x : V) (R : Option Int → Hp → Prop) (H : Hp) : Prop := ∃ i, x = .int i ∧ R (some i) H
def nLst (xs : List V) (H : Hp) (Q : VK) : Prop := xs.length ≤ sizeLine ∧ ∀ p, H p = none → Q (.ref p) (upd H p (.lst xs))
def nTup (xs : List V) (H : Hp) (Q : VK) : Prop := xs.length ≤ sizeLine ∧ ∀ p, H p = none → Q (.ref p) (upd H p (.tup xs))
def nTy (K : PySem.W.Frag) (T : String) (x : V) (H : Hp) (A : Prop) : Prop := tyV K T x H ∧ A
def nStr (x : V) (A : Prop) : Prop := (∃ a, x = .str a) ∧ A
def nIte (b : Bool) (A B : Prop) : Prop := if b = true then A else B
def nSpS (sp : Sp) (vs : List V) (H : Hp) (Q : VK) (E : XK) : Prop := sp vs H Q E
section
variable {K : PySem.W.Frag} {σ : L2.St} {H : Hp} {Q : VK} {D : Ends} {te ta tb tc tx : TE} {t u : TS} {c c2 : TT} {tA tB2 : TA} {x y v : V} {i j n m : Int} {a b l p q : Addr} {xs ys zs : List V} {z z2 : Str} {k : Nat} {A B : Prop} {r r2 : R2}
-- statements
theorem k_seq (h : t { D with nx := u D } σ H) : tSeq t u D σ H := h
theorem k_next (h : D.nx σ H) : tNext D σ H := h
theorem k_asg {g : TG} (h : te σ H fun x H1 => g x σ H1 D.nx) : tAsg te g D σ H := h
theorem k_name {R : L2.St → Hp → Prop} (h : R (σ.set k (some v)) H) : gName k v σ H R := h
theorem k_ret (h : te σ H D.rt) : tRet te D σ H := h
theorem k_retN (h : D.rt .non H) : tRetN D σ H := h
theorem k_drop (h : te σ H fun _ H1 => D.nx σ H1) : tDrop te D σ H := h
theorem k_ifs (h : c σ H fun b H1 => nIte b (t D σ H1) (u D σ H1)) : tIfS c t u D σ H := h
theorem k_brk (h : D.bk σ H) : tBreak D σ H := h
theorem k_cont (h : D.ct σ H) : tCont D σ H := h
theorem k_aug {ti : TIp} (hs : σ[k]? = some (some x)) (h : te σ H fun y H1 => ti x y H1 fun z H2 => D.nx (σ.set k (some z)) H2) : tAug k te ti D σ H := ⟨x, hs, h⟩
theorem k_ipI {f : Int → Int → Int} {R : V → Hp → Prop} (h : R (.int (f i j)) H) : ipI f (.int i) (.int j) H R := ⟨i, j, rfl, rfl, h⟩
-- targets
theorem k_gtup {R : L2.St → Hp → Prop} {w : TGs} (hx : SqT K H a xs) (hl : xs.length = k) (h : w xs σ H R) : gTup K k w (.ref a) σ H R := ⟨a, xs, rfl, hx, hl, h⟩
theorem k_gcons {R : L2.St → Hp → Prop} {g : TG} {w : TGs} (h : g x σ H fun σ' H' => w xs σ' H' R) : gCons g w (x :: xs) σ H R := ⟨x, xs, rfl, h⟩
theorem k_gnil {R : L2.St → Hp → Prop} (h : R σ H) : gNil [] σ H R := ⟨rfl, h⟩
theorem k_gsub {R : L2.St → Hp → Prop} {w : TSet} (h : ta σ H fun o H1 => tb σ H1 fun i H2 => w o i v H2 fun H3 => R σ H3) : gSub ta tb w v σ H R := h
-- tests
theorem k_test {R : Bool → Hp → Prop} (h : te σ H fun x H' => nBl x R H') : tTest te σ H R := h
theorem k_tB {R : Bool → Hp → Prop} (h : te σ H fun x H' => nBl x R H') : tB te σ H R := h
theorem k_bl {R : Bool → Hp → Prop} {b : Bool} (h : R b H) : nBl (.bl b) R H := ⟨b, rfl, h⟩
theorem k_not {R : Bool → Hp → Prop} (h : c σ H fun b H1 => R (!b) H1) : tNot c σ H R := h
theorem k_and {R : Bool → Hp → Prop} (h : c σ H fun b H1 => nIte b (c2 σ H1 R) (R false H1)) : tAnd c c2 σ H R := h
theorem k_or {R : Bool → Hp → Prop} (h : c σ H fun b H1 => nIte b (R true H1) (c2 σ H1 R)) : tOr c c2 σ H R := h
theorem k_yes {R : Bool → Hp → Prop} (h : R true H) : tYes σ H R := h
theorem k_dec {P : Prop} [Decidable P] (h1 : P → A) (h2 : ¬ P → B) : nIte (decide P) A B := ite2 (c := decide P = true) (fun e => h1 (of_decide_eq_true e)) fun e => h2 fun z => e (decide_eq_true z)
theorem k_ndec {P : Prop} [Decidable P] (h1 : ¬ P → A) (h2 : P → B) : nIte (!decide P) A B := by
  by_cases e : P
  · rw [decide_eq_true e]
    exact iteF (h2 e)
  · rw [decide_eq_false e]
    exact iteT (h1 e)
theorem k_true (h : A) : nIte true A B := iteT h
theorem k_false (h : B) : nIte false A B := iteF h
theorem k_bool {b : Bool} (h1 : b = true → A) (h2 : b = false → B) : nIte b A B := by
  cases b with
  | true => exact iteT (h1 rfl)
  | false => exact iteF (h2 rfl)
theorem k_nt {b : Bool} (h : nIte b B A) : nIte (!b) A B := by
  cases b with
  | true => exact h
  | false => exact h
-- expressions
theorem k_var (hs : σ[k]? = some (some v)) (h : Q v H) : tVar k σ H Q := ⟨v, hs, h⟩
theorem k_c (h : Q v H) : tC v σ H Q := h
theorem k_op (h : ta σ H fun x H1 => tb σ H1 fun y H2 => r x y H2 Q) : tOp r ta tb σ H Q := h
theorem k_un {r : V → Hp → VK → Prop} (h : ta σ H fun x H1 => r x H1 Q) : tUn r ta σ H Q := h
theorem k_if (h : c σ H fun b H1 => nIte b (ta σ H1 Q) (tb σ H1 Q)) : tIf c ta tb σ H Q := h
theorem k_chain (h : ta σ H fun x H1 => tb σ H1 fun y H2 => r x y H2 fun z H3 => nBl z (fun k H3 => nIte k (tc σ H3 fun w H4 => r2 y w H4 Q) (Q (.bl false) H3)) H3) : tChain r r2 ta tb tc σ H Q := h
theorem k_nil {R : List V → Hp → Prop} (h : R [] H) : tNil σ H R := h
theorem k_cons {R : List V → Hp → Prop} (h : ta σ H fun x H1 => tA σ H1 fun xs H2 => R (x :: xs) H2) : tCons ta tA σ H R := h
theorem k_cb {r : List V → Hp → VK → Prop} (h : tA σ H fun vs H1 => r vs H1 Q) : tCB r tA σ H Q := h
theorem k_call {sp : Sp} {dvs : List V} {E : XK} (h : tA σ H fun vs H1 => sp (vs ++ dvs) H1 Q E) : tCall sp dvs E tA σ H Q := h
theorem k_callS {sp : Sp} {E : L2.St → XK} (h : tA σ H fun vs H1 => sp vs H1 Q (E σ)) : tCallS sp E tA σ H Q := h
theorem k_andV (h : ta σ H fun x H1 => nBl x (fun c H1 => nIte c (tb σ H1 Q) (Q (.bl false) H1)) H1) : tAndV ta tb σ H Q := h
theorem k_orV (h : ta σ H fun x H1 => nBl x (fun c H1 => nIte c (Q (.bl true) H1) (tb σ H1 Q)) H1) : tOrV ta tb σ H Q := h
theorem k_notV (h : ta σ H fun x H1 => nBl x (fun c H1 => Q (.bl (!c)) H1) H1) : tNotV ta σ H Q := h
theorem k_lst (h : tA σ H fun xs H1 => nLst xs H1 Q) : tLst tA σ H Q := h
theorem k_tup (h : tA σ H fun xs H1 => nTup xs H1 Q) : tTup tA σ H Q := h
theorem k_nLst (hz : xs.length ≤ 100000) (h : ∀ p H2, H p = none → Same H H2 → H2 p = some (.lst xs) → Q (.ref p) H2) : nLst xs H Q := ⟨sz_of hz, fun p hp => h p _ hp (sm_new hp) upd_same⟩
theorem k_nTup (hz : xs.length ≤ 100000) (h : ∀ p H2, H p = none → Same H H2 → H2 p = some (.tup xs) → Q (.ref p) H2) : nTup xs H Q := ⟨sz_of hz, fun p hp => h p _ hp (sm_new hp) upd_same⟩
theorem k_nopart {R : Option Int → Hp → Prop} (h : R none H) : tNoPart σ H R := h
theorem k_part {R : Option Int → Hp → Prop} (h : te σ H fun x H1 => nInt x R H1) : tPart te σ H R := h
theorem k_nInt {R : Option Int → Hp → Prop} (h : R (some i) H) : nInt (.int i) R H := ⟨i, rfl, h⟩
theorem k_sl {r : V → Option Int → Option Int → Hp → VK → Prop} {tl th : TO} (h : te σ H fun x H1 => tl σ H1 fun l H2 => th σ H2 fun u H3 => r x l u H3 Q) : tSl r te tl th σ H Q := h
theorem k_bm {T : String} {r : V → List V → Hp → VK → Prop} (h : te σ H fun x H1 => nTy K T x H1 (tA σ H1 fun xs H2 => r x xs H2 Q)) : tBM K T r te tA σ H Q := h
theorem k_bm0 {T : String} {r : V → List V → Hp → VK → Prop} (h : te σ H fun x H1 => nTy K T x H1 (r x [] H1 Q)) : tBM0 K T r te σ H Q := h
theorem k_nTyL (hx : SqL K H a xs) (h : A) : nTy K "list" (.ref a) H A := ⟨Or.inl ⟨rfl, xs, hx⟩, h⟩
theorem k_nTyS (h : A) : nTy K "str" (.str z) H A := ⟨rfl, h⟩
theorem k_m1 {r : V → List V → Hp → VK → Prop} (h : te σ H fun x H1 => nStr x (tx σ H1 fun y H2 => r x [y] H2 Q)) : tM1 r te tx σ H Q := h
theorem k_m0 {r : V → List V → Hp → VK → Prop} (h : te σ H fun x H1 => nStr x (r x [] H1 Q)) : tM0 r te σ H Q := h
theorem k_nStr (h : A) : nStr (.str z) A := ⟨⟨z, rfl⟩, h⟩
-- operators
theorem k_I0 {g : Int → Int → V} (h : Q (g i j) H) : rI0 g (.int i) (.int j) H Q := ⟨i, j, rfl, rfl, h⟩
theorem k_I {C : Int → Int → Prop} {g : Int → Int → V} (hc : C i j) (h : Q (g i j) H) : rI C g (.int i) (.int j) H Q := ⟨i, j, rfl, rfl, hc, h⟩
theorem k_U {g : Int → V} (h : Q (g i) H) : rU g (.int i) H Q := ⟨i, rfl, h⟩
theorem k_add_i (h : Q (.int (i + j)) H) : rAddU K (.int i) (.int j) H Q := .inl (.inl ⟨i, j, rfl, rfl, h⟩)
theorem k_add_s (hz : z.length + z2.length ≤ 100000) (h : Q (.str (z ++ z2)) H) : rAddU K (.str z) (.str z2) H Q := .inl (.inr ⟨z, z2, rfl, rfl, sz_of hz, h⟩)
theorem k_add_l (h1 : H a = some (.lst xs)) (h2 : H b = some (.lst ys)) (hz : xs.length + ys.length ≤ 100000) (h : ∀ p H2, H p = none → Same H H2 → H2 p = some (.lst (xs ++ ys)) → Q (.ref p) H2) : rAddU K (.ref a) (.ref b) H Q :=
  .inr (.inl ⟨a, b, xs, ys, rfl, rfl, h1, h2, sz_of hz, fun p hp => h p _ hp (sm_new hp) upd_same⟩)
theorem k_mul (hc : (-(2 ^ 64) < i ∧ i < 2 ^ 64) ∨ (-(2 ^ 64) < j ∧ j < 2 ^ 64)) (h : Q (.int (i * j)) H) : rI CMul (fun i j => .int (i * j)) (.int i) (.int j) H Q := ⟨i, j, rfl, rfl, hc, h⟩
theorem k_eq_i (h : Q (.bl (decide (i = j))) H) : rEqU K (.int i) (.int j) H Q := .inl ⟨rfl, by
  rw [show decide (V.int i = V.int j) = decide (i = j) by
    by_cases e : i = j
    · rw [e, decide_eq_true rfl, decide_eq_true rfl]
    · rw [decide_eq_false e, decide_eq_false fun z => e (V.int.inj z)]]
  exact h⟩
theorem k_eq_s (h : Q (.bl (decide (z = z2))) H) : rEqU K (.str z) (.str z2) H Q := .inl ⟨rfl, by
  rw [show decide (V.str z = V.str z2) = decide (z = z2) by
    by_cases e : z = z2
    · rw [e, decide_eq_true rfl, decide_eq_true rfl]
    · rw [decide_eq_false e, decide_eq_false fun w => e (V.str.inj w)]]
  exact h⟩
theorem k_eq_b {b c : Bool} (h : Q (.bl (decide (b = c))) H) : rEqU K (.bl b) (.bl c) H Q := .inl ⟨rfl, by
  rw [show decide (V.bl b = V.bl c) = decide (b = c) by
    by_cases e : b = c
    · rw [e, decide_eq_true rfl, decide_eq_true rfl]
    · rw [decide_eq_false e, decide_eq_false fun w => e (V.bl.inj w)]]
  exact h⟩
theorem k_ne_i (h : Q (.bl (!decide (i = j))) H) : rNeU K (.int i) (.int j) H Q := .inl ⟨rfl, by
  rw [show decide (V.int i = V.int j) = decide (i = j) by
    by_cases e : i = j
    · rw [e, decide_eq_true rfl, decide_eq_true rfl]
    · rw [decide_eq_false e, decide_eq_false fun z => e (V.int.inj z)]]
  exact h⟩
theorem k_ne_s (h : Q (.bl (!decide (z = z2))) H) : rNeU K (.str z) (.str z2) H Q := .inl ⟨rfl, by
  rw [show decide (V.str z = V.str z2) = decide (z = z2) by
    by_cases e : z = z2
    · rw [e, decide_eq_true rfl, decide_eq_true rfl]
    · rw [decide_eq_false e, decide_eq_false fun w => e (V.str.inj w)]]
  exact h⟩
theorem k_ne_b {b c : Bool} (h : Q (.bl (!decide (b = c))) H) : rNeU K (.bl b) (.bl c) H Q := .inl ⟨rfl, by
  rw [show decide (V.bl b = V.bl c) = decide (b = c) by
    by_cases e : b = c
    · rw [e, decide_eq_true rfl, decide_eq_true rfl]
    · rw [decide_eq_false e, decide_eq_false fun w => e (V.bl.inj w)]]
  exact h⟩
theorem k_eq_d {d e : PyData} (h1 : Dp K H x d) (h2 : Dp K H y e) (s1 : SeqAt.shaped d = true) (s2 : SeqAt.shaped e = true) (h : Q (.bl (PyData.eqv d e)) H) : rEqU K x y H Q := .inr ⟨d, e, h1, h2, s1, s2, h⟩
theorem k_ne_d {d e : PyData} (h1 : Dp K H x d) (h2 : Dp K H y e) (s1 : SeqAt.shaped d = true) (s2 : SeqAt.shaped e = true) (h : Q (.bl (!PyData.eqv d e)) H) : rNeU K x y H Q := .inr ⟨d, e, h1, h2, s1, s2, h⟩
theorem k_le_i (h : Q (.bl (decide (i ≤ j))) H) : rLeU (.int i) (.int j) H Q := .inl ⟨i, j, rfl, rfl, h⟩
theorem k_le_s (h : Q (.bl (!decide (z2.cps.toList < z.cps.toList))) H) : rLeU (.str z) (.str z2) H Q := .inr ⟨z, z2, rfl, rfl, h⟩
-- items, slices, lengths
theorem k_ix_l (hx : SqL K H a xs) (hi : atI xs i = some v) (h : Q v H) : rIx K (.ref a) (.int i) H Q := .inl ⟨a, xs, i, v, rfl, rfl, hx, hi, h⟩
theorem k_ix_t (hx : SqT K H a xs) (hi : atI xs i = some v) (h : Q v H) : rIx K (.ref a) (.int i) H Q := .inr (.inl ⟨a, xs, i, v, rfl, rfl, hx, hi, h⟩)
theorem k_ix_s {c : Nat} (hz : z.length ≤ 100000) (hi : atI z.cps.toList i = some c) (h : Q (.str ⟨#[c]⟩) H) : rIx K (.str z) (.int i) H Q := .inr (.inr ⟨z, i, c, rfl, rfl, sz_of hz, hi, h⟩)
theorem k_sl_l {lo hi : Option Int} (hx : SqL K H a xs) (h : ∀ p H2, H p = none → Same H H2 → H2 p = some (.lst (cutV xs lo hi)) → Q (.ref p) H2) : rSlU K (.ref a) lo hi H Q := .inl ⟨a, xs, rfl, hx, fun p hp => h p _ hp (sm_new hp) upd_same⟩
theorem k_sl_s {lo hi : Option Int} (hz : z.length ≤ 100000) (h : Q (.str (cutS z lo hi)) H) : rSlU K (.str z) lo hi H Q := .inr (.inl ⟨z, rfl, sz_of hz, h⟩)
theorem k_len_s (hz : z.length ≤ 100000) (h : Q (.int z.length) H) : rLenU K [.str z] H Q := ⟨.str z, z.length, rfl, ⟨sz_of hz, rfl⟩, h⟩
theorem k_len_l (hx : SqL K H a xs) (h : Q (.int xs.length) H) : rLenU K [.ref a] H Q := ⟨.ref a, xs.length, rfl, .inl ⟨xs, hx, rfl⟩, h⟩
theorem k_len_t (hx : SqT K H a xs) (h : Q (.int xs.length) H) : rLenU K [.ref a] H Q := ⟨.ref a, xs.length, rfl, .inr ⟨xs, hx, rfl⟩, h⟩
theorem k_list_l (hx : SqL K H a xs) (h : ∀ p H2, H p = none → Same H H2 → H2 p = some (.lst xs) → Q (.ref p) H2) : rListU K [.ref a] H Q := ⟨a, xs, rfl, .inl hx, fun p hp => h p _ hp (sm_new hp) upd_same⟩
theorem k_list_t (hx : SqT K H a xs) (h : ∀ p H2, H p = none → Same H H2 → H2 p = some (.lst xs) → Q (.ref p) H2) : rListU K [.ref a] H Q := ⟨a, xs, rfl, .inr hx, fun p hp => h p _ hp (sm_new hp) upd_same⟩
theorem k_tup_l (hx : SqL K H a xs) (h : ∀ p H2, H p = none → Same H H2 → H2 p = some (.tup xs) → Q (.ref p) H2) : rTupU K [.ref a] H Q := ⟨a, xs, rfl, .inl ⟨hx, fun p hp => h p _ hp (sm_new hp) upd_same⟩⟩
theorem k_tup_t (hx : SqT K H a xs) (h : Q (.ref a) H) : rTupU K [.ref a] H Q := ⟨a, xs, rfl, .inr ⟨hx, h⟩⟩
theorem k_repr (hr : ReprV x z) (h : Q (.str z) H) : rReprU [x] H Q := ⟨x, z, rfl, hr, h⟩
theorem k_strs {ws : List Str} (h : ∀ p H2, H p = none → Same H H2 → H2 p = some (.lst (ws.map V.str)) → Q (.ref p) H2) : rNewStrs ws H Q := fun p hp => h p _ hp (sm_new hp) upd_same
theorem k_setL {R : Hp → Prop} (h0 : H a = some (.lst xs)) (hi : ixN xs.length i = some k) (h : R (upd H a (.lst (xs.set k v)))) : rSetL (.ref a) (.int i) v H R := ⟨a, xs, i, k, rfl, rfl, h0, hi, h⟩
theorem k_sum {ns : List Int} (hx : SqL K H a (ns.map V.int)) (h : Q (.int ns.sum) H) : rSum K [.ref a] H Q := ⟨a, ns, rfl, hx, h⟩
theorem k_all {bs : List Bool} (hx : SqL K H a (bs.map V.bl)) (h : Q (.bl (bs.all id)) H) : rAll K [.ref a] H Q := ⟨a, bs, rfl, hx, h⟩
theorem k_any {bs : List Bool} (hx : SqL K H a (bs.map V.bl)) (h : Q (.bl (bs.any id)) H) : rAny K [.ref a] H Q := ⟨a, bs, rfl, hx, h⟩
theorem k_ext {a b : Addr} (s : Same H H) (h : Q x H) : Q x H := h
end

theorem k_start {t : TS} {D : Ends} {σ σ' : L2.St} {H : Hp} (e : σ = σ') (h : t D σ' H) : t D σ H := by
  rw [e]
  exact h
/-! ## 7. Loops and comprehensions -/
def nRng1 (vs : List V) (R : It → Hp → Prop) (H : Hp) : Prop := ∃ j : Int, vs = [.int j] ∧ -(2 ^ 62) ≤ j ∧ j < 2 ^ 62 ∧ R (Itr 0 j.toNat) H
def nRng2 (vs : List V) (R : It → Hp → Prop) (H : Hp) : Prop := ∃ i j : Int, vs = [.int i, .int j] ∧ (-(2 ^ 62) ≤ i ∧ i < 2 ^ 62 ∧ -(2 ^ 62) ≤ j ∧ j < 2 ^ 62) ∧ R (Itr i (j - i).toNat) H
def nItl (K : PySem.W.Frag) (x : V) (R : It → Hp → Prop) (H : Hp) : Prop := ∃ a, x = .ref a ∧ (∃ xs, SqL K H a xs) ∧ R (Itl K a) H
def nItt (K : PySem.W.Frag) (x : V) (R : It → Hp → Prop) (H : Hp) : Prop := ∃ a, x = .ref a ∧ (∃ xs, SqT K H a xs) ∧ R (Itt K a) H
def nIts (x : V) (R : It → Hp → Prop) (H : Hp) : Prop := ∃ z, x = .str z ∧ R (Its z) H
def nIte2 (K : PySem.W.Frag) (vs : List V) (R : It → Hp → Prop) (H : Hp) : Prop := ∃ a xs, vs = [.ref a] ∧ SqL K H a xs ∧ R (Ite K a) H
def nItz (K : PySem.W.Frag) (vs : List V) (R : It → Hp → Prop) (H : Hp) : Prop := ∃ a b xs ys, vs = [.ref a, .ref b] ∧ ((SqL K H a xs ∧ SqL K H b ys ∧ R (Itz K a b) H) ∨ (SqT K H a xs ∧ SqT K H b ys ∧ R (RZ.ItzT K a b) H))
def nFor (J : It) (g : TG) (tb : TS) (D : Ends) (σ : L2.St) (H : Hp) : Prop := ∃ W : Nat → Nat → L2.St → Hp → Prop, (∃ m, W 0 m σ H) ∧ ∀ i m σ H, W i m σ H →
  (J.stop i H ∧ D.nx σ H) ∨ (J.go i H ∧ ∃ N : L2.St → Hp → Prop, (∀ σ' H', N σ' H' → ∃ m', m' < m ∧ W (i + 1) m' σ' H') ∧ ∀ x H', J.yld i H x H' → g x σ H' fun σ2 H2 => tb { D with nx := N, ct := N, bk := D.nx } σ2 H2)
def nLc (J : It) (g : TG) (tt : TT) (te : TE) (vs : List Nat) (σ : L2.St) (H1 : Hp) (Q : VK) : Prop := ∀ D, H1 D = none → ∃ W : Nat → Nat → Hp → Prop, (∃ m, W 0 m (upd H1 D (.lst []))) ∧ ∀ i m H, W i m H →
  (J.stop i H ∧ Q (.ref D) H) ∨ (J.go i H ∧ ∃ Nx : Hp → Prop, (∀ H', Nx H' → ∃ m', m' < m ∧ W (i + 1) m' H') ∧ ∀ x H', J.yld i H x H' → g x (wipe σ vs) H' fun σ2 H2 => wipe σ2 vs = wipe σ vs ∧ tt σ2 H2 fun b H3 =>
    if b = true then te σ2 H3 fun y H4 => ∃ acc, H4 D = some (.lst acc) ∧ acc.length < sizeLine ∧ Nx (upd H4 D (.lst (acc ++ [y]))) else Nx H3)
section
variable {K : PySem.W.Frag} {σ : L2.St} {H : Hp} {Q : VK} {D : Ends} {te : TE} {tt : TT} {tb : TS} {tA : TA} {wi : TI} {g : TG} {R : It → Hp → Prop} {i j : Int} {n : Nat} {a b : Addr} {xs ys : List V} {z : Str} {vs : List Nat} {J : It} {G : Hp → Prop} {Y : Nat → Hp → V → Hp → Prop}
theorem k_for (h : wi σ H fun J H1 => nFor J g tb D σ H1) : tFor wi g tb D σ H := h
theorem k_lc (h : wi σ H fun J H1 => nLc J g tt te vs σ H1 Q) : tLc wi g tt te vs σ H Q := h
theorem k_rng1 (h : tA σ H fun vs H1 => nRng1 vs R H1) : iRng1 tA σ H R := h
theorem k_rng2 (h : tA σ H fun vs H1 => nRng2 vs R H1) : iRng2 tA σ H R := h
theorem k_itl (h : te σ H fun x H1 => nItl K x R H1) : iList K te σ H R := h
theorem k_itt (h : te σ H fun x H1 => nItt K x R H1) : iTup K te σ H R := h
theorem k_its (h : te σ H fun x H1 => nIts x R H1) : iStr te σ H R := h
theorem k_ite (h : tA σ H fun vs H1 => nIte2 K vs R H1) : iEnum K tA σ H R := h
theorem k_itz (h : tA σ H fun vs H1 => nItz K vs R H1) : RZ.iZipA K tA σ H R := h
theorem k_nRng1 (h1 : -(2 ^ 62) ≤ j) (h2 : j < 2 ^ 62) (h : R (Itr 0 j.toNat) H) : nRng1 [.int j] R H := ⟨j, rfl, h1, h2, h⟩
theorem k_nRng2 (h : (-(2 ^ 62) ≤ i ∧ i < 2 ^ 62 ∧ -(2 ^ 62) ≤ j ∧ j < 2 ^ 62)) (q : R (Itr i (j - i).toNat) H) : nRng2 [.int i, .int j] R H := ⟨i, j, rfl, h, q⟩
theorem k_nItl (hx : SqL K H a xs) (h : R (Itl K a) H) : nItl K (.ref a) R H := ⟨a, rfl, ⟨xs, hx⟩, h⟩
theorem k_nItt (hx : SqT K H a xs) (h : R (Itt K a) H) : nItt K (.ref a) R H := ⟨a, rfl, ⟨xs, hx⟩, h⟩
theorem k_nIts (h : R (Its z) H) : nIts (.str z) R H := ⟨z, rfl, h⟩
theorem k_nIte (hx : SqL K H a xs) (h : R (Ite K a) H) : nIte2 K [.ref a] R H := ⟨a, xs, rfl, hx, h⟩
theorem k_nItzL (hx : SqL K H a xs) (hy : SqL K H b ys) (h : R (Itz K a b) H) : nItz K [.ref a, .ref b] R H := ⟨a, b, xs, ys, rfl, .inl ⟨hx, hy, h⟩⟩
theorem k_nItzT (hx : SqT K H a xs) (hy : SqT K H b ys) (h : R (RZ.ItzT K a b) H) : nItz K [.ref a, .ref b] R H := ⟨a, b, xs, ys, rfl, .inr ⟨hx, hy, h⟩⟩
theorem k_nFor (w : Walk J n G Y) (Pv : Nat → L2.St → Hp → Prop) (h0 : Pv 0 σ H) (hG : ∀ i σ H, i ≤ n → Pv i σ H → G H)
    (hs : ∀ i x σ H H', i < n → Pv i σ H → Y i H x H' → g x σ H' fun σ2 H2 => tb { D with nx := Pv (i + 1), ct := Pv (i + 1), bk := D.nx } σ2 H2) (hd : ∀ σ H, Pv n σ H → D.nx σ H) : nFor J g tb D σ H := for_it w Pv h0 hG hs hd
/-- over zip of two tuples -/
theorem walk_zipT {n : Nat} (hn : n = min xs.length ys.length) : Walk (RZ.ItzT K a b) n (fun H => SqT K H a xs ∧ SqT K H b ys) (YPair (fun i => xs[i]?) (fun i => ys[i]?)) := by
  subst hn
  refine ⟨fun i _ hi q => ?_, fun _ q => ⟨xs, ys, q.1, q.2, by omega⟩, fun i H v H' _ q y => ?_⟩
  · have h1 : i < xs.length := by omega
    have h2 : i < ys.length := by omega
    exact ⟨xs, ys, xs[i], ys[i], q.1, q.2, by simp [h1], by simp [h2]⟩
  · obtain ⟨T, x, z, h1, h2, h3, h4, h5⟩ := y
    exact ⟨T, x, z, h1, h2, h3, h4 xs q.1, h5 ys q.2⟩
/-- a comprehension; Pv: what holds of the turn and of the values so far, told without the heap -/
theorem k_nLc {tg : TG} (w : Walk J n G Y) (hG : ∀ H', Same H H' → G H') (Pv : Nat → List V → Prop) (h0 : Pv 0 []) (hz : ∀ i ws, i ≤ n → Pv i ws → ws.length ≤ 50000)
    (hs : ∀ (i : Nat) (x : V) (H1 H2 : Hp) (ws : List V) (Kp : VK) (Ks : Hp → Prop), i < n → Same H H1 → Pv i ws → Y i H1 x H2 → (∀ y H5, Same H1 H5 → Pv (i + 1) (ws ++ [y]) → Kp y H5) → (∀ H5, Same H1 H5 → Pv (i + 1) ws → Ks H5) →
      tg x (wipe σ vs) H2 fun σ2 H3 => wipe σ2 vs = wipe σ vs ∧ tt σ2 H3 fun b H4 => nIte b (te σ2 H4 Kp) (Ks H4))
    (hd : ∀ (p : Addr) (H' : Hp) (ws : List V), H p = none → Same H H' → H' p = some (.lst ws) → Pv n ws → Q (.ref p) H') : nLc J tg tt te vs σ H Q := by
  intro p hp
  refine lc_it w (fun i H' => ∃ ws : List V, Same H H' ∧ H' p = some (.lst ws) ∧ Pv i ws) ⟨[], sm_new hp, upd_same, h0⟩ (fun i H' _ h => ?_) (fun i x H1 H2 hi h hy => ?_) (fun H' h => ?_)
  · obtain ⟨ws, s1, _⟩ := h
    exact hG H' s1
  · obtain ⟨ws, s1, e1, q1⟩ := h
    exact hs i x H1 H2 ws _ _ hi s1 q1 hy (fun y H5 s5 q5 => ⟨ws, s5 p _ e1, sz_lt (by have := hz i ws (by omega) q1; omega), ws ++ [y], sm_mut (s1.trans s5) hp, upd_same, q5⟩) (fun H5 s5 q5 => ⟨ws, s1.trans s5, s5 p _ e1, q5⟩)
  · obtain ⟨ws, s1, e1, q1⟩ := h
    exact hd p H' ws hp s1 e1 q1
end

/-! ## 8. The bag of draws: its list is told by a word that never changes, so that a draw leaves the heap as it is -/
/-- at b: the list of the cells (at c), a place from 0 on, a held number, a knot -/
def bagO (b c : Addr) : HO := .ext fun h => ∃ (i1 i2 i3 : Int) (t1 t2 t3 : Tok) (n : Nat), 0 ≤ i1 ∧ h.get? b = some { cls := .type "list", data := .seq #[.ref c, .int i1 t1, .int i2 t2, .int i3 t3] n }
def BagOk (H : Hp) (b : Addr) : Prop := ∃ (c : Addr) (ns : List Int), H b = some (bagO b c) ∧ H c = some (.lst (ns.map V.int))
theorem BagOk.sm {H H' : Hp} {b : Addr} (e : Same H H') (h : BagOk H b) : BagOk H' b := by
  obtain ⟨c, ns, h1, h2⟩ := h
  exact ⟨c, ns, e _ _ h1, e _ _ h2⟩
def bagL (c : Addr) (i1 i2 i3 : Int) : List V := [.ref c, .int i1, .int i2, .int i3]
section
variable {X : Cx} {pins : List (Addr × Obj)} {σ : L2.St} {H : Hp} {s : Shared} {b c : Addr}
/-- the bag is opened -/
theorem bag_open (I : Inv X pins σ H s) (h : H b = some (bagO b c)) : ∃ i1 i2 i3 : Int, 0 ≤ i1 ∧ Inv X pins σ (upd H b (.lst (bagL c i1 i2 i3))) s := by
  obtain ⟨⟨i1, i2, i3, t1, t2, t3, n, hi, hg⟩, _, _⟩ := (show ObjOk X.prog X.w H s.heap b (bagO b c) from I.hok b _ h)
  refine ⟨i1, i2, i3, hi, ?_⟩
  have J := I.write (t' := s.toks) (h' := s.heap) (x := b) (e := b) (o := .lst (bagL c i1 i2 i3)) (by rw [h]; exact True.intro) (.inl rfl) (fun _ _ _ q => q) ⟨_, hg⟩
    ⟨sz_of (by show 4 ≤ 100000; decide), [.ref c, .int i1 t1, .int i2 t2, .int i3 t3], n, .cons rfl (.cons ⟨_, rfl⟩ (.cons ⟨_, rfl⟩ (.cons ⟨_, rfl⟩ .nil))), hg⟩
  exact J
/-- .. and closed -/
theorem bag_shut {i1 i2 i3 : Int} (I : Inv X pins σ H s) (h : H b = some (.lst (bagL c i1 i2 i3))) (hi : 0 ≤ i1) : Inv X pins σ (upd H b (bagO b c)) s := by
  obtain ⟨_, its, n, r, hg⟩ := (show ObjOk X.prog X.w H s.heap b (.lst (bagL c i1 i2 i3)) from I.hok b _ h)
  cases r with
  | cons r0 r =>
    cases r with
    | cons r1 r =>
      cases r with
      | cons r2 r =>
        cases r with
        | cons r3 r =>
          cases r
          cases r0
          obtain ⟨t1, rfl⟩ := r1
          obtain ⟨t2, rfl⟩ := r2
          obtain ⟨t3, rfl⟩ := r3
          have J := I.write (t' := s.toks) (h' := s.heap) (x := b) (e := b) (o := bagO b c) (by rw [h]; exact True.intro) (.inl rfl) (fun _ _ _ q => q) ⟨_, hg⟩
            ⟨⟨i1, i2, i3, t1, t2, t3, n, hi, hg⟩, ⟨_, hg⟩, fun h1 h2 z k => by
              obtain ⟨j1, j2, j3, u1, u2, u3, m, hj, e⟩ := z
              exact ⟨j1, j2, j3, u1, u2, u3, m, hj, k _ e⟩⟩
          exact J
/-- a block between the opening and the closing -/
def tBag (t : TS) : TS := fun D σ H => ∃ b c, H b = some (bagO b c) ∧ ∀ i1 i2 i3 : Int, 0 ≤ i1 →
  t { nx := fun σ' H' => ∃ j1 j2 j3, 0 ≤ j1 ∧ H' b = some (.lst (bagL c j1 j2 j3)) ∧ D.nx σ' (upd H' b (bagO b c)), rt := fun v H' => ∃ j1 j2 j3, 0 ≤ j1 ∧ H' b = some (.lst (bagL c j1 j2 j3)) ∧ D.rt v (upd H' b (bagO b c)),
      bk := fun σ' H' => ∃ j1 j2 j3, 0 ≤ j1 ∧ H' b = some (.lst (bagL c j1 j2 j3)) ∧ D.bk σ' (upd H' b (bagO b c)), ct := fun σ' H' => ∃ j1 j2 j3, 0 ≤ j1 ∧ H' b = some (.lst (bagL c j1 j2 j3)) ∧ D.ct σ' (upd H' b (bagO b c)) } σ (upd H b (.lst (bagL c i1 i2 i3)))
theorem pss_bag {st : List Stmt} {t : TS} (h : PSs X st t) : PSs X st (tBag t) := by
  refine ⟨fun pins s σ H D I hw => ?_⟩
  obtain ⟨b, c, hb, hw⟩ := hw
  obtain ⟨i1, i2, i3, hi, I1⟩ := bag_open I hb
  refine thn (h.run pins s σ _ _ I1 (hw i1 i2 i3 hi)) fun f s1 q => ?_
  cases f with
  | next => obtain ⟨σ', H', I2, j1, j2, j3, hj, e, q⟩ := q; exact ⟨σ', _, bag_shut I2 e hj, q⟩
  | brk => obtain ⟨σ', H', I2, j1, j2, j3, hj, e, q⟩ := q; exact ⟨σ', _, bag_shut I2 e hj, q⟩
  | cont => obtain ⟨σ', H', I2, j1, j2, j3, hj, e, q⟩ := q; exact ⟨σ', _, bag_shut I2 e hj, q⟩
  | ret v => obtain ⟨x, σ', H', I2, r, j1, j2, j3, hj, e, q⟩ := q; exact ⟨x, σ', _, bag_shut I2 e hj, r, q⟩
/-- a block that makes a bag and hands it back -/
def tSeal (t : TS) : TS := fun D σ H => t { nx := D.nx, rt := fun v H' => ∃ b c i1 i2 i3, v = .ref b ∧ 0 ≤ i1 ∧ H' b = some (.lst (bagL c i1 i2 i3)) ∧ D.rt (.ref b) (upd H' b (bagO b c)), bk := D.bk, ct := D.ct } σ H
theorem pss_seal {st : List Stmt} {t : TS} (h : PSs X st t) : PSs X st (tSeal t) := by
  refine ⟨fun pins s σ H D I hw => ?_⟩
  refine thn (h.run pins s σ _ _ I hw) fun f s1 q => ?_
  cases f with
  | next => exact q
  | brk => exact q
  | cont => exact q
  | ret v =>
    obtain ⟨x, σ', H', I2, r, b, c, i1, i2, i3, rfl, hi, e, q⟩ := q
    exact ⟨_, σ', _, bag_shut I2 e hi, r, q⟩
end

/-! ## 9. isinstance against built-in classes; data that repr tells -/
def tyD : PyData → String
  | .none => "NoneType"
  | .bool _ => "bool"
  | .int _ => "int"
  | .str _ => "str"
  | .list _ => "list"
  | .tuple _ => "tuple"
  | .dict _ => "dict"
def isSeqD : PyData → Bool
  | .list _ => true
  | .tuple _ => true
  | _ => false
def isLstD : PyData → Bool
  | .list _ => true
  | _ => false
def isTupD : PyData → Bool
  | .tuple _ => true
  | _ => false
theorem dp_ty {K : PySem.W.Frag} {H : Hp} {x : V} {d : PyData} (h : Dp K H x d) : TyX K H x (.type (tyD d)) := by
  cases h with
  | non => exact .base .non
  | bl b => exact .base (.bl b)
  | int i => exact .base (.int i)
  | str z => exact .base (.str z)
  | lst h _ =>
    rcases h with (h | ⟨o, h⟩) | ⟨o, its, n, hk, hc, _⟩
    · exact .base (.lst h)
    · exact .base (.frz h)
    · exact .kList hk hc
  | tup h _ =>
    rcases h with (h | ⟨o, h⟩) | ⟨o, its, n, hk, hc, _⟩
    · exact .base (.tup h)
    · exact .fTuple h
    · exact .kTuple hk hc
def rIsiU (K : PySem.W.Frag) : List V → Hp → VK → Prop := fun xs H Q => rIsiT K xs H Q ∨ rIsi K xs H Q
theorem call_isiU {X : Cx} : CallR X (.builtin "isinstance") (rIsiU X.K) := by
  intro pins s σ H xs us Q I r h
  rcases h with h | h
  · exact call_isiT pins s σ H xs us Q I r h
  · exact call_isi pins s σ H xs us Q I r h
section
variable {K : PySem.W.Frag} {H : Hp} {Q : VK} {x : V} {d : PyData} {tp : Addr}
theorem isi_seq (nd : ∀ kvs, d ≠ .dict kvs) : PySem.W.kitAny K (.type (tyD d)) [.type "list", .type "tuple"] = some (isSeqD d) := by
  have no : ∀ T : String, kitB T "list" = some false → kitB T "tuple" = some false → PySem.W.kitAny K (.type T) [.type "list", .type "tuple"] = some false := fun T h1 h2 =>
    kitAny_cons (b := false) (kit_ty h1) (fun _ => kitAny_cons (b := false) (kit_ty h2) (fun _ => kitAny_nil) (fun z => by cases z)) (fun z => by cases z)
  cases d with
  | none => exact no "NoneType" (by decide +kernel) (by decide +kernel)
  | bool b => exact no "bool" (by decide +kernel) (by decide +kernel)
  | int b => exact no "int" (by decide +kernel) (by decide +kernel)
  | str b => exact no "str" (by decide +kernel) (by decide +kernel)
  | list b => exact kitAny_cons (b := true) (kit_ty (show kitB "list" "list" = some true by decide +kernel)) (fun z => by cases z) (fun _ => rfl)
  | tuple b => exact kitAny_cons (b := false) (kit_ty (show kitB "tuple" "list" = some false by decide +kernel)) (fun _ => kitAny_cons (b := true) (kit_ty (show kitB "tuple" "tuple" = some true by decide +kernel)) (fun z => by cases z) (fun _ => rfl)) (fun z => by cases z)
  | dict kvs => exact absurd rfl (nd kvs)
theorem isi_lst (nd : ∀ kvs, d ≠ .dict kvs) : PySem.W.kitOne K (.type (tyD d)) (.type "list") = some (isLstD d) := by
  cases d with
  | none => exact kit_ty (show kitB "NoneType" "list" = some false by decide +kernel)
  | bool b => exact kit_ty (show kitB "bool" "list" = some false by decide +kernel)
  | int b => exact kit_ty (show kitB "int" "list" = some false by decide +kernel)
  | str b => exact kit_ty (show kitB "str" "list" = some false by decide +kernel)
  | list b => exact kit_ty (show kitB "list" "list" = some true by decide +kernel)
  | tuple b => exact kit_ty (show kitB "tuple" "list" = some false by decide +kernel)
  | dict kvs => exact absurd rfl (nd kvs)
theorem isi_tup (nd : ∀ kvs, d ≠ .dict kvs) : PySem.W.kitOne K (.type (tyD d)) (.type "tuple") = some (isTupD d) := by
  cases d with
  | none => exact kit_ty (show kitB "NoneType" "tuple" = some false by decide +kernel)
  | bool b => exact kit_ty (show kitB "bool" "tuple" = some false by decide +kernel)
  | int b => exact kit_ty (show kitB "int" "tuple" = some false by decide +kernel)
  | str b => exact kit_ty (show kitB "str" "tuple" = some false by decide +kernel)
  | list b => exact kit_ty (show kitB "list" "tuple" = some false by decide +kernel)
  | tuple b => exact kit_ty (show kitB "tuple" "tuple" = some true by decide +kernel)
  | dict kvs => exact absurd rfl (nd kvs)
theorem dp_nd (h : Dp K H x d) : ∀ kvs, d ≠ .dict kvs := by
  intro kvs e
  subst e
  cases h
theorem k_isiLT (h : Dp K H x d) (ht : H tp = some (.tup [.ty "list", .ty "tuple"])) (q : Q (.bl (isSeqD d)) H) : rIsiU K [x, .ref tp] H Q :=
  .inl ⟨x, tp, _, _, _, _, rfl, ht, .cons (.ty _) (.cons (.ty _) .nil), dp_ty h, isi_seq (dp_nd h), q⟩
theorem k_isiL (h : Dp K H x d) (q : Q (.bl (isLstD d)) H) : rIsiU K [x, .ty "list"] H Q := .inr ⟨x, _, _, _, _, rfl, .ty _, dp_ty h, isi_lst (dp_nd h), q⟩
theorem k_isiTu (h : Dp K H x d) (q : Q (.bl (isTupD d)) H) : rIsiU K [x, .ty "tuple"] H Q := .inr ⟨x, _, _, _, _, rfl, .ty _, dp_ty h, isi_tup (dp_nd h), q⟩
end
/-- data nested less than so deep, all of whose parts repr tells -/
def Fit : Nat → PyData → Prop
  | 0, _ => False
  | j + 1, d => match d with
    | .none => True
    | .bool _ => True
    | .int i => i.natAbs.log2 < 1920
    | .str x => (reprText x).length ≤ sizeLine
    | .list ds => ds.length ≤ 50000 ∧ ∀ e ∈ ds, Fit j e
    | .tuple ds => ds.length ≤ 50000 ∧ ∀ e ∈ ds, Fit j e
    | .dict _ => False
theorem dpall_len {K : PySem.W.Frag} {H : Hp} : ∀ {xs : List V} {ds : List PyData}, DpAll K H xs ds → xs.length = ds.length
  | _, _, .nil => rfl
  | _, _, .cons _ r => by rw [List.length_cons, List.length_cons, dpall_len r]
theorem dpall_get {K : PySem.W.Frag} {H : Hp} : ∀ {xs : List V} {ds : List PyData} {i : Nat} {x : V}, DpAll K H xs ds → xs[i]? = some x → ∃ d, ds[i]? = some d ∧ Dp K H x d
  | _, _, _, _, .nil, h => by simp at h
  | _, _, 0, x, .cons h r, e => by
    simp at e
    subst e
    exact ⟨_, rfl, h⟩
  | _, _, i + 1, x, .cons h r, e => by
    obtain ⟨d, h1, h2⟩ := dpall_get (i := i) (x := x) r (by simpa using e)
    exact ⟨d, by simpa using h1, h2⟩
/-- a scalar's text -/
theorem repr_of_dp {K : PySem.W.Frag} {H : Hp} {x : V} {d : PyData} {j : Nat} (h : Dp K H x d) (f : Fit (j + 1) d) (hs : isSeqD d = false) : ∃ z, ReprV x z := by
  cases h with
  | non => exact ⟨_, .non⟩
  | bl b => exact ⟨_, .bl b⟩
  | int i => exact ⟨_, .int i f⟩
  | str z => exact ⟨_, .str z f⟩
  | lst _ _ => cases hs
  | tup _ _ => cases hs
theorem dp_scal {K : PySem.W.Frag} {H : Hp} {x y : V} {d : PyData} (h1 : Dp K H x d) (h2 : Dp K H y d) (hs : isSeqD d = false) : x = y := by
  cases h1 <;> cases h2 <;> first | rfl | cases hs

/-! ## 10. The rules with the written part as a letter of its own (a comprehension's block has its own context) -/
section
variable {X : Cx} (K : PySem.W.Frag)
theorem op_addK (hK : X.K = K := by rfl) : OpR X (binaryOp .Add) (rAddU K) := by subst hK; exact op_addU
theorem op_eqK (hu : X.A.units + 64 < cLine) (hK : X.K = K := by rfl) : OpR X (compareOp .Eq) (rEqU K) := by subst hK; exact op_eqU hu
theorem op_neK (hu : X.A.units + 64 < cLine) (hK : X.K = K := by rfl) : OpR X (compareOp .NotEq) (rNeU K) := by subst hK; exact op_neU hu
theorem op_inK (hK : X.K = K := by rfl) : OpR X (compareOp .In) (rIn K false) := by subst hK; exact op_in_seq
theorem op_niK (hK : X.K = K := by rfl) : OpR X (compareOp .NotIn) (rIn K true) := by subst hK; exact op_notIn_seq
theorem sl_k (hK : X.K = K := by rfl) : SlR X (rSlU K) := by subst hK; exact sl_u
theorem ix_k (hK : X.K = K := by rfl) : IxR X (rIx K) := by subst hK; exact ix_seq
theorem call_lenK (hK : X.K = K := by rfl) : CallR X (.builtin "len") (rLenU K) := by subst hK; exact call_lenU
theorem call_listK (hK : X.K = K := by rfl) : CallR X (.type "list") (rListU K) := by subst hK; exact call_listU
theorem call_tupK (hK : X.K = K := by rfl) : CallR X (.type "tuple") (rTupU K) := by subst hK; exact call_tupU
theorem call_isiK (hK : X.K = K := by rfl) : CallR X (.builtin "isinstance") (rIsiU K) := by subst hK; exact call_isiU
theorem cr_allK (hc : X.calm = true := by rfl) (hK : X.K = K := by rfl) : CallR X (.builtin "all") (rAll K) := by subst hK; exact cr_all hc
theorem cr_anyK (hc : X.calm = true := by rfl) (hK : X.K = K := by rfl) : CallR X (.builtin "any") (rAny K) := by subst hK; exact cr_any hc
theorem cr_sumK (hc : X.calm = true := by rfl) (hK : X.K = K := by rfl) : CallR X (.builtin "sum") (rSum K) := by subst hK; exact cr_sum hc
theorem cr_sortedSK (hK : X.K = K := by rfl) : CallR X (.builtin "sorted") (rSortedS K) := by subst hK; exact cr_sortedS
theorem pi_listK {tg l : Expr} {tl : TE} (hl : PE X l tl) (hK : X.K = K := by rfl) : PI X tg l (iList K tl) := by subst hK; exact pi_list hl
theorem pi_tupK {tg l : Expr} {tl : TE} (hl : PE X l tl) (hK : X.K = K := by rfl) : PI X tg l (iTup K tl) := by subst hK; exact pi_tup hl
theorem pg_tupK (n : Nat) {es : List Expr} {k : Nat} {t : TGs} {pos : Pos} (hc : X.calm = true) (h : PGs X es t) (hK : X.K = K := by rfl) (hn : (assignEach es X.env).length = n := by rfl) (hst : (assignEach es X.env).findIdx? (·.1) = none := by rfl) : PG X (.Tuple es k pos) (gTup K n t) := by subst hK; exact pg_tup hc h hn hst
theorem pi_enumK {e : Expr} {ta : TA} {p pos tpos : Pos} {elts : List Expr} {kk : Nat} (hg : Gl X "enumerate") (hm : X.mg "enumerate" = none) (ha : PA X [e] ta) (hK : X.K = K := by rfl) (hs : starEach [e] X.env = [(false, eval e X.env)] := by rfl) : PI X (.Tuple elts kk tpos) (.Call (.Name "enumerate" p) [e] [] pos) (iEnum K ta) := by subst hK; exact pi_enum hg hm ha hs
theorem pi_zipK {e e2 : Expr} {ta : TA} {p pos tpos : Pos} {elts : List Expr} {kk : Nat} (hg : Gl X "zip") (hm : X.mg "zip" = none) (ha : PA X [e, e2] ta) (hK : X.K = K := by rfl)
    (hs : starEach [e, e2] X.env = (false, eval e X.env) :: starEach [e2] X.env := by rfl) (hpl : (backTo pos (starEach [e2] X.env)).any (·.1) = false := by rfl) : PI X (.Tuple elts kk tpos) (.Call (.Name "zip" p) [e, e2] [] pos) (RZ.iZipA K ta) := by subst hK; exact RZ.pi_zipA hg hm ha hs hpl
def rJoin (K : PySem.W.Frag) : V → List V → Hp → VK → Prop := fun x xs H Q => ∃ a p, ∃ ys : List Str, x = .str a ∧ xs = [.ref p] ∧ (SqL K H p (ys.map V.str) ∨ SqT K H p (ys.map V.str)) ∧ (ys.map (·.length)).sum + ys.length * a.length ≤ 16777216 ∧ Q (.str (Txt.join a ys)) H
theorem pe_joinK {o e : Expr} {to te : TE} {apos pos : Pos} (ho : PE X o to) (he : PE X e te) (hK : X.K = K := by rfl) (hs : starEach [e] X.env = [(false, eval e X.env)] := by rfl) (hbase : attributeBase o "join" X.env (eval o X.env) = eval o X.env := by rfl) (hline : (apos.endLine == pos.line) = true := by rfl) :
    PE X (.Call (.Attribute o "join" apos) [e] [] pos) (tM1 (rJoin K) to te) := by subst hK; exact pe_join ho he hs hbase hline
def rSplit : V → List V → Hp → VK → Prop := fun x xs H Q => ∃ a b, x = .str a ∧ xs = [.str b] ∧ (b.length == 0) = false ∧ a.length + 2 ≤ sizeLine ∧ rNewStrs (Txt.split a b) H Q
theorem pe_splitK {o e : Expr} {to te : TE} {apos pos : Pos} (ho : PE X o to) (he : PE X e te) (hs : starEach [e] X.env = [(false, eval e X.env)] := by rfl) (hbase : attributeBase o "split" X.env (eval o X.env) = eval o X.env := by rfl) (hline : (apos.endLine == pos.line) = true := by rfl) :
    PE X (.Call (.Attribute o "split" apos) [e] [] pos) (tM1 rSplit to te) := pe_split ho he hs hbase hline
theorem pe_bmK {T id : String} {name : Str} {r : V → List V → Hp → VK → Prop} {o e : Expr} {es : List Expr} {to : TE} {t : TA} {apos cpos : Pos} (pa : PlainAttrs T) (slot : Slot T name id) (hty : typeOf (.builtin id) = pure (.type "method_descriptor")) (hm : MtR X id r) (ho : PE X o to) (ha : PA X (e :: es) t) (hK : X.K = K := by rfl)
    (hbase : attributeBase o name X.env (eval o X.env) = eval o X.env := by rfl)
    (hfew : ((backTo cpos (starEach (e :: es) X.env)).all (fun x => !x.1) && (backToKw cpos (keywordEach [] X.env)).all (fun x => x.1.isSome)
      && decide ((e :: es).length + ([] : List Keyword).length + (if ([] : List Keyword).isEmpty then 0 else 1) < 30)) = true := by rfl)
    (hline : (apos.endLine == cpos.line) = true := by rfl) (hs : starEach (e :: es) X.env = (false, eval e X.env) :: starEach es X.env := by rfl) (hplain : (backTo cpos (starEach es X.env)).any (·.1) = false := by rfl) :
    PE X (.Call (.Attribute o name apos) (e :: es) [] cpos) (tBM K T r to t) := by subst hK; exact pe_bm pa slot hty hm ho ha hbase hfew hline hs hplain
end
section
variable {X : Cx}
theorem pe_gs {x z : Str} {pos : Pos} (h : ∃ t, X.mg x = some (.str z t)) (hg : Gl X x := by rfl) (hd : (x == ("__debug__" : Str)) = false := by decide) : PE X (.Name x pos) (tC (.str z)) := by
  obtain ⟨t, h⟩ := h
  exact pe_glob hg h ⟨t, rfl⟩ hd
theorem pe_gi {x : Str} {i : Int} {pos : Pos} (h : ∃ t, X.mg x = some (.int i t)) (hg : Gl X x := by rfl) (hd : (x == ("__debug__" : Str)) = false := by decide) : PE X (.Name x pos) (tC (.int i)) := by
  obtain ⟨t, h⟩ := h
  exact pe_glob hg h ⟨t, rfl⟩ hd
theorem pe_gr {x : Str} {a : Addr} {pos : Pos} (h : X.mg x = some (.ref a)) (hg : Gl X x := by rfl) (hd : (x == ("__debug__" : Str)) = false := by decide) : PE X (.Name x pos) (tC (.ref a)) := pe_glob hg h rfl hd
end
section
variable {K : PySem.W.Frag} {H : Hp} {Q : VK} {a : Addr} {z z2 : Str}
theorem k_join {ys : List Str} (h : SqL K H a (ys.map V.str)) (hz : (ys.map (·.length)).sum + ys.length * z.length ≤ 100000) (q : Q (.str (Txt.join z ys)) H) : rJoin K (.str z) [.ref a] H Q := ⟨z, a, ys, rfl, rfl, .inl h, Nat.le_trans hz (by decide), q⟩
theorem k_joinT {ys : List Str} (h : SqT K H a (ys.map V.str)) (hz : (ys.map (·.length)).sum + ys.length * z.length ≤ 100000) (q : Q (.str (Txt.join z ys)) H) : rJoin K (.str z) [.ref a] H Q := ⟨z, a, ys, rfl, rfl, .inr h, Nat.le_trans hz (by decide), q⟩
theorem k_split (h0 : (z2.length == 0) = false) (hz : z.length ≤ 99990) (h : ∀ p H2, H p = none → Same H H2 → H2 p = some (.lst ((Txt.split z z2).map V.str)) → Q (.ref p) H2) : rSplit (.str z) [.str z2] H Q := ⟨z, z2, rfl, rfl, h0, sz_of (by omega), k_strs h⟩
theorem k_sortedS {xs : List Str} (h : SqL K H a (xs.map V.str)) (hz : xs.length < 64) (q : ∀ ys p H2, ys.Perm xs → sortedS ys = true → H p = none → Same H H2 → H2 p = some (.lst (ys.map V.str)) → Q (.ref p) H2) : rSortedS K [.ref a] H Q := ⟨a, xs, rfl, h, hz, fun ys p h1 h2 h3 => q ys p _ h1 h2 h3 (sm_new h3) upd_same⟩
theorem k_inS {c : Nat} (q : Q (.bl (decide (c ∈ z.cps.toList))) H) : rInS (.str ⟨#[c]⟩) (.str z) H Q := ⟨c, z, rfl, rfl, q⟩
theorem k_niS {c : Nat} (q : Q (.bl (!decide (c ∈ z.cps.toList))) H) : rNotInS (.str ⟨#[c]⟩) (.str z) H Q := ⟨c, z, rfl, rfl, q⟩
end

theorem at_n {α : Type} {xs : List α} {z : Int} {j : Nat} {v : α} (e : z = (j : Int)) (h : xs[j]? = some v) : atI xs z = some v := by
  have hj : j < xs.length := (List.getElem?_eq_some_iff.mp h).1
  subst e
  unfold atI ixN
  rw [if_pos (by omega), if_pos (by omega), Option.bind_some, Int.toNat_natCast]
  exact h
theorem map_get {α β : Type} {g : α → β} {xs : List α} {i : Nat} {y : β} (h : (xs.map g)[i]? = some y) : ∃ x, xs[i]? = some x ∧ y = g x := by
  rw [List.getElem?_map] at h
  cases e : xs[i]? with
  | none => rw [e] at h; cases h
  | some x => rw [e] at h; exact ⟨x, rfl, (Option.some.inj h).symm⟩
theorem take_more {α : Type} {l : List α} {i : Nat} {x : α} (h : l[i]? = some x) : l.take (i + 1) = l.take i ++ [x] := by
  rw [List.take_add_one, h]
  rfl
theorem fidx_some {α : Type} {p : α → Bool} : ∀ {ws : List α} {i : Nat} {u : α}, ws[i]? = some u → p u = true → (∀ k, k < i → ∀ v, ws[k]? = some v → p v = false) → ws.findIdx? p = some i
  | [], _, _, h, _, _ => by simp at h
  | w :: r, 0, u, h, hp, _ => by
    have e : w = u := Option.some.inj h
    subst e
    rw [List.findIdx?_cons, hp]
    rfl
  | w :: r, i + 1, u, h, hp, hk => by
    have h0 := hk 0 (by omega) w rfl
    have ih := fidx_some (ws := r) (i := i) h hp fun k hk' v hv => hk (k + 1) (by omega) v hv
    rw [List.findIdx?_cons, h0, ih]
    rfl
theorem fidx_none {α : Type} {p : α → Bool} {ws : List α} (h : ∀ (k : Nat) v, ws[k]? = some v → p v = false) : ws.findIdx? p = none := by
  rw [List.findIdx?_eq_none_iff]
  intro x hx
  obtain ⟨k, hk⟩ := List.mem_iff_getElem?.mp hx
  exact h k x hk
/-! ## 11. Texts by their codes -/
/-- the text of one sign -/
def sg (c : Nat) : Str := ⟨#[c]⟩
/-- the text of such codes -/
def tx (cs : List Nat) : Str := ⟨cs.toArray⟩
theorem tl_tx (cs : List Nat) : TL.tl (tx cs) = cs := rfl
theorem tl_sg (c : Nat) : TL.tl (sg c) = [c] := rfl
theorem tx_tl (z : Str) : tx (TL.tl z) = z := TL.mk_tl z
theorem len_tx (cs : List Nat) : (tx cs).length = cs.length := TL.len_tl (tx cs)
theorem tx_inj {a b : List Nat} (h : tx a = tx b) : a = b := by
  rw [← tl_tx a, ← tl_tx b, h]
theorem sg_inj {a b : Nat} (h : sg a = sg b) : a = b := by
  have e : TL.tl (sg a) = TL.tl (sg b) := by rw [h]
  rw [tl_sg, tl_sg] at e
  exact List.cons.inj e |>.1
theorem joinL_nil : ∀ ps : List (List Nat), TL.joinL [] ps = ps.flatten
  | [] => rfl
  | [p] => by simp [TL.joinL]
  | p :: q :: r => by
    show p ++ ([] ++ TL.joinL [] (q :: r)) = _
    rw [joinL_nil (q :: r)]
    rfl
/-- single signs put together -/
theorem join_sgs (cs : List Nat) : Txt.join (Str.ofString "") (cs.map sg) = tx cs := by
  refine TL.ext_tl ?_
  rw [TL.join_eq, TL.tl_join, tl_tx, show TL.tl (Str.ofString "") = [] from rfl, joinL_nil, List.map_map]
  have e : (TL.tl ∘ sg) = fun c => [c] := by
    funext c
    rfl
  rw [e]
  induction cs with
  | nil => rfl
  | cons c r ih =>
    show [c] ++ (r.map fun c => [c]).flatten = c :: r
    rw [ih]
    rfl
theorem ltCps_1 (a b : Nat) : PySem.Spec.ltCps [a] [b] = decide (a < b) := by
  show (decide (a < b) || (a == b && false)) = _
  rw [Bool.and_false, Bool.or_false]
theorem risingS_sgs : ∀ (c : Nat) (cs : List Nat), risingS (sg c) (cs.map sg) = true → (c :: cs).Pairwise (· ≤ ·)
  | c, [], _ => by simp
  | c, d :: r, h => by
    have h1 : (!PySem.Spec.ltCps [d] [c] && risingS (sg d) (r.map sg)) = true := h
    obtain ⟨h2, h3⟩ := ba h1
    rw [ltCps_1] at h2
    have h4 : c ≤ d := by simpa using h2
    have ih := risingS_sgs d r h3
    have ih' := List.pairwise_cons.mp ih
    refine List.pairwise_cons.mpr ⟨fun x hx => ?_, ih⟩
    rcases List.mem_cons.mp hx with e | hx
    · rw [e]
      exact h4
    · exact Nat.le_trans h4 (ih'.1 x hx)
theorem sortedS_sgs {cs : List Nat} (h : sortedS (cs.map sg) = true) : cs.Pairwise (· ≤ ·) := by
  cases cs with
  | nil => simp
  | cons c r => exact risingS_sgs c r h
theorem lt_of_le_nodup : ∀ {cs : List Nat}, cs.Pairwise (· ≤ ·) → cs.Nodup → cs.Pairwise (· < ·)
  | [], _, _ => .nil
  | c :: r, h, n => by
    have h' := List.pairwise_cons.mp h
    have n' := List.nodup_cons.mp n
    refine List.pairwise_cons.mpr ⟨fun x hx => ?_, lt_of_le_nodup h'.2 n'.2⟩
    have := h'.1 x hx
    have ne : c ≠ x := fun e => n'.1 (by rw [e]; exact hx)
    omega
/-- a permutation of single signs is one of the codes -/
theorem perm_sgs {ys : List Str} {cs : List Nat} (h : ys.Perm (cs.map sg)) : ∃ ds : List Nat, ys = ds.map sg ∧ ds.Perm cs := by
  refine ⟨ys.map fun y => (TL.tl y).headD 0, ?_, ?_⟩
  · rw [List.map_map]
    have e : ∀ y ∈ ys, (sg ∘ fun y => (TL.tl y).headD 0) y = y := by
      intro y hy
      obtain ⟨c, _, e⟩ := List.mem_map.mp (h.mem_iff.mp hy)
      rw [← e]
      rfl
    rw [List.map_congr_left e, List.map_id']
  · have h2 := h.map fun y => (TL.tl y).headD 0
    rw [List.map_map] at h2
    have e : ((fun y => (TL.tl y).headD 0) ∘ sg) = id := by
      funext c
      rfl
    rw [e, List.map_id] at h2
    exact h2

/-! ## 12. Exceptions of the text with one field besides their word -/
/-- __init__(self, v): self.word = nm; self.fl = v -/
def spX1 (C : Addr) (nm fl : Str) : Sp := fun vs H Q _ => ∃ (a : Addr) (v : V), vs = [.ref a, v] ∧ H a = some (exo a C none) ∧
  ∀ d H', H d = none → d ≠ a → H' = upd (upd (upd H d (exd d [("word", .str nm)])) a (exo a C (some d))) d (exd d [(fl, v), ("word", .str nm)]) → Q .non H'
/-- the class under the module's name x, made with one value -/
structure XCls (P : Program) (w : World) (K : PySem.W.Frag) (mg : Str → Option Value) (base : Heap) (x : Str) (k : Nat) (nm fl : Str) : Prop where
  gC : mg x = some (.ref (He.ga K x))
  O : Oex K (He.ga K x) (He.ma K (He.ga K x) "__init__")
  nw : PySem.W.findIn K (.ref (He.ga K x)) "word" = some none
  nf : PySem.W.findIn K (.ref (He.ga K x)) fl = some none
  F : ∃ fd ps, FnOk P w K mg base CX0 k (He.ma K (He.ga K x) "__init__") fd ps (spX1 (He.ga K x) nm fl) ∧ Binds K fd ps []
def xfs (nm fl : Str) (v : V) : List (Str × V) := [(fl, v), ("word", .str nm)]
def nMk (C : Addr) (sp : Sp) (dvs : List V) (vs : List V) (H1 : Hp) (Q : XK) : Prop := vs.length ≤ 1000 ∧ ∀ a, H1 a = none → sp (.ref a :: (vs ++ dvs)) (upd H1 a (exo a C none))
  (fun v H2 => v = .non ∧ ∃ (d : Addr) (fs : List (Str × V)), H2 a = some (exo a C (some d)) ∧ H2 d = some (exd d fs) ∧ H1 d = none ∧ Q (.ref C) (some d) (upd (del H2 a) d (.xd fs))) (fun _ _ _ => False)
theorem k_mk {C : Addr} {sp : Sp} {dvs : List V} {ta : TA} {σ : L2.St} {H : Hp} {Q : XK} (h : ta σ H fun vs H1 => nMk C sp dvs vs H1 Q) : tMkO C sp dvs ta σ H Q := h
theorem made_x1 {C a : Addr} {nm fl : Str} {v : V} {H1 : Hp} (hk : H1 a = none) {Q : XK} (h : ∀ d H', H1 d = none → Same H1 H' → H' d = some (.xd (xfs nm fl v)) → Q (.ref C) (some d) H') :
    spX1 C nm fl (.ref a :: ([v] ++ [])) (upd H1 a (exo a C none)) (fun u H2 => u = .non ∧ ∃ (d : Addr) (fs : List (Str × V)), H2 a = some (exo a C (some d)) ∧ H2 d = some (exd d fs) ∧ H1 d = none ∧ Q (.ref C) (some d) (upd (del H2 a) d (.xd fs))) (fun _ _ _ => False) := by
  refine ⟨a, v, rfl, upd_same, fun d H' hd ne e => ⟨rfl, d, [(fl, v), ("word", .str nm)], ?_, ?_, ?_, h d _ ?_ (fun b o hb => ?_) upd_same⟩⟩
  · rw [e, upd_ne (Ne.symm ne), upd_same]
  · rw [e, upd_same]
  · rw [upd_ne ne] at hd
    exact hd
  · rw [upd_ne ne] at hd
    exact hd
  · have hba : b ≠ a := ne_of_none hb hk
    have hd1 : H1 d = none := by
      rw [upd_ne ne] at hd
      exact hd
    have hbd : b ≠ d := ne_of_none hb hd1
    rw [upd_ne hbd, del_ne hba, e, upd_ne hbd, upd_ne hba, upd_ne hbd, upd_ne hba]
    exact hb
theorem k_x1 {C : Addr} {nm fl : Str} {v : V} {H1 : Hp} {Q : XK} (h : ∀ d H', H1 d = none → Same H1 H' → H' d = some (.xd (xfs nm fl v)) → Q (.ref C) (some d) H') : nMk C (spX1 C nm fl) [] [v] H1 Q := ⟨by show 1 ≤ 1000; decide, fun a ha => made_x1 ha h⟩
theorem pmk_x1 {X : Cx} {x nm fl : Str} {k j : Nat} {p pos : Pos} {e : Expr} {ta : TA} {K : PySem.W.Frag} (c : XCls X.prog X.w K X.mg X.base x k nm fl) (hr : Room j X.A) (ha : PA X [e] ta) (hx : ∀ E, Passes CX0 X E := by exact fun _ => fun _ _ _ _ _ _ _ h => h.elim) (hK : X.K = K := by rfl) (hj : k + 1 ≤ j := by first | decide | omega) (hg : Gl X x := by rfl) (hdb : (x == ("__debug__" : Str)) = false := by decide)
    (he : starEach [e] X.env = (false, eval e X.env) :: starEach [] X.env := by rfl) (hpl : (backTo pos (starEach [] X.env)).any (·.1) = false := by rfl) :
    PMk X (.Call (.Name x p) [e] [] pos) (tMkO (He.ga K x) (spX1 (He.ga K x) nm fl) [] ta) := by
  subst hK
  obtain ⟨fd, ps, F1, hb⟩ := c.F
  exact pmk_oex c.O.T c.O.iC c.O.tI F1 (hr.mono hj) hb .nil (hx _) hg c.gC ha hdb he hpl
/-- a class's __init__ keeps that -/
theorem x1_read {K : PySem.W.Frag} {C : Addr} {nm fl : Str} (T : OexC K C) (nw : PySem.W.findIn K (.ref C) "word" = some none) (nf : PySem.W.findIn K (.ref C) fl = some none) {vs : List V} {H : Hp} {Q : VK} {E : XK} (h : spX1 C nm fl vs H Q E) {N : List Str} (hN : N.length = 2) :
    tSeq (tOst K "word" (tVar 0) (tC (.str nm))) (tOst K fl (tVar 0) (tVar 1)) { nx := fun _ H' => Q .non H', rt := Q } (L2.start N vs) H := by
  obtain ⟨a, v, rfl, ha, q⟩ := h
  have es : L2.start N [.ref a, v] = [some (.ref a), some v] := by
    unfold L2.start
    rw [hN]
    rfl
  rw [es]
  refine ⟨_, rfl, a, C, rfl, T, nw, .inl ⟨ha, fun d hd ne => ?_⟩⟩
  refine ⟨_, rfl, _, rfl, a, C, rfl, T, nf, .inr ⟨d, [("word", .str nm)], upd_same, ?_, by show 1 ≤ 900; decide, ?_⟩⟩
  · rw [upd_ne ne, upd_same]
  · exact q d _ hd ne rfl

/-! ## 13. Plain texts, good data -/
/-- all signs below 128 -/
def Pl (z : Str) : Prop := ∀ c ∈ TL.tl z, c < 128
theorem pl_ok {z : Str} (h : Pl z) : PyData.strOk z = true := by
  show z.cps.all (· < 0x110000) = true
  rw [Array.all_eq_true']
  intro c hc
  have := h c (by simpa using hc)
  exact decide_eq_true (Nat.lt_of_lt_of_le this (by decide))
theorem pl_repr {z : Str} (h : Pl z) (hz : z.length ≤ 100000) : (reprText z).length ≤ sizeLine := by
  have h1 := PySem.StrLaws.reprText_len z fun c hc => Nat.lt_of_lt_of_le (h c hc) (by decide)
  exact Nat.le_trans h1 (Nat.le_trans (show 10 * z.length + 2 ≤ 1000002 by omega) (by decide))
/-- nested less than j deep; texts plain and short, no dicts -/
def Good : Nat → PyData → Prop
  | 0, _ => False
  | j + 1, d => match d with
    | .none => True
    | .bool _ => True
    | .int i => i.natAbs.log2 < 1920
    | .str x => Pl x ∧ x.length ≤ 100000
    | .list ds => ds.length ≤ 50000 ∧ ∀ e ∈ ds, Good j e
    | .tuple ds => ds.length ≤ 50000 ∧ ∀ e ∈ ds, Good j e
    | .dict _ => False
theorem Good.fit : ∀ {j : Nat} {d : PyData}, Good j d → Fit j d
  | 0, _, h => h.elim
  | j + 1, .none, _ => trivial
  | j + 1, .bool _, _ => trivial
  | j + 1, .int _, h => h
  | j + 1, .str _, h => pl_repr h.1 h.2
  | j + 1, .list _, h => ⟨h.1, fun e he => Good.fit (h.2 e he)⟩
  | j + 1, .tuple _, h => ⟨h.1, fun e he => Good.fit (h.2 e he)⟩
  | j + 1, .dict _, h => h.elim
theorem lay_all : ∀ {ds : List PyData}, (∀ e ∈ ds, PyData.canLay0 e = true) → PyData.canLayAll0 ds = true
  | [], _ => by simp [PyData.canLayAll0]
  | d :: r, h => by
    simp only [PyData.canLayAll0, Bool.and_eq_true]
    exact ⟨h d (List.mem_cons_self ..), lay_all fun e he => h e (List.mem_cons_of_mem _ he)⟩
theorem depth_all {j : Nat} : ∀ {ds : List PyData}, (∀ e ∈ ds, PyData.depth e ≤ j) → PyData.depthAll ds ≤ j
  | [], _ => by simp [PyData.depthAll]
  | d :: r, h => by
    simp only [PyData.depthAll]
    exact Nat.max_le.mpr ⟨h d (List.mem_cons_self ..), depth_all fun e he => h e (List.mem_cons_of_mem _ he)⟩
theorem Good.lay : ∀ {j : Nat} {d : PyData}, Good j d → PyData.canLay0 d = true
  | 0, _, h => h.elim
  | j + 1, .none, _ => by simp [PyData.canLay0]
  | j + 1, .bool _, _ => by simp [PyData.canLay0]
  | j + 1, .int _, _ => by simp [PyData.canLay0]
  | j + 1, .str _, h => by simp only [PyData.canLay0]; exact pl_ok h.1
  | j + 1, .list _, h => by simp only [PyData.canLay0]; exact lay_all fun e he => Good.lay (h.2 e he)
  | j + 1, .tuple _, h => by simp only [PyData.canLay0]; exact lay_all fun e he => Good.lay (h.2 e he)
  | j + 1, .dict _, h => h.elim
theorem Good.dep : ∀ {j : Nat} {d : PyData}, Good j d → PyData.depth d ≤ j
  | 0, _, h => h.elim
  | j + 1, .none, _ => by simp [PyData.depth]
  | j + 1, .bool _, _ => by simp [PyData.depth]
  | j + 1, .int _, _ => by simp [PyData.depth]
  | j + 1, .str _, h => by simp [PyData.depth]
  | j + 1, .list _, h => by simp only [PyData.depth]; exact Nat.succ_le_succ (depth_all fun e he => Good.dep (h.2 e he))
  | j + 1, .tuple _, h => by simp only [PyData.depth]; exact Nat.succ_le_succ (depth_all fun e he => Good.dep (h.2 e he))
  | j + 1, .dict _, h => h.elim
theorem Good.shaped {j : Nat} {d : PyData} (h : Good j d) (hj : j ≤ 64) : SeqAt.shaped d = true := Bool.and_eq_true_iff.mpr ⟨h.lay, decide_eq_true (Nat.le_trans h.dep hj)⟩
theorem Good.mono : ∀ {i j : Nat} {d : PyData}, i ≤ j → Good i d → Good j d
  | 0, _, _, _, h => h.elim
  | i + 1, 0, _, hij, _ => absurd hij (by omega)
  | i + 1, j + 1, .none, _, _ => trivial
  | i + 1, j + 1, .bool _, _, _ => trivial
  | i + 1, j + 1, .int _, _, h => h
  | i + 1, j + 1, .str _, _, h => h
  | i + 1, j + 1, .list _, hij, h => ⟨h.1, fun e he => Good.mono (Nat.le_of_succ_le_succ hij) (h.2 e he)⟩
  | i + 1, j + 1, .tuple _, hij, h => ⟨h.1, fun e he => Good.mono (Nat.le_of_succ_le_succ hij) (h.2 e he)⟩
  | i + 1, j + 1, .dict _, _, h => h.elim
theorem eqv_self {j : Nat} {d : PyData} (h : Good j d) : PyData.eqv d d = true := PySem.SeqAt.eqv_refl d h.lay
/-! lists of texts -/
def dStrs (ws : List Str) : PyData := .list (ws.map .str)
theorem dp_strs {K : PySem.W.Frag} {H : Hp} : ∀ ws : List Str, DpAll K H (ws.map V.str) (ws.map PyData.str)
  | [] => .nil
  | w :: r => .cons (.str w) (dp_strs r)
theorem dp_row {K : PySem.W.Frag} {H : Hp} {a : Addr} {ws : List Str} (h : SqL K H a (ws.map V.str)) : Dp K H (.ref a) (dStrs ws) := .lst h (dp_strs ws)
theorem dp_rowT {K : PySem.W.Frag} {H : Hp} {a : Addr} {ws : List Str} (h : SqT K H a (ws.map V.str)) : Dp K H (.ref a) (.tuple (ws.map .str)) := .tup h (dp_strs ws)
theorem good_strs {ws : List Str} (h : ∀ w ∈ ws, Pl w ∧ w.length ≤ 100000) (hl : ws.length ≤ 50000) (j : Nat) : Good (j + 2) (dStrs ws) := ⟨by rw [List.length_map]; exact hl, fun e he => by
  obtain ⟨w, hw, rfl⟩ := List.mem_map.mp he
  exact h w hw⟩
theorem eqvAll_strs : ∀ ws vs : List Str, PyData.eqvAll (ws.map .str) (vs.map .str) = decide (ws = vs)
  | [], [] => by simp [PyData.eqvAll]
  | [], v :: vs => by simp [PyData.eqvAll]
  | w :: ws, [] => by simp [PyData.eqvAll]
  | w :: ws, v :: vs => by
    rw [List.map_cons, List.map_cons]
    simp only [PyData.eqvAll, PyData.eqv, eqvAll_strs ws vs]
    by_cases h1 : w = v
    · subst h1
      simp
    · simp [h1]
theorem eqv_strs (ws vs : List Str) : PyData.eqv (dStrs ws) (dStrs vs) = decide (ws = vs) := by
  unfold dStrs
  simp only [PyData.eqv]
  exact eqvAll_strs ws vs
/-! split: the words' signs stand in the text -/
theorem spl_sub (S : List Nat) : ∀ (k : Nat) (acc l : List Nat), ∀ w ∈ TL.spl S k acc l, (∀ c ∈ w, c ∈ acc ∨ c ∈ l) ∧ w.length ≤ acc.length + l.length
  | k, acc, [] => by
    intro w hw
    rw [TL.spl_nil] at hw
    rw [List.mem_singleton.mp hw]
    exact ⟨fun c hc => .inl hc, by simp⟩
  | 0, acc, c :: r => by
    intro w hw
    cases hp : TL.pre S (c :: r) with
    | true =>
      rw [TL.spl_hit hp] at hw
      rcases List.mem_cons.mp hw with rfl | hw
      · exact ⟨fun d hd => .inl hd, by omega⟩
      · obtain ⟨h1, h2⟩ := spl_sub S (S.length - 1) [] r w hw
        refine ⟨fun d hd => ?_, by rw [List.length_cons]; rw [List.length_nil] at h2; omega⟩
        rcases h1 d hd with h | h
        · cases h
        · exact .inr (List.mem_cons_of_mem _ h)
    | false =>
      rw [TL.spl_miss hp] at hw
      obtain ⟨h1, h2⟩ := spl_sub S 0 (acc ++ [c]) r w hw
      refine ⟨fun d hd => ?_, by rw [List.length_append, List.length_singleton] at h2; rw [List.length_cons]; omega⟩
      rcases h1 d hd with h | h
      · rcases List.mem_append.mp h with h | h
        · exact .inl h
        · exact .inr (by rw [List.mem_singleton.mp h]; exact List.mem_cons_self ..)
      · exact .inr (List.mem_cons_of_mem _ h)
  | k + 1, acc, c :: r => by
    intro w hw
    obtain ⟨h1, h2⟩ := spl_sub S k acc r w hw
    refine ⟨fun d hd => ?_, by rw [List.length_cons]; omega⟩
    rcases h1 d hd with h | h
    · exact .inl h
    · exact .inr (List.mem_cons_of_mem _ h)
theorem spl_len (S : List Nat) : ∀ (k : Nat) (acc l : List Nat), (TL.spl S k acc l).length ≤ l.length + 1
  | k, acc, [] => by rw [TL.spl_nil]; simp
  | 0, acc, c :: r => by
    cases hp : TL.pre S (c :: r) with
    | true =>
      rw [TL.spl_hit hp, List.length_cons, List.length_cons]
      have := spl_len S (S.length - 1) [] r
      omega
    | false =>
      rw [TL.spl_miss hp, List.length_cons]
      have := spl_len S 0 (acc ++ [c]) r
      omega
  | k + 1, acc, c :: r => by
    rw [List.length_cons]
    have := spl_len S k acc r
    show (TL.spl S k acc r).length ≤ _
    omega
theorem split_pl {z y : Str} (h : Pl z) (hy : TL.tl y ≠ []) (hk : y.cps.all (· < 256) = true) : (∀ w ∈ Txt.split z y, Pl w ∧ w.length ≤ z.length) ∧ (Txt.split z y).length ≤ z.length + 1 := by
  have e := TL.split_spl z y hy (TL.kind_ok hk)
  refine ⟨fun w hw => ?_, ?_⟩
  · have hm : TL.tl w ∈ (Txt.split z y).map TL.tl := List.mem_map_of_mem hw
    rw [e] at hm
    obtain ⟨h1, h2⟩ := spl_sub _ _ _ _ _ hm
    refine ⟨fun c hc => ?_, ?_⟩
    · rcases h1 c hc with q | q
      · cases q
      · exact h c q
    · rw [TL.len_tl w, TL.len_tl z]
      rw [List.length_nil] at h2
      omega
  · have := spl_len (TL.tl y) 0 [] (TL.tl z)
    rw [← e, List.length_map] at this
    rw [TL.len_tl z]
    exact this

/-! ## 14. A field of the exception that a suite holds, whatever its class -/
def tXfU (K : PySem.W.Frag) (a : Addr) (cls : Value) (d : Option Addr) (n : Str) (i : Nat) : TE := fun σ H Q => ∃ (C dd : Addr) (fs : List (Str × V)) (v : V), σ[i]? = some (some (.ref a)) ∧ cls = .ref C ∧ XfC K C ∧ PySem.W.findIn K (.ref C) n = some none ∧ d = some dd ∧ H dd = some (.xd fs) ∧ fs.lookup n = some v ∧ Q v H
theorem pe_xfU (K : PySem.W.Frag) {X : Cx} {a : Addr} {oe : Obj} {cls : Value} {d : Option Addr} {pn : List (Addr × Obj)} {x n : Str} {p pos : Pos} {i : Nat} (hz : Zc cls d oe) (hf : ∃ vs, oe.data = .fields vs) (he : PE (X.suite a ((a, oe) :: pn)) (.Name x p) (tVar i)) (hK : X.K = K := by rfl)
    (hb : attributeBase (.Name x p) n X.env (eval (.Name x p) X.env) = eval (.Name x p) X.env := by rfl) : PE (X.suite a ((a, oe) :: pn)) (.Attribute (.Name x p) n pos) (tXfU K a cls d n i) := by
  subst hK
  constructor
  intro pins s σ H Q I h
  obtain ⟨C, dd, fs, v, hs, ec, T, hno, ed, ea, l, q⟩ := h
  exact (pe_xf (C := C) T hno hz hf he hb).run pins s σ H Q I ⟨.ref a, hs, rfl, ec, dd, fs, v, ed, ea, l, q⟩

/-! ## 15. A value, a word between two statements -/
section
variable {σ : L2.St} {H : Hp} {Q : VK} {te : TE} {D : Ends} {t u : TS}
/-- whatever way it goes, the value is v -/
theorem k_val (v : V) (h1 : ∀ Q' : VK, (∀ H', Same H H' → Q' v H') → te σ H Q') (h2 : ∀ H', Same H H' → Q v H') : te σ H Q := h1 Q h2
theorem k_cut (Mid : L2.St → Hp → Prop) (h1 : t { D with nx := Mid } σ H) (h2 : ∀ σ' H', Mid σ' H' → u D σ' H') : Evl.tCut t u D σ H := ⟨Mid, h1, h2⟩
end
theorem pl_app {x y : Str} (hx : Pl x) (hy : Pl y) : Pl (x ++ y) := fun c hc => by
  rw [TL.tl_append] at hc
  rcases List.mem_append.mp hc with h | h
  · exact hx c h
  · exact hy c h
theorem len_app (x y : Str) : (x ++ y).length = x.length + y.length := by rw [TL.len_tl, TL.tl_append, List.length_append, ← TL.len_tl, ← TL.len_tl]
theorem tl_cutS (z : Str) (lo hi : Option Int) : TL.tl (cutS z lo hi) = ((TL.tl z).drop (HT.sIx z.length 0 lo)).take (HT.sIx z.length z.length hi - HT.sIx z.length 0 lo) := rfl
theorem pl_cut {z : Str} (h : Pl z) (lo hi : Option Int) : Pl (cutS z lo hi) := fun c hc => by
  rw [tl_cutS] at hc
  exact h c (List.mem_of_mem_drop (List.mem_of_mem_take hc))
theorem len_cut (z : Str) (lo hi : Option Int) : (cutS z lo hi).length ≤ z.length := by
  rw [TL.len_tl, TL.len_tl, tl_cutS, List.length_take, List.length_drop]
  omega
theorem len_cut_to (z : Str) (n : Int) (h0 : 0 ≤ n) : (cutS z none (some n)).length ≤ n.toNat := by
  rw [TL.len_tl, tl_cutS, List.length_take, List.length_drop]
  obtain ⟨k, rfl⟩ : ∃ k : Nat, n = (k : Int) := ⟨n.toNat, by omega⟩
  rw [HT.sIx_nat]
  omega
theorem len_cut_from (z : Str) (n : Int) (h0 : 0 ≤ n) : (cutS z (some n) none).length + min n.toNat z.length ≤ z.length := by
  rw [TL.len_tl, tl_cutS, List.length_take, List.length_drop, ← TL.len_tl]
  obtain ⟨k, rfl⟩ : ∃ k : Nat, n = (k : Int) := ⟨n.toNat, by omega⟩
  rw [HT.sIx_nat]
  omega
theorem pl_join {y : Str} {ws : List Str} (hy : Pl y) (h : ∀ w ∈ ws, Pl w) : Pl (Txt.join y ws) := by
  intro c hc
  rw [TL.join_eq, TL.tl_join] at hc
  induction ws with
  | nil => cases hc
  | cons w r ih =>
    cases r with
    | nil => exact h w (List.mem_cons_self ..) c hc
    | cons v r =>
      have hc' : c ∈ TL.tl w ++ (TL.tl y ++ TL.joinL (TL.tl y) ((v :: r).map TL.tl)) := hc
      rcases List.mem_append.mp hc' with q | q
      · exact h w (List.mem_cons_self ..) c q
      · rcases List.mem_append.mp q with q | q
        · exact hy c q
        · exact ih (fun x hx => h x (List.mem_cons_of_mem _ hx)) q
theorem len_join_nil (ws : List Str) : (Txt.join (Str.ofString "") ws).length = (ws.map (·.length)).sum := by
  rw [TL.len_tl, TL.join_eq, TL.tl_join, show TL.tl (Str.ofString "") = [] from rfl, joinL_nil]
  induction ws with
  | nil => rfl
  | cons w r ih =>
    rw [List.map_cons, List.flatten_cons, List.length_append, ih, List.map_cons, List.sum_cons, TL.len_tl]
theorem len_join {y : Str} {ws : List Str} : (Txt.join y ws).length ≤ (ws.map (·.length)).sum + ws.length * y.length := by
  rw [TL.len_tl, TL.join_eq, TL.tl_join]
  induction ws with
  | nil => simp [TL.joinL]
  | cons w r ih =>
    cases r with
    | nil =>
      show (TL.tl w).length ≤ _
      rw [← TL.len_tl]
      simp
    | cons v r =>
      have e : (TL.joinL (TL.tl y) ((w :: v :: r).map TL.tl)).length = w.length + (y.length + (TL.joinL (TL.tl y) ((v :: r).map TL.tl)).length) := by
        show (TL.tl w ++ (TL.tl y ++ TL.joinL (TL.tl y) ((v :: r).map TL.tl))).length = _
        rw [List.length_append, List.length_append, ← TL.len_tl, ← TL.len_tl]
      have e2 : ((w :: v :: r).map (·.length)).sum = w.length + ((v :: r).map (·.length)).sum := by rw [List.map_cons, List.sum_cons]
      have e3 : (w :: v :: r).length * y.length = (v :: r).length * y.length + y.length := by rw [List.length_cons, Nat.succ_mul]
      omega
theorem pl_B {z : Str} (h : (TL.tl z).all (fun c => decide (c < 128)) = true) : Pl z := fun c hc => of_decide_eq_true (List.all_eq_true.mp h c hc)
theorem k_dec_not {P : Prop} [Decidable P] {A B : Prop} (h1 : ¬ P → A) (h2 : P → B) : nIte (!decide P) A B := ite2 (c := (!decide P) = true) (fun e => h1 fun z => by rw [decide_eq_true z] at e; cases e) fun e => h2 (Decidable.byContradiction fun z => e (by rw [decide_eq_false z]; rfl))
theorem log_nat {k : Nat} (h : k ≤ 2 ^ 63) : ((k : Nat) : Int).natAbs.log2 < 1920 := by
  rw [Int.natAbs_natCast]
  by_cases h0 : k = 0
  · rw [h0]
    decide
  · exact (Nat.log2_lt h0).mpr (Nat.lt_of_le_of_lt h (Nat.pow_lt_pow_right (by decide) (by decide)))
end Gk
set_option Elab.async false
set_option linter.all false
set_option maxRecDepth 100000
set_option maxHeartbeats 4000000
namespace Lw
open PySem PySem.Spec PyProof.Rows L2 Gk
def top (i : Nat) : Stmt := PySem.Challenge.pw_gulprow_k05_rows_written_and_read.main.body.getD i (.Pass ⟨0, 0, 0, 0⟩)
abbrev FnP (K : PySem.W.Frag) (x : Str) (st : Stmt) (f : Addr) (fd : FuncData) : Prop := FunD K x x (defArgs st) (defBody st) (defScope st) [] [] f fd

local macro_rules | `(tactic| walk_at "hp") => `(tactic| first | assumption | exact upd_same | (refine' (upd_ne ?n).trans ?h; (case n => assumption); (case h => walk_at "hp")) | (refine' sm_get ?s ?h; (case s => assumption); (case h => walk_at "hp")))
local macro_rules | `(tactic| walk_at "sq") => `(tactic| first | assumption | (refine' sq_l ?h; (case h => walk_at "hp")) | (refine' sm_l ?s ?h; (case s => assumption); (case h => walk_at "sq")))
local macro_rules | `(tactic| walk_at "st") => `(tactic| first | assumption | (refine' sq_t ?h; (case h => walk_at "hp")) | (refine' sm_t ?s ?h; (case s => assumption); (case h => walk_at "st")))
local macro_rules | `(tactic| walk_at "bg") => `(tactic| first | assumption | (refine' BagOk.sm ?s ?h; (case s => assumption); (case h => walk_at "bg")))
local macro_rules | `(tactic| walk_at "sm") => `(tactic| first | assumption | exact Same.refl _ | (refine' Same.trans ?h ?s; (case s => assumption); (case h => walk_at "sm")))
local macro_rules | `(tactic| walk_at "sz") => `(tactic| first | decide | assumption | omega | (simp only [List.length_cons, List.length_nil, List.length_map, List.length_append]; omega))
local macro_rules | `(tactic| walk_at "g1") => `(tactic| first
  | with_reducible refine k_seq ?_
  | with_reducible refine k_next ?_
  | with_reducible refine k_asg ?_
  | with_reducible refine k_name ?_
  | with_reducible refine k_ret ?_
  | with_reducible refine k_retN ?_
  | with_reducible refine k_drop ?_
  | with_reducible refine k_ifs ?_
  | with_reducible refine k_brk ?_
  | with_reducible refine k_cont ?_
  | with_reducible refine k_ipI ?_
  | with_reducible refine k_test ?_
  | with_reducible refine k_tB ?_
  | with_reducible refine k_bl ?_
  | with_reducible refine k_not ?_
  | with_reducible refine k_and ?_
  | with_reducible refine k_or ?_
  | with_reducible refine k_yes ?_
  | with_reducible refine k_true ?_
  | with_reducible refine k_false ?_
  | with_reducible refine k_nt ?_
  | with_reducible refine k_c ?_
  | with_reducible refine k_op ?_
  | with_reducible refine k_un ?_
  | with_reducible refine k_if ?_
  | with_reducible refine k_chain ?_
  | with_reducible refine k_nil ?_
  | with_reducible refine k_cons ?_
  | with_reducible refine k_cb ?_
  | with_reducible refine k_call ?_
  | with_reducible refine k_callS ?_
  | with_reducible refine k_andV ?_
  | with_reducible refine k_orV ?_
  | with_reducible refine k_notV ?_
  | with_reducible refine k_lst ?_
  | with_reducible refine k_tup ?_
  | with_reducible refine k_nopart ?_
  | with_reducible refine k_part ?_
  | with_reducible refine k_nInt ?_
  | with_reducible refine k_sl ?_
  | with_reducible refine k_bm ?_
  | with_reducible refine k_bm0 ?_
  | with_reducible refine k_nTyS ?_
  | with_reducible refine k_m1 ?_
  | with_reducible refine k_m0 ?_
  | with_reducible refine k_nStr ?_
  | with_reducible refine k_I0 ?_
  | with_reducible refine k_U ?_
  | with_reducible refine k_add_i ?_
  | with_reducible refine k_eq_i ?_
  | with_reducible refine k_eq_s ?_
  | with_reducible refine k_eq_b ?_
  | with_reducible refine k_ne_i ?_
  | with_reducible refine k_ne_s ?_
  | with_reducible refine k_ne_b ?_
  | with_reducible refine k_le_i ?_
  | with_reducible refine k_le_s ?_
  | with_reducible refine k_gnil ?_
  | with_reducible refine k_gcons ?_
  | with_reducible refine k_gsub ?_
  | with_reducible refine k_for ?_
  | with_reducible refine k_lc ?_
  | with_reducible refine k_rng1 ?_
  | with_reducible refine k_rng2 ?_
  | with_reducible refine k_itl ?_
  | with_reducible refine k_itt ?_
  | with_reducible refine k_its ?_
  | with_reducible refine k_ite ?_
  | with_reducible refine k_itz ?_
  | with_reducible refine k_nIts ?_
  | with_reducible refine k_inS ?_
  | with_reducible refine k_niS ?_
  | with_reducible refine k_mk ?_
  | ((with_reducible refine' k_var ?kv ?_); (case kv => exact rfl))
  | ((with_reducible refine' k_aug ?kv ?_); (case kv => exact rfl))
  | ((with_reducible refine' k_ix_l ?ks ?ki ?_); (case ks => walk_at "sq"); (case ki => exact rfl))
  | ((with_reducible refine' k_ix_t ?ks ?ki ?_); (case ks => walk_at "st"); (case ki => exact rfl))
  | ((with_reducible refine' k_len_l ?ks ?_); (case ks => walk_at "sq"))
  | ((with_reducible refine' k_len_t ?ks ?_); (case ks => walk_at "st"))
  | ((with_reducible refine' k_setL ?ks ?ki ?_); (case ks => walk_at "hp"); (case ki => exact rfl))
  | ((with_reducible refine' k_nTyL ?ks ?_); (case ks => walk_at "sq"))
  | ((with_reducible refine' k_nItl ?ks ?_); (case ks => walk_at "sq"))
  | ((with_reducible refine' k_nItt ?ks ?_); (case ks => walk_at "st"))
  | ((with_reducible refine' k_nIte ?ks ?_); (case ks => walk_at "sq"))
  | ((with_reducible refine' k_mul ?km ?_); (case km => first | exact Or.inr ⟨by decide, by decide⟩ | exact Or.inl ⟨by decide, by decide⟩))
  | ((with_reducible refine' k_I ?km ?_); (case km => first | assumption | decide | exact ⟨by decide, by decide +kernel⟩ | exact ⟨by decide, by decide, by decide⟩))
  | ((with_reducible refine' k_nRng1 ?k1 ?k2 ?_); (case k1 => omega); (case k2 => omega))
  | ((with_reducible refine' k_gtup ?ks ?kl ?_); (case ks => walk_at "st"); (case kl => exact rfl)))
local macro_rules | `(tactic| walk_at "g") => `(tactic| repeat (walk_at "g1"))

abbrev s_Lbag : Stmt := (top 10)
theorem sc_Lbag : FnScope ["_law_script", "_law_cells", "_law_knot", "_law_cell"] ["_law_script"] (defScope s_Lbag) := ⟨rfl, rfl, rfl, by decide +kernel, rfl, by decide +kernel, by decide +kernel⟩
abbrev s_Lpull : Stmt := (top 11)
theorem sc_Lpull : FnScope ["_law_bag_here", "_law_upto", "_law_drawn", "_law_seed", "_law_fold", "_law_twist"] ["_law_bag_here", "_law_upto"] (defScope s_Lpull) := ⟨rfl, rfl, rfl, by decide +kernel, rfl, by decide +kernel, by decide +kernel⟩
abbrev s_Lone : Stmt := (top 12)
theorem sc_Lone : FnScope ["_law_bag_here", "_law_row"] ["_law_bag_here", "_law_row"] (defScope s_Lone) := ⟨rfl, rfl, rfl, by decide +kernel, rfl, by decide +kernel, by decide +kernel⟩
abbrev s_Lsame : Stmt := (top 13)
theorem sc_Lsame : FnScope ["_law_found", "_law_due", "_law_same_here", "_law_one_here", "_law_other"] ["_law_found", "_law_due"] (defScope s_Lsame) := ⟨rfl, rfl, rfl, by decide +kernel, rfl, by decide +kernel, by decide +kernel⟩
abbrev s_Lletters : Stmt := (top 14)
theorem sc_Lletters : FnScope ["_law_bag_here", "_law_many", "_law_spot", "_law_step", "_law_k"] ["_law_bag_here", "_law_many"] (defScope s_Lletters) := ⟨rfl, rfl, rfl, by decide +kernel, rfl, by decide +kernel, by decide +kernel⟩
section
variable {P : Program} {w : World} {K : PySem.W.Frag} {mg : Str → Option Value} {base : Heap} {f : Addr} {fd : FuncData}
/-! ### the bag is made -/
def spBag (K : PySem.W.Frag) : Sp := fun vs H Q _ => ∃ (a : Addr) (ns : List Int), vs = [.ref a] ∧ SqL K H a (ns.map V.int) ∧ ns.length ≤ 63 ∧ ∀ b H', BagOk H' b → Q (.ref b) H'
theorem cut_int (ns : List Int) (lo hi : Option Int) : ∃ ms : List Int, cutV (ns.map V.int) lo hi = ms.map V.int ∧ ms.length ≤ ns.length := by
  refine ⟨(ns.drop (HT.sIx (ns.map V.int).length 0 lo)).take (HT.sIx (ns.map V.int).length (ns.map V.int).length hi - HT.sIx (ns.map V.int).length 0 lo), ?_, ?_⟩
  · unfold cutV
    rw [List.map_take, List.map_drop]
  · rw [List.length_take, List.length_drop]
    omega
theorem ok_Lbag (F : FnP K "_law_bag" s_Lbag f fd) (hm : mg "_law_bag" = some (.ref f)) (f_len : mg "len" = none) (f_list : mg "list" = none) : Callee P w K mg base CX0 "_law_bag" 1 [] (spBag K) := by
  refine ⟨f, fd, _, [], F.ok sc_Lbag (fun vs H Q E h => ?hl) (fun cdv A outer s H vs Q E hr h => ⟨_, PSs.nox (pss_seal (pss_cons (ps_set (i := 1) sc_Lbag.nd rfl (by first | exact Or.inl rfl | exact Or.inr rfl) (pe_callTy (call_listK K) (by rfl) f_list (by decide +kernel) (pa_cons (pe_slice (sl_k K) (pv 0) po_none (po_some pe_int)) pa_nil)))
      (pss_cons (ps_set (i := 2) sc_Lbag.nd rfl (by first | exact Or.inl rfl | exact Or.inr rfl) (pe_op (op_addK K) pe_int (pe_callB (call_lenK K) (by rfl) f_len PySem.boot_len (pa_cons (pv 1) pa_nil))))
      (pss_cons (ps_for PassesOwn.never rfl (pi_listK K (pv 1)) (pg_name (i := 3) sc_Lbag.nd rfl (by first | exact Or.inl rfl | exact Or.inr rfl)) (pss_one (ps_set (i := 2) sc_Lbag.nd rfl (by first | exact Or.inl rfl | exact Or.inr rfl) (pe_op op_mod (pe_op (op_addK K) (pe_op op_mul (pv 2) pe_int) (pv 3)) pe_int))))
      (pss_one (ps_ret (pe_lst (pa_cons (pv 1) (pa_cons pe_int (pa_cons pe_int (pa_cons (pv 2) pa_nil))))))))))), ?rd⟩), hm, F.kp, F.bindsN fun _ _ _ _ _ _ us hl => match us, hl with | [_], _ => rfl, .nil⟩
  case hl =>
    obtain ⟨b, u, rfl, _⟩ := h
    rfl
  case rd =>
    obtain ⟨a, ns, rfl, hS, hn, q⟩ := h
    refine k_start (σ' := [some _, none, none, none]) rfl ?_
    unfold tSeal
    walk_at "g"
    obtain ⟨ms, em, lm⟩ := cut_int ns none (some 63)
    refine k_sl_l hS (fun p1 H1 n1 s1 e1 => ?_)
    rw [em] at e1
    walk_at "g"
    refine k_list_l (sq_l e1) (fun p2 H2 n2 s2 e2 => ?_)
    walk_at "g"
    refine k_nFor (walk_list (xs := ms.map V.int)) (fun i σ H' => ∃ (k : Int) (y : Option V), σ = [some (.ref a), some (.ref p2), some (.int k), y] ∧ H' = H2) ⟨_, none, rfl, rfl⟩ (fun i σ H' _ h => ?_) (fun i x σ Ha Hb hi h hy => ?_) (fun σ H' h => ?_)
    · obtain ⟨k, y, rfl, rfl⟩ := h
      exact sq_l e2
    · obtain ⟨k, y, rfl, rfl⟩ := h
      obtain ⟨rfl, hx⟩ := hy
      obtain ⟨m, rfl⟩ : ∃ m, x = V.int m := by
        rw [List.getElem?_map] at hx
        cases e : ms[i]? with
        | none => rw [e] at hx; cases hx
        | some m => rw [e] at hx; exact ⟨m, (Option.some.inj hx).symm⟩
      walk_at "g"
      exact ⟨_, _, rfl, rfl⟩
    · obtain ⟨k, y, rfl, rfl⟩ := h
      walk_at "g"
      refine k_nLst (by walk_at "sz") (fun p3 H3 n3 s3 e3 => ?_)
      refine ⟨p3, p2, 0, 0, k, rfl, by decide, e3, q p3 _ ⟨p2, ms, upd_same, ?_⟩⟩
      rw [upd_ne (ne_of_none e2 n3)]
      exact s3 _ _ e2
/-! ### a draw -/
def spPull : Sp := fun vs H Q _ => ∃ (b : Addr) (u : Int), vs = [.ref b, .int u] ∧ BagOk H b ∧ 0 < u ∧ u.natAbs.log2 < 9000 ∧ ∀ n, 0 ≤ n → n < u → Q (.int n) H
theorem shut_id {H : Hp} {b c : Addr} {o1 o2 : HO} (h : H b = some (bagO b c)) : upd (upd (upd H b o1) b o2) b (bagO b c) = H := by
  rw [upd_upd, upd_upd, upd_id h]
theorem ok_Lpull (F : FnP K "_law_pull" s_Lpull f fd) (hm : mg "_law_pull" = some (.ref f)) (f_len : mg "len" = none) : Callee P w K mg base CX0 "_law_pull" 1 [] spPull := by
  refine ⟨f, fd, _, [], F.ok sc_Lpull (fun vs H Q E h => ?hl) (fun cdv A outer s H vs Q E hr h => ⟨_, PSs.nox (pss_bag (pss_cons (ps_if (pt_cmpR op_lt (pe_ix (ix_k K) (pv 0) pe_int (fun _ _ => rfl)) pe_int (nomark _)) (pss_cons (ps_asg (pe_op (op_addK K) (pe_ix (ix_k K) (pv 0) pe_int (fun _ _ => rfl)) pe_int) (pg_sub (pv 0) pe_int set_list))
      (pss_cons (ps_set (i := 3) sc_Lpull.nd rfl (by first | exact Or.inl rfl | exact Or.inr rfl) (pe_op (op_addK K) (pe_ix (ix_k K) (pv 0) pe_int (fun _ _ => rfl)) (pe_op op_mul (pe_ix (ix_k K) (pv 0) pe_int (fun _ _ => rfl)) pe_int)))
      (pss_cons (ps_if (pt_cmpR op_leU (pe_ix (ix_k K) (pv 0) pe_int (fun _ _ => rfl)) (pe_callB (call_lenK K) (by rfl) f_len PySem.boot_len (pa_cons (pe_ix (ix_k K) (pv 0) pe_int (fun _ _ => rfl)) pa_nil)) (nomark _)) (pss_one (ps_set (i := 3) sc_Lpull.nd rfl (by first | exact Or.inl rfl | exact Or.inr rfl) (pe_ix (ix_k K) (pe_ix (ix_k K) (pv 0) pe_int (fun _ _ => rfl)) (pe_op op_sub (pe_ix (ix_k K) (pv 0) pe_int (fun _ _ => rfl)) pe_int) (fun _ _ => rfl)))) pss_nil)
      (pss_cons (ps_if (PW.pt (pw_or (pt_cmpR op_gt (pe_ix (ix_k K) (pv 0) pe_int (fun _ _ => rfl)) (pe_callB (call_lenK K) (by rfl) f_len PySem.boot_len (pa_cons (pe_ix (ix_k K) (pv 0) pe_int (fun _ _ => rfl)) pa_nil)) (nomark _)) (pw_or1 (pt_cmpR op_lt (pv 3) (pe_op op_pow pe_int pe_int) (nomark _))))) (pss_cons (ps_set (i := 4) sc_Lpull.nd rfl (by first | exact Or.inl rfl | exact Or.inr rfl) (pe_op op_mod (pe_op (op_addK K) (pe_op (op_addK K) (pe_op op_mul (pv 3) pe_int) (pe_op op_mul (pe_ix (ix_k K) (pv 0) pe_int (fun _ _ => rfl)) pe_int)) (pe_ix (ix_k K) (pv 0) pe_int (fun _ _ => rfl))) pe_int))
      (pss_cons (ps_set (i := 5) sc_Lpull.nd rfl (by first | exact Or.inl rfl | exact Or.inr rfl) (pe_op op_mod (pe_op (op_addK K) (pe_op op_mul (pv 4) (pv 4)) (pe_ix (ix_k K) (pv 0) pe_int (fun _ _ => rfl))) pe_int))
      (pss_one (ps_ret (pe_op op_mod (pe_op op_fdivW (pe_op op_mod (pe_op (op_addK K) (pe_op op_mul (pv 5) pe_int) (pv 4)) pe_int) pe_int) (pv 1)))))) pss_nil)
      (pss_one (ps_asg (pv 3) (pg_sub (pv 0) pe_int set_list))))))) pss_nil)
      (pss_cons (ps_set (i := 2) sc_Lpull.nd rfl (by first | exact Or.inl rfl | exact Or.inr rfl) (pe_op op_mod (pe_ix (ix_k K) (pv 0) pe_int (fun _ _ => rfl)) (pv 1)))
      (pss_cons (ps_asg (pe_op op_fdivW (pe_ix (ix_k K) (pv 0) pe_int (fun _ _ => rfl)) (pv 1)) (pg_sub (pv 0) pe_int set_list))
      (pss_one (ps_ret (pv 2))))))), ?rd⟩), hm, F.kp, F.bindsN fun _ _ _ _ _ _ us hl => match us, hl with | [_, _], _ => rfl, .nil⟩
  case hl =>
    obtain ⟨b, u, rfl, _⟩ := h
    rfl
  case rd =>
    obtain ⟨b, u, rfl, ⟨c, ns, hb, hc⟩, hu, hu2, q⟩ := h
    refine ⟨b, c, hb, fun i1 i2 i3 hi => ?_⟩
    have hcb : c ≠ b := ne_of hc hb (fun z => by cases z)
    refine k_start (σ' := [some _, some _, none, none, none, none]) rfl ?_
    walk_at "g"
    have m0 : ∀ n : Int, 0 ≤ n % u := fun n => Int.emod_nonneg n (by omega)
    have m1 : ∀ n : Int, n % u < u := fun n => Int.emod_lt_of_pos n hu
    have hdv : ∀ n : Int, CDivW n u := fun n => ⟨hu, hu2⟩
    have fin : ∀ (j1 j2 j3 n : Int) (Hx : Hp), 0 ≤ j1 → 0 ≤ n → n < u → Hx b = some (.lst (bagL c j1 j2 j3)) → upd Hx b (bagO b c) = H → ∃ j1 j2 j3, 0 ≤ j1 ∧ Hx b = some (.lst (bagL c j1 j2 j3)) ∧ Q (.int n) (upd Hx b (bagO b c)) := by
      intro j1 j2 j3 n Hx hj hn0 hn1 hx hh
      refine ⟨j1, j2, j3, hj, hx, ?_⟩
      rw [hh]
      exact q n hn0 hn1
    refine k_dec (fun h2 => ?_) (fun h2 => ?_)
    · walk_at "g"
      refine k_dec (fun h3 => ?_) (fun h3 => ?_)
      · walk_at "g"
        have hl : (ns.map V.int).length = ns.length := List.length_map _
        rw [hl] at h3
        have hk : (i1 + 1 - 1).toNat < ns.length := by omega
        refine k_ix_l (xs := ns.map V.int) (v := .int (ns[(i1 + 1 - 1).toNat])) (by walk_at "sq") (at_of (j := (i1 + 1 - 1).toNat) (by omega) (by rw [List.getElem?_map, List.getElem?_eq_getElem hk]; rfl)) ?_
        walk_at "g"
        refine k_dec (fun h4 => absurd h4 (by rw [hl]; omega)) (fun h4 => ?_)
        walk_at "g"
        refine k_dec (fun h5 => ?_) (fun h5 => ?_)
        · walk_at "g"
          refine k_mul (.inl ⟨by omega, by omega⟩) ?_
          walk_at "g"
          exact fin (i1 + 1) i2 i3 _ _ (by omega) (m0 _) (m1 _) upd_same (by simp only [upd_upd, upd_id hb])
        · walk_at "g"
          refine k_I (hdv _) ?_
          walk_at "g"
          exact fin (i1 + 1) _ i3 _ _ (by omega) (m0 _) (m1 _) upd_same (by simp only [upd_upd, upd_id hb])
      · walk_at "g"
        refine k_dec (fun h4 => ?_) (fun h4 => absurd h4 (by omega))
        walk_at "g"
        refine k_mul (.inl ⟨by omega, by omega⟩) ?_
        walk_at "g"
        exact fin (i1 + 1) i2 i3 _ _ (by omega) (m0 _) (m1 _) upd_same (by simp only [upd_upd, upd_id hb])
    · walk_at "g"
      refine k_I (hdv _) ?_
      walk_at "g"
      exact fin i1 _ i3 _ _ hi (m0 _) (m1 _) upd_same (by simp only [upd_upd, upd_id hb])
theorem log_lt {u : Int} (h : u < 2 ^ 250) (h0 : 0 < u) : u.natAbs.log2 < 9000 := by
  have h1 : u.natAbs < 2 ^ 250 := by
    have e : ((u.natAbs : Nat) : Int) = u := Int.natAbs_of_nonneg (by omega)
    have h2 : ((u.natAbs : Nat) : Int) < ((2 ^ 250 : Nat) : Int) := by
      rw [e]
      exact h
    exact Int.ofNat_lt.mp h2
  exact Nat.lt_of_lt_of_le ((Nat.log2_lt (by omega)).mpr h1) (by decide)
theorem k_pull {H : Hp} {Q : VK} {E : XK} {b : Addr} {u : Int} (hb : BagOk H b) (h0 : 0 < u) (h1 : u < 2 ^ 250) (q : ∀ n, 0 ≤ n → n < u → Q (.int n) H) : spPull ([.ref b, .int u] ++ []) H Q E := ⟨b, u, rfl, hb, h0, log_lt h1 h0, q⟩
/-! ### one of a row -/
def spOne (K : PySem.W.Frag) : Sp := fun vs H Q _ => ∃ (b : Addr) (r : V), vs = [.ref b, r] ∧ BagOk H b ∧
  ((∃ a xs, r = .ref a ∧ SqL K H a xs ∧ 0 < xs.length ∧ xs.length ≤ 100000 ∧ ∀ x ∈ xs, Q x H) ∨ (∃ z : Str, r = .str z ∧ 0 < z.length ∧ z.length ≤ 100000 ∧ ∀ c ∈ z.cps.toList, Q (.str ⟨#[c]⟩) H))
theorem ok_Lone (F : FnP K "_law_one" s_Lone f fd) (hm : mg "_law_one" = some (.ref f)) (f_len : mg "len" = none) (c_Lpull : Callee P w K mg base CX0 "_law_pull" 1 [] spPull) : Callee P w K mg base CX0 "_law_one" 2 [] (spOne K) := by
  refine ⟨f, fd, _, [], F.ok sc_Lone (fun vs H Q E h => ?hl) (fun cdv A outer s H vs Q E hr h => ⟨_, PSs.nox (pss_one (ps_ret (pe_ix (ix_k K) (pv 1) (pe_cl c_Lpull hr (pa_cons (pv 0) (pa_cons (pe_callB (call_lenK K) (by rfl) f_len PySem.boot_len (pa_cons (pv 1) pa_nil)) pa_nil)) pass0) (fun _ _ => rfl)))), ?rd⟩), hm, F.kp, F.bindsN fun _ _ _ _ _ _ us hl => match us, hl with | [_, _], _ => rfl, .nil⟩
  case hl =>
    obtain ⟨b, u, rfl, _⟩ := h
    rfl
  case rd =>
    obtain ⟨b, r, rfl, hb, h⟩ := h
    refine k_start (σ' := [some _, some _]) rfl ?_
    rcases h with ⟨a, xs, rfl, hx, h0, h1, q⟩ | ⟨z, rfl, h0, h1, q⟩
    · walk_at "g"
      refine k_pull hb (by omega) (by omega) (fun n n0 n1 => ?_)
      have hk : n.toNat < xs.length := by omega
      exact k_ix_l hx (at_of (j := n.toNat) (by omega) (List.getElem?_eq_getElem hk)) (q _ (List.getElem_mem hk))
    · walk_at "g"
      refine k_len_s h1 ?_
      walk_at "g"
      have hz : z.length = z.cps.toList.length := by
        show z.cps.size = _
        simp
      refine k_pull hb (by omega) (by omega) (fun n n0 n1 => ?_)
      have hk : n.toNat < z.cps.toList.length := by omega
      refine k_ix_s h1 (c := z.cps.toList[n.toNat]) ?_ (q _ (List.getElem_mem hk))
      unfold atI ixN
      rw [if_pos n0, if_pos (by omega)]
      exact List.getElem?_eq_getElem hk
/-! ### told alike -/
def spSame (K : PySem.W.Frag) (j : Nat) : Sp := fun vs H Q _ => ∃ (x y : V) (d : PyData), vs = [x, y] ∧ Dp K H x d ∧ Dp K H y d ∧ Fit j d ∧ ∀ H', Same H H' → Q (.bl true) H'
theorem step_Lsame {j : Nat} (F : FnP K "_law_same" s_Lsame f fd) (hm : mg "_law_same" = some (.ref f)) (f_len : mg "len" = none) (f_isinstance : mg "isinstance" = none) (f_list : mg "list" = none) (f_tuple : mg "tuple" = none) (f_repr : mg "repr" = none) (f_zip : mg "zip" = none) (f_all : mg "all" = none)
    (c_Lsame : Callee P w K mg base CX0 "_law_same" j [] (spSame K j)) : Callee P w K mg base CX0 "_law_same" (j + 1) [] (spSame K (j + 1)) := by
  refine ⟨f, fd, _, [], F.ok sc_Lsame (fun vs H Q E h => ?hl) (fun cdv A outer s H vs Q E hr h => ⟨_, PSs.nox (pss_cons (ps_if (pt_not (pt_val (pe_callB (call_isiK K) (by rfl) f_isinstance (by decide +kernel) (pa_cons (pv 1) (pa_cons (pe_tup (pa_cons (pe_bltn (v := .ty "list") (by rfl) f_list (by decide +kernel) rfl) (pa_cons (pe_bltn (v := .ty "tuple") (by rfl) f_tuple (by decide +kernel) rfl) pa_nil))) pa_nil))))) (pss_one (ps_ret (pe_cmpR (op_eqK K hr.units) (pe_callB call_reprU (by rfl) f_repr (by decide +kernel) (pa_cons (pv 0) pa_nil)) (pe_callB call_reprU (by rfl) f_repr (by decide +kernel) (pa_cons (pv 1) pa_nil)) (nomark _)))) pss_nil)
      (pss_cons (ps_if (PW.pt (pw_or (pt_cmpR (op_neK K hr.units) (pe_callB (call_isiK K) (by rfl) f_isinstance (by decide +kernel) (pa_cons (pv 1) (pa_cons (pe_bltn (v := .ty "list") (by rfl) f_list (by decide +kernel) rfl) pa_nil))) (pe_callB (call_isiK K) (by rfl) f_isinstance (by decide +kernel) (pa_cons (pv 0) (pa_cons (pe_bltn (v := .ty "list") (by rfl) f_list (by decide +kernel) rfl) pa_nil))) (nomark _)) (pw_or1 (pt_cmpR (op_neK K hr.units) (pe_callB (call_isiK K) (by rfl) f_isinstance (by decide +kernel) (pa_cons (pv 1) (pa_cons (pe_bltn (v := .ty "tuple") (by rfl) f_tuple (by decide +kernel) rfl) pa_nil))) (pe_callB (call_isiK K) (by rfl) f_isinstance (by decide +kernel) (pa_cons (pv 0) (pa_cons (pe_bltn (v := .ty "tuple") (by rfl) f_tuple (by decide +kernel) rfl) pa_nil))) (nomark _))))) (pss_one (ps_ret pe_bl)) pss_nil)
      (pss_cons (ps_setLc (i := 2) (own := [("_law_one_here", 3), ("_law_other", 4)]) rfl sc_Lsame.nd rfl rfl (sw_true rfl rfl rfl (by decide +kernel)) (pi_zipK K (by rfl) f_zip (pa_cons (pv 0) (pa_cons (pv 1) pa_nil))) (blkOk_by (N := ["_law_found", "_law_due", "_law_same_here", "_law_one_here", "_law_other"]) (sc := defScope s_Lsame) (by decide +kernel)) (fun _ _ _ _ _ => (pg_tupK K 2 (by rfl) (pgs_cons (pg_name (i := 3) sc_Lsame.nd rfl (by first | exact Or.inl rfl | exact Or.inr rfl)) (pgs_cons (pg_name (i := 4) sc_Lsame.nd rfl (by first | exact Or.inl rfl | exact Or.inr rfl)) pgs_nil)))) (fun _ _ _ _ _ => pts_nil) (fun _ _ _ _ _ => (pe_cl c_Lsame hr (pa_cons (pv 3) (pa_cons (pv 4) pa_nil)) pass0)))
      (pss_one (ps_ret (pe_and (pe_cmpR (op_eqK K hr.units) (pe_callB (call_lenK K) (by rfl) f_len PySem.boot_len (pa_cons (pv 0) pa_nil)) (pe_callB (call_lenK K) (by rfl) f_len PySem.boot_len (pa_cons (pv 1) pa_nil)) (nomark _)) (pe_one (pe_callB (cr_allK K) (by rfl) f_all (by decide +kernel) (pa_cons (pv 2) pa_nil))))))))), ?rd⟩), hm, F.kp, F.bindsN fun _ _ _ _ _ _ us hl => match us, hl with | [_, _], _ => rfl, .nil⟩
  case hl =>
    obtain ⟨b, u, d, rfl, _⟩ := h
    rfl
  case rd =>
    obtain ⟨x, y, d, rfl, hx, hy, fit, q⟩ := h
    refine k_start (σ' := [some _, some _, none, none, none]) rfl ?_
    walk_at "g"
    refine k_nTup (by walk_at "sz") (fun p1 H1 n1 s1 e1 => ?_)
    refine k_isiLT (dp_sm s1 hy) e1 ?_
    walk_at "g"
    cases hs : isSeqD d with
    | false =>
      refine k_false ?_
      obtain ⟨z, hz⟩ := repr_of_dp hx fit hs
      have exy := dp_scal hx hy hs
      subst exy
      walk_at "g"
      refine k_repr hz ?_
      walk_at "g"
      refine k_repr hz ?_
      walk_at "g"
      rw [decide_eq_true rfl]
      exact q _ s1
    | true =>
      refine k_true ?_
      walk_at "g"
      refine k_isiL (dp_sm s1 hy) ?_
      walk_at "g"
      refine k_isiL (dp_sm s1 hx) ?_
      walk_at "g"
      rw [decide_eq_true rfl]
      refine k_true ?_
      walk_at "g"
      refine k_isiTu (dp_sm s1 hy) ?_
      walk_at "g"
      refine k_isiTu (dp_sm s1 hx) ?_
      walk_at "g"
      rw [decide_eq_true rfl]
      refine k_true ?_
      walk_at "g"
      cases hx with
      | non => cases hs
      | bl b => cases hs
      | int i => cases hs
      | str z => cases hs
      | @lst a xs ds hxs rx =>
        cases hy with
        | @lst b ys _ hys ry =>
        refine k_nItzL (sm_l s1 hxs) (sm_l s1 hys) ?_
        refine k_nLc (walk_zip (xs := xs) (ys := ys) rfl) (fun H' s2 => ⟨sm_l (s1.trans s2) hxs, sm_l (s1.trans s2) hys⟩) (fun i ws => ws = List.replicate i (.bl true)) rfl (fun i ws hi hw => ?hz) (fun i v Ha Hb ws Kp Ks hi sa hws hy2 hKp hKs => ?ht) (fun p Hp ws np sp ep hws => ?he)
        case hz =>
          rw [hw, List.length_replicate]
          have := dpall_len rx
          have := fit.1
          omega
        case ht =>
          obtain ⟨T, xi, yi, rfl, nT, rfl, ex, ey⟩ := hy2
          have sT : Same Ha (upd Ha T (.tup [xi, yi])) := sm_new nT
          have eT : (upd Ha T (.tup [xi, yi])) T = some (.tup [xi, yi]) := upd_same
          generalize upd Ha T (.tup [xi, yi]) = Hb at sT eT
          obtain ⟨di, e1, h1⟩ := dpall_get rx ex
          obtain ⟨dj, e2, h2⟩ := dpall_get ry ey
          rw [e1] at e2
          cases e2
          walk_at "g"
          refine ⟨rfl, ?_⟩
          walk_at "g"
          exact ⟨xi, yi, di, rfl, dp_sm ((s1.trans sa).trans sT) h1, dp_sm ((s1.trans sa).trans sT) h2, fit.2 _ (List.mem_of_getElem? e1), fun H' s' => hKp _ _ (sT.trans s') (by rw [hws, List.replicate_succ'])⟩
        case he =>
          walk_at "g"
          rw [dpall_len rx, dpall_len ry, decide_eq_true rfl]
          walk_at "g"
          rw [hws] at ep
          refine k_all (bs := List.replicate (min xs.length ys.length) true) (sq_l (by rw [ep, List.map_replicate])) ?_
          have et : (List.replicate (min xs.length ys.length) true).all id = true := by simp
          rw [et]
          walk_at "g"
          exact q _ (s1.trans sp)
      | @tup a xs ds hxs rx =>
        cases hy with
        | @tup b ys _ hys ry =>
        refine k_nItzT (sm_t s1 hxs) (sm_t s1 hys) ?_
        refine k_nLc (walk_zipT (xs := xs) (ys := ys) rfl) (fun H' s2 => ⟨sm_t (s1.trans s2) hxs, sm_t (s1.trans s2) hys⟩) (fun i ws => ws = List.replicate i (.bl true)) rfl (fun i ws hi hw => ?hz) (fun i v Ha Hb ws Kp Ks hi sa hws hy2 hKp hKs => ?ht) (fun p Hp ws np sp ep hws => ?he)
        case hz =>
          rw [hw, List.length_replicate]
          have := dpall_len rx
          have := fit.1
          omega
        case ht =>
          obtain ⟨T, xi, yi, rfl, nT, rfl, ex, ey⟩ := hy2
          have sT : Same Ha (upd Ha T (.tup [xi, yi])) := sm_new nT
          have eT : (upd Ha T (.tup [xi, yi])) T = some (.tup [xi, yi]) := upd_same
          generalize upd Ha T (.tup [xi, yi]) = Hb at sT eT
          obtain ⟨di, e1, h1⟩ := dpall_get rx ex
          obtain ⟨dj, e2, h2⟩ := dpall_get ry ey
          rw [e1] at e2
          cases e2
          walk_at "g"
          refine ⟨rfl, ?_⟩
          walk_at "g"
          exact ⟨xi, yi, di, rfl, dp_sm ((s1.trans sa).trans sT) h1, dp_sm ((s1.trans sa).trans sT) h2, fit.2 _ (List.mem_of_getElem? e1), fun H' s' => hKp _ _ (sT.trans s') (by rw [hws, List.replicate_succ'])⟩
        case he =>
          walk_at "g"
          rw [dpall_len rx, dpall_len ry, decide_eq_true rfl]
          walk_at "g"
          rw [hws] at ep
          refine k_all (bs := List.replicate (min xs.length ys.length) true) (sq_l (by rw [ep, List.map_replicate])) ?_
          have et : (List.replicate (min xs.length ys.length) true).all id = true := by simp
          rw [et]
          walk_at "g"
          exact q _ (s1.trans sp)
theorem base_Lsame (F : FnP K "_law_same" s_Lsame f fd) (hm : mg "_law_same" = some (.ref f)) : Callee P w K mg base CX0 "_law_same" 0 [] (spSame K 0) := by
  refine ⟨f, fd, ["_law_found", "_law_due"], [], ⟨fun vs H Q E h => ?_, fun A outer s H args us vs Q E hr e0 hb r h => ?_⟩, hm, F.kp, F.bindsN fun _ _ _ _ _ _ us hl => match us, hl with | [_, _], _ => rfl, .nil⟩
  · obtain ⟨x, y, d, _, _, _, fit, _⟩ := h
    exact fit.elim
  · obtain ⟨x, y, d, _, _, _, fit, _⟩ := h
    exact fit.elim
theorem ok_Lsame (F : FnP K "_law_same" s_Lsame f fd) (hm : mg "_law_same" = some (.ref f)) (f_len : mg "len" = none) (f_isinstance : mg "isinstance" = none) (f_list : mg "list" = none) (f_tuple : mg "tuple" = none) (f_repr : mg "repr" = none) (f_zip : mg "zip" = none) (f_all : mg "all" = none) :
    ∀ j, Callee P w K mg base CX0 "_law_same" j [] (spSame K j)
  | 0 => base_Lsame F hm
  | j + 1 => step_Lsame F hm f_len f_isinstance f_list f_tuple f_repr f_zip f_all (ok_Lsame F hm f_len f_isinstance f_list f_tuple f_repr f_zip f_all j)
/-! ### letters -/
def small (c : Nat) : Prop := 97 ≤ c ∧ c ≤ 122
/-- a rising text of small letters -/
def Rise (cs : List Nat) : Prop := cs.Pairwise (· < ·) ∧ ∀ c ∈ cs, small c
def spLetters : Sp := fun vs H Q _ => ∃ (b : Addr) (m : Nat), vs = [.ref b, .int (m : Nat)] ∧ BagOk H b ∧ m ≤ 3 ∧ ∀ (cs : List Nat) H', Rise cs → cs.length = m → Same H H' → Q (.str (tx cs)) H'
theorem abc_at : ∀ n : Fin 26, (Str.ofString "abcdefghijklmnopqrstuvwxyz").cps.toList[n.val]? = some (97 + n.val) := by decide +kernel
theorem abc_len : (Str.ofString "abcdefghijklmnopqrstuvwxyz").length = 26 := by decide +kernel
def lcode (sp st : Int) (k : Nat) : Nat := 97 + ((sp + st * (k : Int)) % 26).toNat
theorem lcode_inj {sp st : Int} {i j : Nat} (h0 : 1 ≤ st) (h1 : st ≤ 8) (hi : i < j) (hj : j < 3) : lcode sp st i ≠ lcode sp st j := by
  unfold lcode
  have : (i = 0 ∧ j = 1) ∨ (i = 0 ∧ j = 2) ∨ (i = 1 ∧ j = 2) := by omega
  rcases this with ⟨rfl, rfl⟩ | ⟨rfl, rfl⟩ | ⟨rfl, rfl⟩ <;> omega
theorem lcodes_nodup {sp st : Int} {m : Nat} (h0 : 1 ≤ st) (h1 : st ≤ 8) (hm : m ≤ 3) : ((List.range m).map (lcode sp st)).Nodup := by
  have : m = 0 ∨ m = 1 ∨ m = 2 ∨ m = 3 := by omega
  have e01 := lcode_inj (sp := sp) h0 h1 (i := 0) (j := 1) (by omega) (by omega)
  have e02 := lcode_inj (sp := sp) h0 h1 (i := 0) (j := 2) (by omega) (by omega)
  have e12 := lcode_inj (sp := sp) h0 h1 (i := 1) (j := 2) (by omega) (by omega)
  rcases this with rfl | rfl | rfl | rfl
  · simp
  · simp [List.range_succ]
  · simp [List.range_succ, e01]
  · simp [List.range_succ, e01, e02, e12]
theorem ok_Lletters (F : FnP K "_law_letters" s_Lletters f fd) (hm : mg "_law_letters" = some (.ref f)) (f_range : mg "range" = none) (f_sorted : mg "sorted" = none) (c_Lpull : Callee P w K mg base CX0 "_law_pull" 1 [] spPull) : Callee P w K mg base CX0 "_law_letters" 2 [] spLetters := by
  refine ⟨f, fd, _, [], F.ok sc_Lletters (fun vs H Q E h => ?hl) (fun cdv A outer s H vs Q E hr h => ⟨_, PSs.nox (pss_cons (ps_set (i := 2) sc_Lletters.nd rfl (by first | exact Or.inl rfl | exact Or.inr rfl) (pe_cl c_Lpull hr (pa_cons (pv 0) (pa_cons pe_int pa_nil)) pass0))
      (pss_cons (ps_set (i := 3) sc_Lletters.nd rfl (by first | exact Or.inl rfl | exact Or.inr rfl) (pe_op (op_addK K) pe_int (pe_cl c_Lpull hr (pa_cons (pv 0) (pa_cons pe_int pa_nil)) pass0)))
      (pss_one (ps_ret (pe_joinK K pe_str (pe_callB (cr_sortedSK K) (by rfl) f_sorted (by decide +kernel) (pa_cons (pe_lc (own := [("_law_k", 4)]) rfl sc_Lletters.nd (pi_range1 (by rfl) f_range (pa_cons (pv 1) pa_nil)) (blkOk_by (N := ["_law_bag_here", "_law_many", "_law_spot", "_law_step", "_law_k"]) (sc := defScope s_Lletters) (by decide +kernel)) (fun _ _ _ _ _ => (pg_name (i := 4) sc_Lletters.nd rfl (by first | exact Or.inl rfl | exact Or.inr rfl))) (fun _ _ _ _ _ => pts_nil) (fun _ _ _ _ _ => (pe_ix (ix_k K) pe_str (pe_op op_mod (pe_op (op_addK K) (pv 2) (pe_op op_mul (pv 3) (pv 4))) pe_int) (fun _ _ => rfl)))) pa_nil))))))), ?rd⟩), hm, F.kp, F.bindsN fun _ _ _ _ _ _ us hl => match us, hl with | [_, _], _ => rfl, .nil⟩
  case hl =>
    obtain ⟨b, u, rfl, _⟩ := h
    rfl
  case rd =>
    obtain ⟨b, m, rfl, hb, hm3, q⟩ := h
    refine k_start (σ' := [some _, some _, none, none, none]) rfl ?_
    walk_at "g"
    refine k_pull hb (by omega) (by omega) (fun s0 p0 p1 => ?_)
    walk_at "g"
    refine k_pull hb (by omega) (by omega) (fun st q0 q1 => ?_)
    walk_at "g"
    refine k_nLc walk_range (fun _ _ => trivial) (fun i ws => ws = (List.range i).map fun k => V.str (sg (lcode s0 (1 + st) k))) rfl (fun i ws hi hw => ?hz) (fun i v Ha Hb ws Kp Ks hi sa hws hy2 hKp hKs => ?ht) (fun p Hp ws np sp ep hws => ?he)
    case hz =>
      rw [hw, List.length_map, List.length_range]
      omega
    case ht =>
      obtain ⟨rfl, rfl⟩ := hy2
      walk_at "g"
      refine ⟨rfl, ?_⟩
      walk_at "g"
      refine k_mul (.inl ⟨by omega, by omega⟩) ?_
      walk_at "g"
      have m0 : 0 ≤ (s0 + (1 + st) * (0 + (i : Int))) % 26 := Int.emod_nonneg _ (by decide)
      have m1 : (s0 + (1 + st) * (0 + (i : Int))) % 26 < 26 := Int.emod_lt_of_pos _ (by decide)
      refine k_ix_s (c := lcode s0 (1 + st) i) (by rw [abc_len]; decide) ?_ (hKp _ _ (Same.refl _) ?_)
      · have h26 := abc_at ⟨((s0 + (1 + st) * (0 + (i : Int))) % 26).toNat, by omega⟩
        refine at_n (j := ((s0 + (1 + st) * (0 + (i : Int))) % 26).toNat) (by omega) ?_
        rw [h26]
        show some (97 + ((s0 + (1 + st) * (0 + (i : Int))) % 26).toNat) = some (97 + ((s0 + (1 + st) * (i : Int)) % 26).toNat)
        rw [Int.zero_add]
      · rw [hws, List.range_succ, List.map_append]
        rfl
    case he =>
      walk_at "g"
      refine k_sortedS (xs := (List.range m).map fun k => sg (lcode s0 (1 + st) k)) (sq_l (by rw [ep, hws, List.map_map]; rfl)) (by rw [List.length_map, List.length_range]; omega) (fun ys p2 H2 pe so n2 s2 e2 => ?_)
      have pe2 : ys.Perm (((List.range m).map (lcode s0 (1 + st))).map sg) := by
        rw [List.map_map]
        exact pe
      obtain ⟨ds, rfl, pd⟩ := perm_sgs pe2
      have le := pd.length_eq
      rw [List.length_map, List.length_range] at le
      have nd := pd.nodup_iff.mpr (lcodes_nodup (sp := s0) (st := 1 + st) (by omega) (by omega) hm3)
      walk_at "g"
      refine k_join (ys := ds.map sg) (sq_l e2) ?_ ?_
      · rw [List.map_map, List.length_map, show (Str.length ∘ sg) = fun _ => 1 from rfl, show (Str.ofString "").length = 0 by decide +kernel]
        have : (ds.map fun _ => 1).sum = ds.length := by
          clear pd nd so e2 pe pe2 le
          induction ds with
          | nil => rfl
          | cons c r ih => rw [List.map_cons, List.sum_cons, ih, List.length_cons]; omega
        rw [this]
        omega
      · rw [join_sgs]
        refine q ds _ ⟨lt_of_le_nodup (sortedS_sgs so) nd, fun c hc => ?_⟩ le (sp.trans s2)
        obtain ⟨k, _, rfl⟩ := List.mem_map.mp (pd.mem_iff.mp hc)
        unfold small lcode
        omega
end
end Lw
set_option Elab.async false
set_option linter.all false
set_option maxRecDepth 100000
set_option maxHeartbeats 4000000
namespace Lw
open PySem PySem.Spec PyProof.Rows L2 Gk

local macro_rules | `(tactic| walk_at "hp") => `(tactic| first | assumption | exact upd_same | (refine' (upd_ne ?n).trans ?h; (case n => assumption); (case h => walk_at "hp")) | (refine' sm_get ?s ?h; (case s => assumption); (case h => walk_at "hp")))
local macro_rules | `(tactic| walk_at "sq") => `(tactic| first | assumption | (refine' sq_l ?h; (case h => walk_at "hp")) | (refine' sm_l ?s ?h; (case s => assumption); (case h => walk_at "sq")))
local macro_rules | `(tactic| walk_at "st") => `(tactic| first | assumption | (refine' sq_t ?h; (case h => walk_at "hp")) | (refine' sm_t ?s ?h; (case s => assumption); (case h => walk_at "st")))
local macro_rules | `(tactic| walk_at "bg") => `(tactic| first | assumption | (refine' BagOk.sm ?s ?h; (case s => assumption); (case h => walk_at "bg")))
local macro_rules | `(tactic| walk_at "sm") => `(tactic| first | assumption | exact Same.refl _ | (refine' Same.trans ?h ?s; (case s => assumption); (case h => walk_at "sm")))
local macro_rules | `(tactic| walk_at "sz") => `(tactic| first | decide | assumption | omega | (simp only [List.length_cons, List.length_nil, List.length_map, List.length_append]; omega))
local macro_rules | `(tactic| walk_at "g1") => `(tactic| first
  | with_reducible refine k_seq ?_
  | with_reducible refine k_next ?_
  | with_reducible refine k_asg ?_
  | with_reducible refine k_name ?_
  | with_reducible refine k_ret ?_
  | with_reducible refine k_retN ?_
  | with_reducible refine k_drop ?_
  | with_reducible refine k_ifs ?_
  | with_reducible refine k_brk ?_
  | with_reducible refine k_cont ?_
  | with_reducible refine k_ipI ?_
  | with_reducible refine k_test ?_
  | with_reducible refine k_tB ?_
  | with_reducible refine k_bl ?_
  | with_reducible refine k_not ?_
  | with_reducible refine k_and ?_
  | with_reducible refine k_or ?_
  | with_reducible refine k_yes ?_
  | with_reducible refine k_true ?_
  | with_reducible refine k_false ?_
  | with_reducible refine k_nt ?_
  | with_reducible refine k_c ?_
  | with_reducible refine k_op ?_
  | with_reducible refine k_un ?_
  | with_reducible refine k_if ?_
  | with_reducible refine k_chain ?_
  | with_reducible refine k_nil ?_
  | with_reducible refine k_cons ?_
  | with_reducible refine k_cb ?_
  | with_reducible refine k_call ?_
  | with_reducible refine k_callS ?_
  | with_reducible refine k_andV ?_
  | with_reducible refine k_orV ?_
  | with_reducible refine k_notV ?_
  | with_reducible refine k_lst ?_
  | with_reducible refine k_tup ?_
  | with_reducible refine k_nopart ?_
  | with_reducible refine k_part ?_
  | with_reducible refine k_nInt ?_
  | with_reducible refine k_sl ?_
  | with_reducible refine k_bm ?_
  | with_reducible refine k_bm0 ?_
  | with_reducible refine k_nTyS ?_
  | with_reducible refine k_m1 ?_
  | with_reducible refine k_m0 ?_
  | with_reducible refine k_nStr ?_
  | with_reducible refine k_I0 ?_
  | with_reducible refine k_U ?_
  | with_reducible refine k_add_i ?_
  | with_reducible refine k_eq_i ?_
  | with_reducible refine k_eq_s ?_
  | with_reducible refine k_eq_b ?_
  | with_reducible refine k_ne_i ?_
  | with_reducible refine k_ne_s ?_
  | with_reducible refine k_ne_b ?_
  | with_reducible refine k_le_i ?_
  | with_reducible refine k_le_s ?_
  | with_reducible refine k_gnil ?_
  | with_reducible refine k_gcons ?_
  | with_reducible refine k_gsub ?_
  | with_reducible refine k_for ?_
  | with_reducible refine k_lc ?_
  | with_reducible refine k_rng1 ?_
  | with_reducible refine k_rng2 ?_
  | with_reducible refine k_itl ?_
  | with_reducible refine k_itt ?_
  | with_reducible refine k_its ?_
  | with_reducible refine k_ite ?_
  | with_reducible refine k_itz ?_
  | with_reducible refine k_nIts ?_
  | with_reducible refine k_inS ?_
  | with_reducible refine k_niS ?_
  | with_reducible refine k_mk ?_
  | ((with_reducible refine' k_var ?kv ?_); (case kv => exact rfl))
  | ((with_reducible refine' k_aug ?kv ?_); (case kv => exact rfl))
  | ((with_reducible refine' k_ix_l ?ks ?ki ?_); (case ks => walk_at "sq"); (case ki => exact rfl))
  | ((with_reducible refine' k_ix_t ?ks ?ki ?_); (case ks => walk_at "st"); (case ki => exact rfl))
  | ((with_reducible refine' k_len_l ?ks ?_); (case ks => walk_at "sq"))
  | ((with_reducible refine' k_len_t ?ks ?_); (case ks => walk_at "st"))
  | ((with_reducible refine' k_setL ?ks ?ki ?_); (case ks => walk_at "hp"); (case ki => exact rfl))
  | ((with_reducible refine' k_nTyL ?ks ?_); (case ks => walk_at "sq"))
  | ((with_reducible refine' k_nItl ?ks ?_); (case ks => walk_at "sq"))
  | ((with_reducible refine' k_nItt ?ks ?_); (case ks => walk_at "st"))
  | ((with_reducible refine' k_nIte ?ks ?_); (case ks => walk_at "sq"))
  | ((with_reducible refine' k_mul ?km ?_); (case km => first | exact Or.inr ⟨by decide, by decide⟩ | exact Or.inl ⟨by decide, by decide⟩))
  | ((with_reducible refine' k_I ?km ?_); (case km => first | assumption | decide | exact ⟨by decide, by decide +kernel⟩ | exact ⟨by decide, by decide, by decide⟩))
  | ((with_reducible refine' k_nRng1 ?k1 ?k2 ?_); (case k1 => omega); (case k2 => omega))
  | ((with_reducible refine' k_gtup ?ks ?kl ?_); (case ks => walk_at "st"); (case kl => exact rfl)))
local macro_rules | `(tactic| walk_at "g") => `(tactic| repeat (walk_at "g1"))

abbrev s_row_text : Stmt := (top 6)
theorem sc_row_text : FnScope ["row"] ["row"] (defScope s_row_text) := ⟨rfl, rfl, rfl, by decide +kernel, rfl, by decide +kernel, by decide +kernel⟩
abbrev s_read_row : Stmt := (top 7)
theorem sc_read_row : FnScope ["text", "found", "at", "word", "sign"] ["text"] (defScope s_read_row) := ⟨rfl, rfl, rfl, by decide +kernel, rfl, by decide +kernel, by decide +kernel⟩
abbrev s_letters_in : Stmt := (top 8)
theorem sc_letters_in : FnScope ["row", "word"] ["row"] (defScope s_letters_in) := ⟨rfl, rfl, rfl, by decide +kernel, rfl, by decide +kernel, by decide +kernel⟩
abbrev s_Lread : Stmt := (top 15)
theorem sc_Lread : FnScope ["_law_text", "_law_shelf", "_law_at", "_law_word", "_law_sign"] ["_law_text"] (defScope s_Lread) := ⟨rfl, rfl, rfl, by decide +kernel, rfl, by decide +kernel, by decide +kernel⟩
abbrev s_law : Stmt := (top 16)
theorem sc_law : FnScope ["_law_script", "_law_bag_here", "_law_k", "_law_row", "_law_due", "_law_handed", "_law_text", "_law_step", "_law_want", "_law_found", "_law_at", "_law_sign", "e", "_law_j"] ["_law_script"] (defScope s_law) := ⟨rfl, rfl, rfl, by decide +kernel, rfl, by decide +kernel, by decide +kernel⟩
abbrev s_BadText_init : Stmt := (inClass (top 2) 0)
theorem sc_BadText_init : FnScope ["self", "at"] ["self", "at"] (defScope s_BadText_init) := ⟨rfl, rfl, rfl, by decide +kernel, rfl, by decide +kernel, by decide +kernel⟩
section
variable {P : Program} {w : World} {K : PySem.W.Frag} {mg : Str → Option Value} {base : Heap} {f : Addr} {fd : FuncData}
/-! ### rows written -/
def rowText (ws : List Str) : Str := if ws.length = 0 then Str.ofString "-" else Txt.join (Str.ofString " ") ws
def lens (ws : List Str) : Nat := (ws.map (·.length)).sum
def spRowText (K : PySem.W.Frag) : Sp := fun vs H Q _ => ∃ (a : Addr) (ws : List Str), vs = [.ref a] ∧ (SqL K H a (ws.map V.str) ∨ SqT K H a (ws.map V.str)) ∧ lens ws + ws.length ≤ 100000 ∧ Q (.str (rowText ws)) H
theorem ok_row_text (F : FnP K "row_text" s_row_text f fd) (hm : mg "row_text" = some (.ref f)) (f_len : mg "len" = none) : Callee P w K mg base CX0 "row_text" 1 [] (spRowText K) := by
  refine ⟨f, fd, _, [], F.ok sc_row_text (fun vs H Q E h => ?hl) (fun cdv A outer s H vs Q E hr h => ⟨_, PSs.nox (pss_one (ps_ret (pe_ifExp (pt_cmpR op_gt (pe_callB (call_lenK K) (by rfl) f_len PySem.boot_len (pa_cons (pv 0) pa_nil)) pe_int (nomark _)) (pe_joinK K pe_str (pv 0)) pe_str))), ?rd⟩), hm, F.kp, F.bindsN fun _ _ _ _ _ _ us hl => match us, hl with | [_], _ => rfl, .nil⟩
  case hl =>
    obtain ⟨b, u, rfl, _⟩ := h
    rfl
  case rd =>
    obtain ⟨a, ws, rfl, hx, hz, q⟩ := h
    refine k_start (σ' := [some _]) rfl ?_
    have hl : (ws.map V.str).length = ws.length := List.length_map _
    have one : (Str.ofString " ").length = 1 := by decide +kernel
    unfold lens at hz
    rcases hx with hx | hx
    · walk_at "g"
      rw [hl]
      refine k_dec (fun h0 => ?_) (fun h0 => ?_)
      · walk_at "g"
        refine k_join hx (by rw [one]; omega) ?_
        unfold rowText at q
        rw [if_neg (by omega)] at q
        exact q
      · walk_at "g"
        unfold rowText at q
        rw [if_pos (by omega)] at q
        exact q
    · walk_at "g"
      rw [hl]
      refine k_dec (fun h0 => ?_) (fun h0 => ?_)
      · walk_at "g"
        refine k_joinT hx (by rw [one]; omega) ?_
        unfold rowText at q
        rw [if_neg (by omega)] at q
        exact q
      · walk_at "g"
        unfold rowText at q
        rw [if_pos (by omega)] at q
        exact q
/-! ### letters counted -/
def spLettersIn (K : PySem.W.Frag) : Sp := fun vs H Q _ => ∃ (a : Addr) (ws : List Str), vs = [.ref a] ∧ SqL K H a (ws.map V.str) ∧ ws.length ≤ 50000 ∧ (∀ w ∈ ws, w.length ≤ 100000) ∧ ∀ H', Same H H' → Q (.int (lens ws : Nat)) H'
theorem sum_cast : ∀ ns : List Nat, (ns.map fun n => ((n : Nat) : Int)).sum = ((ns.sum : Nat) : Int)
  | [] => rfl
  | n :: r => by
    rw [List.map_cons, List.sum_cons, List.sum_cons, sum_cast r]
    omega
theorem ok_letters_in (F : FnP K "letters_in" s_letters_in f fd) (hm : mg "letters_in" = some (.ref f)) (f_len : mg "len" = none) (f_sum : mg "sum" = none) : Callee P w K mg base CX0 "letters_in" 1 [] (spLettersIn K) := by
  refine ⟨f, fd, _, [], F.ok sc_letters_in (fun vs H Q E h => ?hl) (fun cdv A outer s H vs Q E hr h => ⟨_, PSs.nox (pss_one (ps_ret (pe_callB (cr_sumK K) (by rfl) f_sum (by decide +kernel) (pa_cons (pe_lc (own := [("word", 1)]) rfl sc_letters_in.nd (pi_listK K (pv 0)) (blkOk_by (N := ["row", "word"]) (sc := defScope s_letters_in) (by decide +kernel)) (fun _ _ _ _ _ => (pg_name (i := 1) sc_letters_in.nd rfl (by first | exact Or.inl rfl | exact Or.inr rfl))) (fun _ _ _ _ _ => pts_nil) (fun _ _ _ _ _ => (pe_callB (call_lenK K) (by rfl) f_len PySem.boot_len (pa_cons (pv 1) pa_nil)))) pa_nil)))), ?rd⟩), hm, F.kp, F.bindsN fun _ _ _ _ _ _ us hl => match us, hl with | [_], _ => rfl, .nil⟩
  case hl =>
    obtain ⟨b, u, rfl, _⟩ := h
    rfl
  case rd =>
    obtain ⟨a, ws, rfl, hx, hl, hw, q⟩ := h
    refine k_start (σ' := [some _, none]) rfl ?_
    walk_at "g"
    have le : (ws.map V.str).length = ws.length := List.length_map _
    refine k_nLc (walk_list (xs := ws.map V.str)) (fun H' s2 => sm_l s2 hx) (fun i vs => vs = ((ws.take i).map fun w => V.int (w.length : Nat))) rfl (fun i vs hi hw => ?hz) (fun i v Ha Hb vs Kp Ks hi sa hws hy2 hKp hKs => ?ht) (fun p Hp vs np sp ep hws => ?he)
    case hz =>
      rw [hw, List.length_map, List.length_take]
      omega
    case ht =>
      obtain ⟨rfl, hx2⟩ := hy2
      obtain ⟨z, hz, rfl⟩ := map_get hx2
      walk_at "g"
      refine ⟨rfl, ?_⟩
      walk_at "g"
      refine k_len_s (hw z (List.mem_of_getElem? hz)) (hKp _ _ (Same.refl _) ?_)
      rw [hws, take_more hz, List.map_append]
      rfl
    case he =>
      walk_at "g"
      rw [hws, le, List.take_length] at ep
      refine k_sum (ns := (ws.map (·.length)).map fun n => ((n : Nat) : Int)) (sq_l (by rw [ep, List.map_map, List.map_map]; rfl)) ?_
      rw [sum_cast]
      exact q _ sp
/-! ### words that are none -/
def smallB (c : Nat) : Bool := decide (97 ≤ c) && decide (c ≤ 122)
def badW (z : Str) : Bool := decide (z = Str.ofString "") || !(TL.tl z).all smallB
theorem small_cps : (Str.ofString "abcdefghijklmnopqrstuvwxyz").cps.toList = (List.range 26).map (97 + ·) := by decide +kernel
theorem mem_small (c : Nat) : decide (c ∈ (Str.ofString "abcdefghijklmnopqrstuvwxyz").cps.toList) = smallB c := by
  unfold smallB
  rw [small_cps]
  by_cases h : 97 ≤ c ∧ c ≤ 122
  · rw [decide_eq_true h.1, decide_eq_true h.2, decide_eq_true (List.mem_map.mpr ⟨c - 97, List.mem_range.mpr (by omega), by omega⟩)]
    rfl
  · rw [decide_eq_false (fun m => h (by
      obtain ⟨k, hk, e⟩ := List.mem_map.mp m
      have := List.mem_range.mp hk
      omega))]
    by_cases h1 : 97 ≤ c
    · rw [decide_eq_false (fun z => h ⟨h1, z⟩), Bool.and_false]
    · rw [decide_eq_false h1, Bool.false_and]
/-- read: the words, or the place of the first that is none -/
def readR (z : Str) : Option Nat := (Txt.split z (Str.ofString " ")).findIdx? badW
theorem BadText_made (F : FunD K "__init__" "BadText.__init__" (defArgs s_BadText_init) (defBody s_BadText_init) (defScope s_BadText_init) [] [] (He.ma K (He.ga K "BadText") "__init__") fd) (gC : mg "BadText" = some (.ref (He.ga K "BadText"))) (O : Oex K (He.ga K "BadText") (He.ma K (He.ga K "BadText") "__init__"))
    (nw : PySem.W.findIn K (.ref (He.ga K "BadText")) "word" = some none) (nf : PySem.W.findIn K (.ref (He.ga K "BadText")) "at" = some none) : XCls P w K mg base "BadText" 1 "BadText" "at" := by
  refine ⟨gC, O, nw, nf, fd, ["self", "at"], F.ok sc_BadText_init (fun vs H Q E h => ?_) (fun cdv A outer s H vs Q E hr h => ⟨_, PSs.nox (pss_cons (ps_ost (pv 0) pe_str) (pss_one (ps_ost (pv 0) (pv 1)))), x1_read O.T nw nf h rfl⟩), F.bindsN fun _ _ _ _ _ _ us hl => match us, hl with | [_, _], _ => rfl⟩
  obtain ⟨a, v, rfl, _⟩ := h
  rfl
def spReadRow (K : PySem.W.Frag) : Sp := fun vs H Q E => ∃ z : Str, vs = [.str z] ∧ Pl z ∧ z.length ≤ 40000 ∧
  (z = Str.ofString "-" → ∀ p H', H p = none → Same H H' → H' p = some (.lst []) → Q (.ref p) H') ∧
  (z ≠ Str.ofString "-" → readR z = none → ∀ p H', H p = none → Same H H' → H' p = some (.lst ((Txt.split z (Str.ofString " ")).map V.str)) → Q (.ref p) H') ∧
  (z ≠ Str.ofString "-" → ∀ i : Nat, readR z = some i → ∀ d H', H d = none → Same H H' → H' d = some (.xd (xfs "BadText" "at" (.int (i : Nat)))) → E (.ref (He.ga K "BadText")) (some d) H')
theorem ok_read_row (F : FnP K "read_row" s_read_row f fd) (hm : mg "read_row" = some (.ref f)) (f_enumerate : mg "enumerate" = none) (f_all : mg "all" = none) (c_SMALL : ∃ t, mg "SMALL" = some (.str (Str.ofString "abcdefghijklmnopqrstuvwxyz") t)) (c_BadText : XCls P w K mg base "BadText" 1 "BadText" "at") :
    Callee P w K mg base (L2.CX P w) "read_row" 3 [] (spReadRow K) := by
  refine ⟨f, fd, _, [], F.ok sc_read_row (fun vs H Q E h => ?hl) (fun cdv A outer s H vs Q E hr h => ⟨_, (pss_cons (ps_if (pt_cmpR (op_eqK K hr.units) (pv 0) pe_str (nomark _)) (pss_one (ps_ret (pe_lst pa_nil))) pss_nil)
      (pss_cons (ps_set (i := 1) sc_read_row.nd rfl (by first | exact Or.inl rfl | exact Or.inr rfl) (pe_splitK (pv 0) pe_str))
      (pss_cons (ps_for (passes_of rfl) rfl (pi_enumK K (by rfl) f_enumerate (pa_cons (pv 1) pa_nil)) (pg_tupK K 2 (by rfl) (pgs_cons (pg_name (i := 2) sc_read_row.nd rfl (by first | exact Or.inl rfl | exact Or.inr rfl)) (pgs_cons (pg_name (i := 3) sc_read_row.nd rfl (by first | exact Or.inl rfl | exact Or.inr rfl)) pgs_nil))) (pss_one (ps_if (PW.pt (pw_or (pt_cmpR (op_eqK K hr.units) (pv 3) pe_str (nomark _)) (pw_or1 (pt_not (pt_val (pe_callB (cr_allK K) (by rfl) f_all (by decide +kernel) (pa_cons (pe_lc (own := [("sign", 4)]) rfl sc_read_row.nd (pi_str (pv 3)) (blkOk_by (N := ["text", "found", "at", "word", "sign"]) (sc := defScope s_read_row) (by decide +kernel)) (fun _ _ _ _ _ => (pg_name (i := 4) sc_read_row.nd rfl (by first | exact Or.inl rfl | exact Or.inr rfl))) (fun _ _ _ _ _ => pts_nil) (fun _ _ _ _ _ => (pe_cmpR op_inS (pv 4) (pe_gs c_SMALL) (by rfl)))) pa_nil))))))) (pss_one (ps_raise rfl (takes_of rfl rfl rfl rfl) (pmk_x1 c_BadText hr (pa_cons (pv 2) pa_nil)))) pss_nil)))
      (pss_one (ps_ret (pv 1)))))), ?rd⟩), hm, F.kp, F.bindsN fun _ _ _ _ _ _ us hl => match us, hl with | [_], _ => rfl, .nil⟩
  case hl =>
    obtain ⟨b, rfl, _⟩ := h
    rfl
  case rd =>
    obtain ⟨z, rfl, pz, lz, q1, q2, q3⟩ := h
    refine k_start (σ' := [some _, none, none, none, none]) rfl ?_
    walk_at "g"
    refine k_dec (fun h0 => ?_) (fun h0 => ?_)
    · walk_at "g"
      exact k_nLst (by walk_at "sz") (q1 h0)
    · walk_at "g"
      refine k_split (by decide +kernel) (by omega) (fun p1 H1 n1 s1 e1 => ?_)
      walk_at "g"
      have hsp := split_pl (y := Str.ofString " ") pz (by decide +kernel) (by decide +kernel)
      unfold readR at q2 q3
      generalize hws : Txt.split z (Str.ofString " ") = ws at *
      have le : (ws.map V.str).length = ws.length := List.length_map _
      refine k_nFor (walk_enum (xs := ws.map V.str)) (fun i σ H' => ∃ y2 y3, σ = [some (.str z), some (.ref p1), y2, y3, none] ∧ Same H1 H' ∧ ∀ k, k < i → ∀ u, ws[k]? = some u → badW u = false) ⟨_, _, rfl, Same.refl _, fun k hk => absurd hk (Nat.not_lt_zero k)⟩ (fun i σ H' _ h => ?hg) (fun i x σ Ha Hb hi h hy => ?ht) (fun σ H' h => ?he)
      case hg =>
        obtain ⟨y2, y3, rfl, sa, hk⟩ := h
        exact sm_l sa (sq_l e1)
      case ht =>
        obtain ⟨y2, y3, rfl, sa, hk⟩ := h
        obtain ⟨T, xi, yi, rfl, nT, rfl, ex, ey⟩ := hy
        have sT : Same Ha (upd Ha T (.tup [xi, yi])) := sm_new nT
        have eT : (upd Ha T (.tup [xi, yi])) T = some (.tup [xi, yi]) := upd_same
        generalize upd Ha T (.tup [xi, yi]) = Hb at sT eT
        cases ex
        obtain ⟨u, hu, rfl⟩ := map_get ey
        obtain ⟨pu, lu⟩ := hsp.1 u (List.mem_of_getElem? hu)
        walk_at "g"
        have next : badW u = false → ∀ k, k < i + 1 → ∀ v, ws[k]? = some v → badW v = false := by
          intro hb k hk' v hv
          by_cases e : k = i
          · rw [e, hu] at hv
            cases hv
            exact hb
          · exact hk k (by omega) v hv
        refine k_dec (fun h1 => ?_) (fun h1 => ?_)
        · walk_at "g"
          exact k_x1 fun d H' nd sd ed => q3 h0 i (fidx_some hu (by unfold badW; rw [decide_eq_true h1]; rfl) hk) d H' ((s1.trans sa).trans sT |>.free nd) (((s1.trans sa).trans sT).trans sd) ed
        · walk_at "g"
          refine k_nLc (walk_str (z := u)) (fun _ _ => trivial) (fun i vs => vs = ((TL.tl u).take i).map fun c => V.bl (smallB c)) rfl (fun i vs hi hw => ?hz2) (fun i v Hc Hd vs Kp Ks hi sa2 hvs hy2 hKp hKs => ?ht2) (fun p Hp vs np sp ep hvs => ?he2)
          case hz2 =>
            rw [hw, List.length_map, List.length_take]
            have : u.cps.size = u.length := rfl
            omega
          case ht2 =>
            obtain ⟨rfl, c, hc, rfl⟩ := hy2
            walk_at "g"
            refine ⟨rfl, ?_⟩
            walk_at "g"
            rw [mem_small]
            have hc' : (TL.tl u)[i]? = some c := by
              rw [← hc]
              exact Array.getElem?_toList
            exact hKp _ _ (Same.refl _) (by rw [hvs, take_more hc', List.map_append]; rfl)
          case he2 =>
            walk_at "g"
            have eu : (TL.tl u).take u.cps.size = TL.tl u := List.take_of_length_le (by simp)
            rw [hvs, eu] at ep
            refine k_all (bs := (TL.tl u).map smallB) (sq_l (by rw [ep, List.map_map]; rfl)) ?_
            walk_at "g"
            have ea : ((TL.tl u).map smallB).all id = (TL.tl u).all smallB := by rw [List.all_map]; rfl
            rw [ea]
            refine k_bool (fun h2 => ?_) (fun h2 => ?_)
            · walk_at "g"
              exact ⟨_, _, rfl, (sa.trans sT).trans sp, next (by unfold badW; rw [decide_eq_false h1, h2]; rfl)⟩
            · walk_at "g"
              exact k_x1 fun d H' nd sd ed => q3 h0 i (fidx_some hu (by unfold badW; rw [h2]; simp) hk) d H' ((((s1.trans sa).trans sT).trans sp).free nd) ((((s1.trans sa).trans sT).trans sp).trans sd) ed
      case he =>
        obtain ⟨y2, y3, rfl, sa, hk⟩ := h
        walk_at "g"
        exact q2 h0 (fidx_none fun k v hv => hk k (by have := (List.getElem?_eq_some_iff.mp hv).1; omega) v hv) p1 H' n1 (s1.trans sa) (sa _ _ e1)
/-! ### the law's own reading -/
def spLRead (K : PySem.W.Frag) : Sp := fun vs H Q _ => ∃ z : Str, vs = [.str z] ∧ Pl z ∧ z.length ≤ 40000 ∧
  (z = Str.ofString "-" → ∀ p H', H p = none → Same H H' → H' p = some (.lst []) → Q (.ref p) H') ∧
  (z ≠ Str.ofString "-" → readR z = none → ∀ p H', H p = none → Same H H' → H' p = some (.lst ((Txt.split z (Str.ofString " ")).map V.str)) → Q (.ref p) H') ∧
  (z ≠ Str.ofString "-" → ∀ i : Nat, readR z = some i → ∀ H', Same H H' → Q (.int (i : Nat)) H')
theorem lt1 (a b : Nat) : decide ([a] < [b]) = decide (a < b) := by
  by_cases h : a < b
  · rw [decide_eq_true h, decide_eq_true]
    exact List.Lex.rel h
  · rw [decide_eq_false h, decide_eq_false]
    intro z
    cases z with
    | rel q => exact h q
    | cons q => cases q
theorem ok_Lread (F : FnP K "_law_read" s_Lread f fd) (hm : mg "_law_read" = some (.ref f)) (f_enumerate : mg "enumerate" = none) (f_all : mg "all" = none) : Callee P w K mg base CX0 "_law_read" 1 [] (spLRead K) := by
  refine ⟨f, fd, _, [], F.ok sc_Lread (fun vs H Q E h => ?hl) (fun cdv A outer s H vs Q E hr h => ⟨_, PSs.nox (pss_cons (ps_if (pt_cmpR (op_eqK K hr.units) (pv 0) pe_str (nomark _)) (pss_one (ps_ret (pe_lst pa_nil))) pss_nil)
      (pss_cons (ps_set (i := 1) sc_Lread.nd rfl (by first | exact Or.inl rfl | exact Or.inr rfl) (pe_splitK (pv 0) pe_str))
      (pss_cons (ps_for PassesOwn.never rfl (pi_enumK K (by rfl) f_enumerate (pa_cons (pv 1) pa_nil)) (pg_tupK K 2 (by rfl) (pgs_cons (pg_name (i := 2) sc_Lread.nd rfl (by first | exact Or.inl rfl | exact Or.inr rfl)) (pgs_cons (pg_name (i := 3) sc_Lread.nd rfl (by first | exact Or.inl rfl | exact Or.inr rfl)) pgs_nil))) (pss_one (ps_if (PW.pt (pw_or (pt_cmpR (op_eqK K hr.units) (pv 3) pe_str (nomark _)) (pw_or1 (pt_not (pt_val (pe_callB (cr_allK K) (by rfl) f_all (by decide +kernel) (pa_cons (pe_lc (own := [("_law_sign", 4)]) rfl sc_Lread.nd (pi_str (pv 3)) (blkOk_by (N := ["_law_text", "_law_shelf", "_law_at", "_law_word", "_law_sign"]) (sc := defScope s_Lread) (by decide +kernel)) (fun _ _ _ _ _ => (pg_name (i := 4) sc_Lread.nd rfl (by first | exact Or.inl rfl | exact Or.inr rfl))) (fun _ _ _ _ _ => pts_nil) (fun _ _ _ _ _ => (pe_chain op_leU op_leU pe_str (pv 4) pe_str))) pa_nil))))))) (pss_one (ps_ret (pv 2))) pss_nil)))
      (pss_one (ps_ret (pv 1)))))), ?rd⟩), hm, F.kp, F.bindsN fun _ _ _ _ _ _ us hl => match us, hl with | [_], _ => rfl, .nil⟩
  case hl =>
    obtain ⟨b, rfl, _⟩ := h
    rfl
  case rd =>
    obtain ⟨z, rfl, pz, lz, q1, q2, q3⟩ := h
    refine k_start (σ' := [some _, none, none, none, none]) rfl ?_
    walk_at "g"
    refine k_dec (fun h0 => ?_) (fun h0 => ?_)
    · walk_at "g"
      exact k_nLst (by walk_at "sz") (q1 h0)
    · walk_at "g"
      refine k_split (by decide +kernel) (by omega) (fun p1 H1 n1 s1 e1 => ?_)
      walk_at "g"
      have hsp := split_pl (y := Str.ofString " ") pz (by decide +kernel) (by decide +kernel)
      unfold readR at q2 q3
      generalize hws : Txt.split z (Str.ofString " ") = ws at *
      have le : (ws.map V.str).length = ws.length := List.length_map _
      refine k_nFor (walk_enum (xs := ws.map V.str)) (fun i σ H' => ∃ y2 y3, σ = [some (.str z), some (.ref p1), y2, y3, none] ∧ Same H1 H' ∧ ∀ k, k < i → ∀ u, ws[k]? = some u → badW u = false) ⟨_, _, rfl, Same.refl _, fun k hk => absurd hk (Nat.not_lt_zero k)⟩ (fun i σ H' _ h => ?hg) (fun i x σ Ha Hb hi h hy => ?ht) (fun σ H' h => ?he)
      case hg =>
        obtain ⟨y2, y3, rfl, sa, hk⟩ := h
        exact sm_l sa (sq_l e1)
      case ht =>
        obtain ⟨y2, y3, rfl, sa, hk⟩ := h
        obtain ⟨T, xi, yi, rfl, nT, rfl, ex, ey⟩ := hy
        have sT : Same Ha (upd Ha T (.tup [xi, yi])) := sm_new nT
        have eT : (upd Ha T (.tup [xi, yi])) T = some (.tup [xi, yi]) := upd_same
        generalize upd Ha T (.tup [xi, yi]) = Hb at sT eT
        cases ex
        obtain ⟨u, hu, rfl⟩ := map_get ey
        obtain ⟨pu, lu⟩ := hsp.1 u (List.mem_of_getElem? hu)
        walk_at "g"
        have next : badW u = false → ∀ k, k < i + 1 → ∀ v, ws[k]? = some v → badW v = false := by
          intro hb k hk' v hv
          by_cases e : k = i
          · rw [e, hu] at hv
            cases hv
            exact hb
          · exact hk k (by omega) v hv
        refine k_dec (fun h1 => ?_) (fun h1 => ?_)
        · walk_at "g"
          exact q3 h0 i (fidx_some hu (by unfold badW; rw [decide_eq_true h1]; rfl) hk) _ ((s1.trans sa).trans sT)
        · walk_at "g"
          refine k_nLc (walk_str (z := u)) (fun _ _ => trivial) (fun i vs => vs = ((TL.tl u).take i).map fun c => V.bl (smallB c)) rfl (fun i vs hi hw => ?hz2) (fun i v Hc Hd vs Kp Ks hi sa2 hvs hy2 hKp hKs => ?ht2) (fun p Hp vs np sp ep hvs => ?he2)
          case hz2 =>
            rw [hw, List.length_map, List.length_take]
            have : u.cps.size = u.length := rfl
            omega
          case ht2 =>
            obtain ⟨rfl, c, hc, rfl⟩ := hy2
            have hc' : (TL.tl u)[i]? = some c := by
              rw [← hc]
              exact Array.getElem?_toList
            have fin : ∀ b : Bool, b = smallB c → Kp (.bl b) Hd := fun b e => hKp _ _ (Same.refl _) (by rw [hvs, take_more hc', List.map_append, e]; rfl)
            walk_at "g"
            refine ⟨rfl, ?_⟩
            walk_at "g"
            have ea : (Str.ofString "a").cps.toList = [97] := by decide +kernel
            have ez : (Str.ofString "z").cps.toList = [122] := by decide +kernel
            rw [ea, show (⟨#[c]⟩ : Str).cps.toList = [c] from rfl, lt1]
            refine k_dec (fun h2 => ?_) (fun h2 => ?_)
            · walk_at "g"
              refine fin _ ?_
              unfold smallB
              rw [decide_eq_false (by omega), Bool.false_and]
            · walk_at "g"
              rw [ez, show (⟨#[c]⟩ : Str).cps.toList = [c] from rfl, lt1]
              refine fin _ ?_
              unfold smallB
              rw [decide_eq_true (show 97 ≤ c by omega), Bool.true_and]
              by_cases h3 : c ≤ 122
              · rw [decide_eq_true h3, decide_eq_false (by omega)]
                rfl
              · rw [decide_eq_false h3, decide_eq_true (by omega)]
                rfl
          case he2 =>
            walk_at "g"
            have eu : (TL.tl u).take u.cps.size = TL.tl u := List.take_of_length_le (by simp)
            rw [hvs, eu] at ep
            refine k_all (bs := (TL.tl u).map smallB) (sq_l (by rw [ep, List.map_map]; rfl)) ?_
            walk_at "g"
            have ea : ((TL.tl u).map smallB).all id = (TL.tl u).all smallB := by rw [List.all_map]; rfl
            rw [ea]
            refine k_bool (fun h2 => ?_) (fun h2 => ?_)
            · walk_at "g"
              exact ⟨_, _, rfl, (sa.trans sT).trans sp, next (by unfold badW; rw [decide_eq_false h1, h2]; rfl)⟩
            · walk_at "g"
              exact q3 h0 i (fidx_some hu (by unfold badW; rw [h2]; simp) hk) _ (((s1.trans sa).trans sT).trans sp)
      case he =>
        obtain ⟨y2, y3, rfl, sa, hk⟩ := h
        walk_at "g"
        exact q2 h0 (fidx_none fun k v hv => hk k (by have := (List.getElem?_eq_some_iff.mp hv).1; omega) v hv) p1 H' n1 (s1.trans sa) (sa _ _ e1)
end
end Lw
set_option Elab.async false
set_option linter.all false
set_option maxRecDepth 100000
set_option maxHeartbeats 4000000
namespace Lw
open PySem PySem.Spec PyProof.Rows L2 Gk

local macro_rules | `(tactic| walk_at "hp") => `(tactic| first | assumption | exact upd_same | (refine' (upd_ne ?n).trans ?h; (case n => assumption); (case h => walk_at "hp")) | (refine' sm_get ?s ?h; (case s => assumption); (case h => walk_at "hp")))
local macro_rules | `(tactic| walk_at "sq") => `(tactic| first | assumption | (refine' sq_l ?h; (case h => walk_at "hp")) | (refine' sm_l ?s ?h; (case s => assumption); (case h => walk_at "sq")))
local macro_rules | `(tactic| walk_at "st") => `(tactic| first | assumption | (refine' sq_t ?h; (case h => walk_at "hp")) | (refine' sm_t ?s ?h; (case s => assumption); (case h => walk_at "st")))
local macro_rules | `(tactic| walk_at "bg") => `(tactic| first | assumption | (refine' BagOk.sm ?s ?h; (case s => assumption); (case h => walk_at "bg")))
local macro_rules | `(tactic| walk_at "sm") => `(tactic| first | assumption | exact Same.refl _ | (refine' Same.trans ?h ?s; (case s => assumption); (case h => walk_at "sm")))
local macro_rules | `(tactic| walk_at "sz") => `(tactic| first | decide | assumption | omega | (simp only [List.length_cons, List.length_nil, List.length_map, List.length_append]; omega))
local macro_rules | `(tactic| walk_at "g1") => `(tactic| first
  | with_reducible refine k_seq ?_
  | with_reducible refine k_next ?_
  | with_reducible refine k_asg ?_
  | with_reducible refine k_name ?_
  | with_reducible refine k_ret ?_
  | with_reducible refine k_retN ?_
  | with_reducible refine k_drop ?_
  | with_reducible refine k_ifs ?_
  | with_reducible refine k_brk ?_
  | with_reducible refine k_cont ?_
  | with_reducible refine k_ipI ?_
  | with_reducible refine k_test ?_
  | with_reducible refine k_tB ?_
  | with_reducible refine k_bl ?_
  | with_reducible refine k_not ?_
  | with_reducible refine k_and ?_
  | with_reducible refine k_or ?_
  | with_reducible refine k_yes ?_
  | with_reducible refine k_true ?_
  | with_reducible refine k_false ?_
  | with_reducible refine k_nt ?_
  | with_reducible refine k_c ?_
  | with_reducible refine k_op ?_
  | with_reducible refine k_un ?_
  | with_reducible refine k_if ?_
  | with_reducible refine k_chain ?_
  | with_reducible refine k_nil ?_
  | with_reducible refine k_cons ?_
  | with_reducible refine k_cb ?_
  | with_reducible refine k_call ?_
  | with_reducible refine k_callS ?_
  | with_reducible refine k_andV ?_
  | with_reducible refine k_orV ?_
  | with_reducible refine k_notV ?_
  | with_reducible refine k_lst ?_
  | with_reducible refine k_tup ?_
  | with_reducible refine k_nopart ?_
  | with_reducible refine k_part ?_
  | with_reducible refine k_nInt ?_
  | with_reducible refine k_sl ?_
  | with_reducible refine k_bm ?_
  | with_reducible refine k_bm0 ?_
  | with_reducible refine k_nTyS ?_
  | with_reducible refine k_m1 ?_
  | with_reducible refine k_m0 ?_
  | with_reducible refine k_nStr ?_
  | with_reducible refine k_I0 ?_
  | with_reducible refine k_U ?_
  | with_reducible refine k_add_i ?_
  | with_reducible refine k_eq_i ?_
  | with_reducible refine k_eq_s ?_
  | with_reducible refine k_eq_b ?_
  | with_reducible refine k_ne_i ?_
  | with_reducible refine k_ne_s ?_
  | with_reducible refine k_ne_b ?_
  | with_reducible refine k_le_i ?_
  | with_reducible refine k_le_s ?_
  | with_reducible refine k_gnil ?_
  | with_reducible refine k_gcons ?_
  | with_reducible refine k_gsub ?_
  | with_reducible refine k_for ?_
  | with_reducible refine k_lc ?_
  | with_reducible refine k_rng1 ?_
  | with_reducible refine k_rng2 ?_
  | with_reducible refine k_itl ?_
  | with_reducible refine k_itt ?_
  | with_reducible refine k_its ?_
  | with_reducible refine k_ite ?_
  | with_reducible refine k_itz ?_
  | with_reducible refine k_nIts ?_
  | with_reducible refine k_inS ?_
  | with_reducible refine k_niS ?_
  | with_reducible refine k_mk ?_
  | ((with_reducible refine' k_var ?kv ?_); (case kv => exact rfl))
  | ((with_reducible refine' k_aug ?kv ?_); (case kv => exact rfl))
  | ((with_reducible refine' k_ix_l ?ks ?ki ?_); (case ks => walk_at "sq"); (case ki => exact rfl))
  | ((with_reducible refine' k_ix_t ?ks ?ki ?_); (case ks => walk_at "st"); (case ki => exact rfl))
  | ((with_reducible refine' k_len_l ?ks ?_); (case ks => walk_at "sq"))
  | ((with_reducible refine' k_len_t ?ks ?_); (case ks => walk_at "st"))
  | ((with_reducible refine' k_setL ?ks ?ki ?_); (case ks => walk_at "hp"); (case ki => exact rfl))
  | ((with_reducible refine' k_nTyL ?ks ?_); (case ks => walk_at "sq"))
  | ((with_reducible refine' k_nItl ?ks ?_); (case ks => walk_at "sq"))
  | ((with_reducible refine' k_nItt ?ks ?_); (case ks => walk_at "st"))
  | ((with_reducible refine' k_nIte ?ks ?_); (case ks => walk_at "sq"))
  | ((with_reducible refine' k_mul ?km ?_); (case km => first | exact Or.inr ⟨by decide, by decide⟩ | exact Or.inl ⟨by decide, by decide⟩))
  | ((with_reducible refine' k_I ?km ?_); (case km => first | assumption | decide | exact ⟨by decide, by decide +kernel⟩ | exact ⟨by decide, by decide, by decide⟩))
  | ((with_reducible refine' k_nRng1 ?k1 ?k2 ?_); (case k1 => omega); (case k2 => omega))
  | ((with_reducible refine' k_gtup ?ks ?kl ?_); (case ks => walk_at "st"); (case kl => exact rfl)))
local macro_rules | `(tactic| walk_at "g") => `(tactic| repeat (walk_at "g1"))

section
variable {P : Program} {w : World} {K : PySem.W.Frag} {mg : Str → Option Value} {base : Heap} {f : Addr} {fd : FuncData}
def spLaw (K : PySem.W.Frag) : Sp := fun vs H Q _ => ∃ (a : Addr) (ns : List Int), vs = [.ref a] ∧ SqL K H a (ns.map V.int) ∧ ns.length ≤ 63 ∧ ∀ H', Q (.bl true) H'
theorem k_letters {H : Hp} {Q : VK} {E : XK} {b : Addr} {n : Int} (hb : BagOk H b) (h0 : 0 ≤ n) (h3 : n ≤ 3) (q : ∀ (cs : List Nat) H', Rise cs → cs.length = n.toNat → Same H H' → Q (.str (tx cs)) H') : spLetters ([.ref b, .int n] ++ []) H Q E :=
  ⟨b, n.toNat, by rw [Int.toNat_of_nonneg h0]; rfl, hb, by omega, q⟩
theorem rise_pl {cs : List Nat} (h : Rise cs) : Pl (tx cs) := fun c hc => by
  have := h.2 c hc
  unfold small at this
  omega
def outR (z : Str) : PyData := if z = Str.ofString "-" then .list [] else match readR z with
  | none => dStrs (Txt.split z (Str.ofString " "))
  | some i => .int (i : Nat)
theorem lens_le {ws : List Str} (h : ∀ z ∈ ws, z.length ≤ 3) : lens ws ≤ 3 * ws.length := by
  unfold lens
  induction ws with
  | nil => exact Nat.le_refl _
  | cons w r ih =>
    rw [List.map_cons, List.sum_cons, List.length_cons]
    have h1 := h w (List.mem_cons_self ..)
    have h2 := ih fun z hz => h z (List.mem_cons_of_mem _ hz)
    omega
theorem good_out {z : Str} (pz : Pl z) (lz : z.length ≤ 40000) : Fit 4 (outR z) := by
  have hsp := split_pl (y := Str.ofString " ") pz (by decide +kernel) (by decide +kernel)
  unfold outR
  split
  · exact ⟨by decide, fun e he => by cases he⟩
  · cases hr : readR z with
    | none => exact (good_strs (fun w hw => ⟨(hsp.1 w hw).1, by have := (hsp.1 w hw).2; omega⟩) (by omega) 2).fit
    | some i =>
      refine log_nat ?_
      unfold readR at hr
      have := (List.findIdx?_eq_some_iff_getElem.mp hr).1
      omega
theorem lread_of {H : Hp} {Q : VK} {E : XK} {z : Str} (pz : Pl z) (lz : z.length ≤ 40000) (h : ∀ v H', Same H H' → Dp K H' v (outR z) → Q v H') : spLRead K ([.str z] ++ []) H Q E := by
  unfold outR at h
  refine ⟨z, rfl, pz, lz, fun h0 p H' np sp ep => ?_, fun h0 h1 p H' np sp ep => ?_, fun h0 i h1 H' sp => ?_⟩
  · rw [if_pos h0] at h
    exact h _ _ sp (.lst (sq_l ep) .nil)
  · rw [if_neg h0, h1] at h
    exact h _ _ sp (dp_row (sq_l ep))
  · rw [if_neg h0, h1] at h
    exact h _ _ sp (.int _)
theorem readrow_of {H : Hp} {Q : VK} {E : XK} {z : Str} (pz : Pl z) (lz : z.length ≤ 40000) (h : ∀ v H', Same H H' → Dp K H' v (outR z) → Q v H')
    (e : ∀ (i : Nat) d H', outR z = .int (i : Nat) → Same H H' → H' d = some (.xd (xfs "BadText" "at" (.int (i : Nat)))) → E (.ref (He.ga K "BadText")) (some d) H') : spReadRow K ([.str z] ++ []) H Q E := by
  unfold outR at h e
  refine ⟨z, rfl, pz, lz, fun h0 p H' np sp ep => ?_, fun h0 h1 p H' np sp ep => ?_, fun h0 i h1 d H' np sp ed => ?_⟩
  · rw [if_pos h0] at h
    exact h _ _ sp (.lst (sq_l ep) .nil)
  · rw [if_neg h0, h1] at h
    exact h _ _ sp (dp_row (sq_l ep))
  · rw [if_neg h0, h1] at e
    exact e i d H' rfl sp ed
theorem ok_law (F : FnP K "law" s_law f fd) (hm : mg "law" = some (.ref f)) (f_range : mg "range" = none) (f_len : mg "len" = none) (f_list : mg "list" = none) (f_tuple : mg "tuple" = none) (c_MOST_ROW : ∃ t, mg "MOST_ROW" = some (.int 12 t))
    (c_Lbag : Callee P w K mg base CX0 "_law_bag" 1 [] (spBag K)) (c_Lpull : Callee P w K mg base CX0 "_law_pull" 1 [] spPull) (c_Lone : Callee P w K mg base CX0 "_law_one" 2 [] (spOne K)) (c_Lsame : Callee P w K mg base CX0 "_law_same" 4 [] (spSame K 4))
    (c_Lletters : Callee P w K mg base CX0 "_law_letters" 2 [] spLetters) (c_Lread : Callee P w K mg base CX0 "_law_read" 1 [] (spLRead K)) (c_row_text : Callee P w K mg base CX0 "row_text" 1 [] (spRowText K)) (c_letters_in : Callee P w K mg base CX0 "letters_in" 1 [] (spLettersIn K))
    (c_read_row : Callee P w K mg base (L2.CX P w) "read_row" 3 [] (spReadRow K)) (c_BadText : XCls P w K mg base "BadText" 1 "BadText" "at") (xm : PySem.W.exmOne K (.ref (He.ga K "BadText")) (.ref (He.ga K "BadText")) = some true) :
    FnOk P w K mg base CX0 6 f fd ["_law_script"] (spLaw K) := by
  refine F.ok sc_law (fun vs H Q E h => ?hl) (fun cdv A outer s H vs Q E hr h => ⟨_, PSs.nox (pss_cons (ps_set (i := 1) sc_law.nd rfl (by first | exact Or.inl rfl | exact Or.inr rfl) (pe_cl c_Lbag hr (pa_cons (pv 0) pa_nil) pass0))
      (pss_cons (ps_for PassesOwn.never rfl (pi_range1 (by rfl) f_range (pa_cons pe_int pa_nil)) (pg_name (i := 2) sc_law.nd rfl (by first | exact Or.inl rfl | exact Or.inr rfl)) (pss_cons (ps_setLc (i := 3) (own := [("_law_j", 13)]) rfl sc_law.nd rfl rfl (sw_true rfl rfl rfl (by decide +kernel)) (pi_range1 (by rfl) f_range (pa_cons (pe_cl c_Lpull hr (pa_cons (pv 1) (pa_cons pe_int pa_nil)) pass0) pa_nil)) (blkOk_by (N := ["_law_script", "_law_bag_here", "_law_k", "_law_row", "_law_due", "_law_handed", "_law_text", "_law_step", "_law_want", "_law_found", "_law_at", "_law_sign", "e", "_law_j"]) (sc := defScope s_law) (by decide +kernel)) (fun _ _ _ _ _ => (pg_name (i := 13) sc_law.nd rfl (by first | exact Or.inl rfl | exact Or.inr rfl))) (fun _ _ _ _ _ => pts_nil) (fun _ _ _ _ _ => (pe_cl c_Lletters hr (pa_cons (pv 1) (pa_cons (pe_op (op_addK K) pe_int (pe_cl c_Lpull hr (pa_cons (pv 1) (pa_cons pe_int pa_nil)) pass0)) pa_nil)) pass0)))
      (pss_cons (ps_set (i := 4) sc_law.nd rfl (by first | exact Or.inl rfl | exact Or.inr rfl) (pe_ifExp (pt_cmpR (op_neK K hr.units) (pv 3) (pe_lst pa_nil) (nomark _)) (pe_joinK K pe_str (pv 3)) pe_str))
      (pss_cons (ps_set (i := 5) sc_law.nd rfl (by first | exact Or.inl rfl | exact Or.inr rfl) (pe_callTy (call_listK K) (by rfl) f_list (by decide +kernel) (pa_cons (pv 3) pa_nil)))
      (pss_cons (ps_if (pt_not (pt_val (pe_cl c_Lsame hr (pa_cons (pe_lst (pa_cons (pe_cl c_row_text hr (pa_cons (pv 5) pa_nil) pass0) (pa_cons (pe_cl c_row_text hr (pa_cons (pe_callTy (call_tupK K) (by rfl) f_tuple (by decide +kernel) (pa_cons (pv 3) pa_nil)) pa_nil) pass0) (pa_cons (pe_cl c_letters_in hr (pa_cons (pv 3) pa_nil) pass0) pa_nil)))) (pa_cons (pe_lst (pa_cons (pv 4) (pa_cons (pv 4) (pa_cons (pe_callB (call_lenK K) (by rfl) f_len PySem.boot_len (pa_cons (pe_joinK K pe_str (pv 3)) pa_nil)) pa_nil)))) pa_nil)) pass0))) (pss_one (ps_ret pe_bl)) pss_nil)
      (pss_cons (ps_set (i := 6) sc_law.nd rfl (by first | exact Or.inl rfl | exact Or.inr rfl) (pv 4))
      (pss_cons (ps_for PassesOwn.never rfl (pi_range1 (by rfl) f_range (pa_cons (pe_cl c_Lpull hr (pa_cons (pv 1) (pa_cons pe_int pa_nil)) pass0) pa_nil)) (pg_name (i := 7) sc_law.nd rfl (by first | exact Or.inl rfl | exact Or.inr rfl)) (pss_cons (ps_set (i := 10) sc_law.nd rfl (by first | exact Or.inl rfl | exact Or.inr rfl) (pe_cl c_Lpull hr (pa_cons (pv 1) (pa_cons (pe_op (op_addK K) (pe_callB (call_lenK K) (by rfl) f_len PySem.boot_len (pa_cons (pv 6) pa_nil)) pe_int) pa_nil)) pass0))
      (pss_cons (ps_set (i := 11) sc_law.nd rfl (by first | exact Or.inl rfl | exact Or.inr rfl) (pe_cl c_Lone hr (pa_cons (pv 1) (pa_cons (pe_lst (pa_cons pe_str (pa_cons pe_str (pa_cons pe_str (pa_cons pe_str (pa_cons pe_str (pa_cons pe_str (pa_cons pe_str pa_nil)))))))) pa_nil)) pass0))
      (pss_one (ps_set (i := 6) sc_law.nd rfl (by first | exact Or.inl rfl | exact Or.inr rfl) (pe_op (op_addK K) (pe_op (op_addK K) (pe_slice (sl_k K) (pv 6) po_none (po_some (pv 10))) (pv 11)) (pe_slice (sl_k K) (pv 6) (po_some (pe_op (op_addK K) (pv 10) (pe_cl c_Lpull hr (pa_cons (pv 1) (pa_cons pe_int pa_nil)) pass0))) po_none)))))))
      (pss_cons (ps_set (i := 8) sc_law.nd rfl (by first | exact Or.inl rfl | exact Or.inr rfl) (pe_cl c_Lread hr (pa_cons (pv 6) pa_nil) pass0))
      (pss_cons (ps_set (i := 9) sc_law.nd rfl (by first | exact Or.inl rfl | exact Or.inr rfl) pe_non)
      (Evl.pss_cut (ps_try_as (i := 12) (Wout := fun _ _ _ _ => False) rfl rfl sc_law.nd rfl rfl ⟨by rfl, by decide, Or.inl c_BadText.gC⟩ takes0
      (fun W pn xe tk po => (pss_one (ps_set (i := 9) sc_law.nd rfl (by first | exact Or.inl rfl | exact Or.inr rfl) (pe_clS c_read_row hr (pa_cons (pv 6) pa_nil) (fun σ => passAt tk σ)))))
      (fun a oe cls d pn hz hf => (pss_one (ps_set (i := 9) sc_law.nd rfl (by first | exact Or.inl rfl | exact Or.inr rfl) (pe_xfU K hz hf (pv 12))))))
      (pss_one (ps_if (PW.pt (pw_or (pt_not (pt_val (pe_cl c_Lsame hr (pa_cons (pv 9) (pa_cons (pv 8) pa_nil)) pass0))) (pw_or1 (pt_cmpR (op_neK K hr.units) (pv 5) (pv 3) (nomark _))))) (pss_one (ps_ret pe_bl)) pss_nil))))))))))))
      (pss_one (ps_ret (pe_cmpR (op_eqK K hr.units) (pe_gi c_MOST_ROW) pe_int (nomark _)))))), ?rd⟩)
  case hl =>
    obtain ⟨b, u, rfl, _⟩ := h
    rfl
  case rd =>
    obtain ⟨a, ns, rfl, hS, hn, q⟩ := h
    refine k_start (σ' := [some _, none, none, none, none, none, none, none, none, none, none, none, none, none]) rfl ?_
    walk_at "g"
    refine ⟨a, ns, rfl, hS, hn, fun b H1 hb => ?_⟩
    walk_at "g"
    refine k_nFor walk_range (fun i σ H' => (∃ y2 y3 y4 y5 y6 y7 y8 y9 y10 y11 y13, σ = [some (.ref a), some (.ref b), y2, y3, y4, y5, y6, y7, y8, y9, y10, y11, none, y13]) ∧ BagOk H' b) ⟨⟨_, _, _, _, _, _, _, _, _, _, _, rfl⟩, hb⟩ (fun _ _ _ _ _ => trivial) (fun i x σ Ha Hb hi h hy => ?ht) (fun σ H' h => ?he)
    case he =>
      obtain ⟨⟨y2, y3, y4, y5, y6, y7, y8, y9, y10, y11, y13, rfl⟩, hb'⟩ := h
      walk_at "g"
      rw [decide_eq_true rfl]
      exact q _
    case ht =>
      obtain ⟨⟨y2, y3, y4, y5, y6, y7, y8, y9, y10, y11, y13, rfl⟩, hbA⟩ := h
      obtain ⟨rfl, rfl⟩ := hy
      walk_at "g"
      refine k_pull hbA (by omega) (by omega) (fun m m0 m1 => ?_)
      walk_at "g"
      refine k_nLc walk_range (fun _ _ => trivial) (fun i ws => ∃ zs : List Str, ws = zs.map V.str ∧ zs.length = i ∧ ∀ z ∈ zs, Pl z ∧ z.length ≤ 3) ⟨[], rfl, rfl, fun z hz => absurd hz (List.not_mem_nil)⟩ (fun i ws hi hw => ?hz) (fun i v Hc Hd ws Kp Ks hi sa hws hy2 hKp hKs => ?ht2) (fun p3 H3 ws n3 s3 e3 hws => ?he2)
      case hz =>
        obtain ⟨zs, rfl, hl, _⟩ := hw
        rw [List.length_map]
        omega
      case ht2 =>
        obtain ⟨rfl, rfl⟩ := hy2
        obtain ⟨zs, rfl, hl, hz⟩ := hws
        walk_at "g"
        refine ⟨rfl, ?_⟩
        walk_at "g"
        refine k_pull (hbA.sm sa) (by omega) (by omega) (fun r r0 r1 => ?_)
        walk_at "g"
        refine k_letters (hbA.sm sa) (by omega) (by omega) (fun cs H5 hr hc s5 => hKp _ _ s5 ?_)
        refine ⟨zs ++ [tx cs], by rw [List.map_append]; rfl, by rw [List.length_append, hl]; rfl, fun z hzz => ?_⟩
        rcases List.mem_append.mp hzz with hh | hh
        · exact hz z hh
        · cases List.mem_singleton.mp hh
          exact ⟨rise_pl hr, by rw [len_tx]; omega⟩
      case he2 =>
        obtain ⟨zs, rfl, hl, hz⟩ := hws
        with_reducible refine k_name ?_
        with_reducible refine k_seq ?_
        with_reducible refine k_asg ?_
        have hSz : SqL K H3 p3 (zs.map V.str) := sq_l e3
        have lm : lens zs ≤ 3 * zs.length := lens_le fun z h => (hz z h).2
        have one : (Str.ofString " ").length = 1 := by decide +kernel
        have nil0 : (Str.ofString "").length = 0 := by decide +kernel
        have gz : Good 2 (dStrs zs) := good_strs (fun z h => ⟨(hz z h).1, by have := (hz z h).2; omega⟩) (by omega) 0
        have pr : Pl (rowText zs) := by
          unfold rowText
          split
          · exact pl_B (by decide +kernel)
          · exact pl_join (pl_B (by decide +kernel)) fun z h => (hz z h).1
        have lr : (rowText zs).length ≤ 60 := by
          unfold rowText
          split
          · decide +kernel
          · have := len_join (y := Str.ofString " ") (ws := zs)
            unfold lens at lm
            rw [one] at this
            omega
        refine k_val (.str (rowText zs)) (fun Q' hq => ?_) (fun H4 s4 => ?_)
        · walk_at "g"
          refine k_nLst (by walk_at "sz") (fun p4 H4 n4 s4 e4 => ?_)
          refine k_ne_d (dp_row (sm_l s4 hSz)) (dp_row (ws := []) (sq_l e4)) (gz.shaped (by decide)) (by decide) ?_
          rw [show PyData.eqv (dStrs zs) (dStrs []) = decide (zs = []) from eqv_strs zs []]
          walk_at "g"
          refine k_dec (fun h0 => ?_) (fun h0 => ?_)
          · walk_at "g"
            subst h0
            exact hq _ s4
          · walk_at "g"
            refine k_join (sm_l s4 hSz) ?_ ?_
            · rw [one]
              unfold lens at lm
              omega
            · have hq' := hq _ s4
              unfold rowText at hq'
              rw [if_neg (fun e => h0 (List.length_eq_zero_iff.mp e))] at hq'
              exact hq'
        walk_at "g"
        have hS4 : SqL K H4 p3 (zs.map V.str) := sm_l s4 hSz
        refine k_list_l hS4 (fun p5 H5 n5 s5 e5 => ?_)
        walk_at "g"
        refine ⟨p5, zs, rfl, .inl (sq_l e5), by omega, ?_⟩
        walk_at "g"
        refine k_tup_l (sm_l s5 hS4) (fun p6 H6 n6 s6 e6 => ?_)
        walk_at "g"
        refine ⟨p6, zs, rfl, .inr (sq_t e6), by omega, ?_⟩
        walk_at "g"
        refine ⟨p3, zs, rfl, sm_l (s5.trans s6) hS4, by omega, fun z h => by have := (hz z h).2; omega, fun H7 s7 => ?_⟩
        walk_at "g"
        refine k_nLst (by walk_at "sz") (fun p8 H8 n8 s8 e8 => ?_)
        walk_at "g"
        have hS8 : SqL K H8 p3 (zs.map V.str) := sm_l (((s5.trans s6).trans s7).trans s8) hS4
        refine k_join hS8 (by rw [nil0]; unfold lens at lm; omega) ?_
        walk_at "g"
        have ejn : (Txt.join (Str.ofString "") zs).length = lens zs := len_join_nil zs
        refine k_len_s (by rw [ejn]; omega) ?_
        rw [ejn]
        walk_at "g"
        refine k_nLst (by walk_at "sz") (fun p9 H9 n9 s9 e9 => ?_)
        walk_at "g"
        have gl : ∀ k : Nat, k ≤ 2 ^ 63 → ((k : Nat) : Int).natAbs.log2 < 1920 := fun k h => log_nat h
        have gd : Good 4 (.list [.str (rowText zs), .str (rowText zs), .int (lens zs : Nat)]) := ⟨by show 3 ≤ 50000; decide, fun e he => by
          rcases List.mem_cons.mp he with rfl | he
          · exact ⟨pr, by omega⟩
          rcases List.mem_cons.mp he with rfl | he
          · exact ⟨pr, by omega⟩
          rcases List.mem_cons.mp he with rfl | he
          · exact gl _ (by omega)
          · cases he⟩
        refine ⟨.ref p8, .ref p9, _, rfl, .lst (sm_l s9 (sq_l e8)) (.cons (.str _) (.cons (.str _) (.cons (.int _) .nil))), .lst (sq_l e9) (.cons (.str _) (.cons (.str _) (.cons (.int _) .nil))), gd.fit, fun H10 s10 => ?_⟩
        walk_at "g"
        have sAll := (((((((s3.trans s4).trans s5).trans s6).trans s7).trans s8).trans s9).trans s10)
        have hb10 := hbA.sm sAll
        have hS10 : SqL K H10 p3 (zs.map V.str) := sm_l s10 (sm_l s9 hS8)
        have hh10 : SqL K H10 p5 (zs.map V.str) := sm_l (((((s6.trans s7).trans s8).trans s9).trans s10)) (sq_l e5)
        refine k_pull hb10 (by omega) (by omega) (fun t t0 t1 => ?_)
        walk_at "g"
        refine k_nFor walk_range (fun i σ H' => (∃ y2 y4 y7 y8 y9 y10 y11 y13, ∃ u : Str, σ = [some (.ref a), some (.ref b), y2, some (.ref p3), y4, some (.ref p5), some (.str u), y7, y8, y9, y10, y11, none, y13] ∧ Pl u ∧ u.length ≤ 60 + i) ∧ Same H10 H') ⟨⟨_, _, _, _, _, _, _, _, _, rfl, pr, by omega⟩, Same.refl _⟩ (fun _ _ _ _ _ => trivial) (fun i x σ Ha Hb hi h hy => ?ht3) (fun σ H' h => ?he3)
        case ht3 =>
          obtain ⟨⟨z2, z4, z7, z8, z9, z10, z11, z13, u, rfl, pu, lu⟩, sA⟩ := h
          obtain ⟨rfl, rfl⟩ := hy
          walk_at "g"
          refine k_len_s (by omega) ?_
          walk_at "g"
          refine k_pull (hb10.sm sA) (by omega) (by omega) (fun n n0 n1 => ?_)
          walk_at "g"
          refine k_nLst (by walk_at "sz") (fun p12 H12 n12 s12 e12 => ?_)
          walk_at "g"
          refine ⟨b, .ref p12, rfl, hb10.sm (sA.trans s12), .inl ⟨p12, _, rfl, sq_l e12, by decide, by decide, fun x hx => ?_⟩⟩
          obtain ⟨z, rfl, pz, lz⟩ : ∃ z : Str, x = .str z ∧ Pl z ∧ z.length ≤ 1 := by
            repeat (rcases List.mem_cons.mp hx with rfl | hx; exact ⟨_, rfl, pl_B (by decide +kernel), by decide +kernel⟩)
            cases hx
          walk_at "g"
          refine k_sl_s (by omega) ?_
          have h1 := len_cut_to u n n0
          have h0 := len_cut u none (some n)
          have p1 := pl_cut pu none (some n)
          walk_at "g"
          refine k_add_s (by omega) ?_
          walk_at "g"
          refine k_pull (hb10.sm (sA.trans s12)) (by omega) (by omega) (fun k k0 k1 => ?_)
          walk_at "g"
          refine k_sl_s (by omega) ?_
          have h2 := len_cut_from u (n + k) (by omega)
          have p2 := pl_cut pu (some (n + k)) none
          walk_at "g"
          have h3 := len_app (cutS u none (some n)) z
          refine k_add_s (by omega) ?_
          walk_at "g"
          refine ⟨⟨_, _, _, _, _, _, _, _, _, rfl, pl_app (pl_app p1 pz) p2, ?_⟩, sA.trans s12⟩
          rw [len_app, len_app]
          omega
        case he3 =>
          obtain ⟨⟨z2, z4, z7, z8, z9, z10, z11, z13, u, rfl, pu, lu⟩, sA⟩ := h
          walk_at "g"
          refine lread_of pu (by omega) (fun v2 H13 s13 d13 => ?_)
          walk_at "g"
          with_reducible refine k_cut (fun σ' H' => ∃ y2 y4 y7 y10 y11 y13 v, σ' = [some (.ref a), some (.ref b), y2, some (.ref p3), y4, some (.ref p5), some (.str u), y7, some v2, some v, y10, y11, none, y13] ∧ Same H13 H' ∧ Dp K H' v (outR u)) ?_ (fun σ' H' h => ?_)
          · walk_at "g"
            refine readrow_of pu (by omega) (fun v H14 s14 d14 => ?_) (fun i d H14 ho s14 hd => ?_)
            · walk_at "g"
              exact ⟨_, _, _, _, _, _, _, rfl, s14, d14⟩
            · refine ⟨true, xm, fun _ a0 h0 => ?_, fun q => Bool.noConfusion q⟩
              walk_at "g"
              refine ⟨_, d, _, _, rfl, rfl, c_BadText.O.F, c_BadText.nf, rfl, hd, rfl, ?_⟩
              walk_at "g"
              exact ⟨_, _, _, _, _, _, _, rfl, s14, by rw [ho]; exact .int _⟩
          · obtain ⟨y2, y4, y7, y10, y11, y13, v, rfl, s14, d14⟩ := h
            walk_at "g"
            refine ⟨v, v2, outR u, rfl, d14, dp_sm s14 d13, good_out pu (by omega), fun H15 s15 => ?_⟩
            walk_at "g"
            have sF := ((sA.trans s13).trans s14).trans s15
            refine k_ne_d (dp_row (sm_l sF hh10)) (dp_row (sm_l sF hS10)) (gz.shaped (by decide)) (gz.shaped (by decide)) ?_
            rw [eqv_strs, decide_eq_true rfl]
            walk_at "g"
            exact ⟨⟨_, _, _, _, _, _, _, _, _, _, _, rfl⟩, hb10.sm sF⟩
end
end Lw
set_option Elab.async false
set_option linter.all false
set_option maxRecDepth 100000
set_option maxHeartbeats 0

namespace Lw
open PySem PySem.Spec PyProof.Rows L2 Gk
def dd0 : He.DefD := ⟨("_law_bag", none), "_law_bag", "_law_bag", defArgs s_Lbag, defBody s_Lbag, defScope s_Lbag, [], []⟩
def dd1 : He.DefD := ⟨("_law_pull", none), "_law_pull", "_law_pull", defArgs s_Lpull, defBody s_Lpull, defScope s_Lpull, [], []⟩
def dd2 : He.DefD := ⟨("_law_one", none), "_law_one", "_law_one", defArgs s_Lone, defBody s_Lone, defScope s_Lone, [], []⟩
def dd3 : He.DefD := ⟨("_law_same", none), "_law_same", "_law_same", defArgs s_Lsame, defBody s_Lsame, defScope s_Lsame, [], []⟩
def dd4 : He.DefD := ⟨("_law_letters", none), "_law_letters", "_law_letters", defArgs s_Lletters, defBody s_Lletters, defScope s_Lletters, [], []⟩
def dd5 : He.DefD := ⟨("_law_read", none), "_law_read", "_law_read", defArgs s_Lread, defBody s_Lread, defScope s_Lread, [], []⟩
def dd6 : He.DefD := ⟨("row_text", none), "row_text", "row_text", defArgs s_row_text, defBody s_row_text, defScope s_row_text, [], []⟩
def dd7 : He.DefD := ⟨("read_row", none), "read_row", "read_row", defArgs s_read_row, defBody s_read_row, defScope s_read_row, [], []⟩
def dd8 : He.DefD := ⟨("letters_in", none), "letters_in", "letters_in", defArgs s_letters_in, defBody s_letters_in, defScope s_letters_in, [], []⟩
def dd9 : He.DefD := ⟨("law", none), "law", "law", defArgs s_law, defBody s_law, defScope s_law, [], []⟩
def dd10 : He.DefD := ⟨("BadText", some "__init__"), "__init__", "BadText.__init__", defArgs s_BadText_init, defBody s_BadText_init, defScope s_BadText_init, [], []⟩
def fn : List He.DefD := [dd0, dd1, dd2, dd3, dd4, dd5, dd6, dd7, dd8, dd9, dd10]
def fa : List He.Fa := [.glo "_law_bag", .glo "_law_pull", .glo "_law_one", .glo "_law_same", .glo "_law_letters", .glo "_law_read", .glo "row_text", .glo "read_row", .glo "letters_in", .glo "law", .glo "BadText", .free "len", .free "list", .free "tuple", .free "isinstance", .free "repr", .free "zip", .free "all", .free "range", .free "sorted", .free "enumerate", .free "sum", .int "MOST_ROW" 12, .str "SMALL" "abcdefghijklmnopqrstuvwxyz"]
def fx : List Fx := [.oex "BadText", .field "BadText" "word", .field "BadText" "at", .exm "BadText" "BadText" true]
abbrev R : PySem.W.OpenRow := PySem.W.OpenLaw.row PySem.Challenge.rw_gulprow_k05_rows_written_and_read
abbrev hk : PySem.W.Hook := hookX 6 fa fx fn
def ob (s : PySem.W.SharedT) : AlX := obsXG 6 fa fx fn (HandSHeadRun.getT s)
theorem ob_eq (s : PySem.W.SharedT) : ob s = hk.obs s.abs := obsXG_eq (HandSHeadRun.getT_eq s)
theorem run (w : World) : HandSHeadRun.RunEq R (PySem.W.view R.prog [16]) hk ob 4000 ["GulpError", "BadText", "SMALL", "MOST_ROW", "row_text", "read_row", "letters_in", "_law_bag", "_law_pull", "_law_one", "_law_same", "_law_letters", "_law_read"] w := by
  intro os
  kernel_rfl
theorem facts {P : Program} {w : World} {K : PySem.W.Frag} {h : Heap} {mg : Str → Option Value} {f : Addr} (X : K.In h) (G : h.Ns mainGlobals mg) (hfa : mg ("law" : Str) = some (.ref f)) (c : SaysX fa fx fn K) :
    ∃ fd : FuncData, (∀ (s : Shared) (v : Value), BindsTo s fd ⟨[v], []⟩ [("_law_script", v)]) ∧ ∀ base : Heap, K.In base → base.Ns mainGlobals mg → FnOk P w K mg base CX0 6 f fd ["_law_script"] (spLaw K) := by
  obtain ⟨fd0, F0⟩ := c.def_ 0 (d := dd0) rfl
  obtain ⟨fd1, F1⟩ := c.def_ 1 (d := dd1) rfl
  obtain ⟨fd2, F2⟩ := c.def_ 2 (d := dd2) rfl
  obtain ⟨fd3, F3⟩ := c.def_ 3 (d := dd3) rfl
  obtain ⟨fd4, F4⟩ := c.def_ 4 (d := dd4) rfl
  obtain ⟨fd5, F5⟩ := c.def_ 5 (d := dd5) rfl
  obtain ⟨fd6, F6⟩ := c.def_ 6 (d := dd6) rfl
  obtain ⟨fd7, F7⟩ := c.def_ 7 (d := dd7) rfl
  obtain ⟨fd8, F8⟩ := c.def_ 8 (d := dd8) rfl
  obtain ⟨fd9, F9⟩ := c.def_ 9 (d := dd9) rfl
  obtain ⟨fd10, F10⟩ := c.def_ 10 (d := dd10) rfl
  have g_Lbag := He.glo_ok X G (c.fact 0 (f := .glo "_law_bag") rfl)
  have g_Lpull := He.glo_ok X G (c.fact 1 (f := .glo "_law_pull") rfl)
  have g_Lone := He.glo_ok X G (c.fact 2 (f := .glo "_law_one") rfl)
  have g_Lsame := He.glo_ok X G (c.fact 3 (f := .glo "_law_same") rfl)
  have g_Lletters := He.glo_ok X G (c.fact 4 (f := .glo "_law_letters") rfl)
  have g_Lread := He.glo_ok X G (c.fact 5 (f := .glo "_law_read") rfl)
  have g_row_text := He.glo_ok X G (c.fact 6 (f := .glo "row_text") rfl)
  have g_read_row := He.glo_ok X G (c.fact 7 (f := .glo "read_row") rfl)
  have g_letters_in := He.glo_ok X G (c.fact 8 (f := .glo "letters_in") rfl)
  have g_law := He.glo_ok X G (c.fact 9 (f := .glo "law") rfl)
  have g_BadText := He.glo_ok X G (c.fact 10 (f := .glo "BadText") rfl)
  have f_len := He.free_ok X G (c.fact 11 (f := .free "len") rfl)
  have f_list := He.free_ok X G (c.fact 12 (f := .free "list") rfl)
  have f_tuple := He.free_ok X G (c.fact 13 (f := .free "tuple") rfl)
  have f_isinstance := He.free_ok X G (c.fact 14 (f := .free "isinstance") rfl)
  have f_repr := He.free_ok X G (c.fact 15 (f := .free "repr") rfl)
  have f_zip := He.free_ok X G (c.fact 16 (f := .free "zip") rfl)
  have f_all := He.free_ok X G (c.fact 17 (f := .free "all") rfl)
  have f_range := He.free_ok X G (c.fact 18 (f := .free "range") rfl)
  have f_sorted := He.free_ok X G (c.fact 19 (f := .free "sorted") rfl)
  have f_enumerate := He.free_ok X G (c.fact 20 (f := .free "enumerate") rfl)
  have f_sum := He.free_ok X G (c.fact 21 (f := .free "sum") rfl)
  have c_MOST_ROW := He.int_ok X G (c.fact 22 (f := .int "MOST_ROW" 12) rfl)
  have c_SMALL := He.str_ok X G (c.fact 23 (f := .str "SMALL" "abcdefghijklmnopqrstuvwxyz") rfl)
  have x0 := c.more 0 (f := .oex "BadText") rfl
  have x1 := c.more 1 (f := .field "BadText" "word") rfl
  have x2 := c.more 2 (f := .field "BadText" "at") rfl
  have x3 := c.more 3 (f := .exm "BadText" "BadText" true) rfl
  have e := hfa.symm.trans g_law
  cases e
  have b := FunD.bindsA (ps := ["_law_script"]) F9 fun _ _ _ _ _ _ us hl => match us, hl with | [_], _ => rfl
  refine ⟨fd9, fun s v => b s [v] rfl, fun base Kb Gb => ?_⟩
  have c_BadText := BadText_made (P := P) (w := w) (base := base) F10 g_BadText (oex_ok x0) (of_decide_eq_true x1) (of_decide_eq_true x2)
  have c_Lbag := ok_Lbag (P := P) (w := w) (base := base) F0 g_Lbag f_len f_list
  have c_Lpull := ok_Lpull (P := P) (w := w) (base := base) F1 g_Lpull f_len
  have c_Lone := ok_Lone F2 g_Lone f_len c_Lpull
  have c_Lsame := ok_Lsame (P := P) (w := w) (base := base) F3 g_Lsame f_len f_isinstance f_list f_tuple f_repr f_zip f_all 4
  have c_Lletters := ok_Lletters F4 g_Lletters f_range f_sorted c_Lpull
  have c_Lread := ok_Lread (P := P) (w := w) (base := base) F5 g_Lread f_enumerate f_all
  have c_row_text := ok_row_text (P := P) (w := w) (base := base) F6 g_row_text f_len
  have c_read_row := ok_read_row F7 g_read_row f_enumerate f_all c_SMALL c_BadText
  have c_letters_in := ok_letters_in (P := P) (w := w) (base := base) F8 g_letters_in f_len f_sum
  exact ok_law F9 g_law f_range f_len f_list f_tuple c_MOST_ROW c_Lbag c_Lpull c_Lone c_Lsame c_Lletters c_Lread c_row_text c_letters_in c_read_row c_BadText (of_decide_eq_true x3)
end Lw
open PySem PySem.W PySem.Calls PyProof.Rows
theorem PySem.Challenge.cw_gulprow_k05_rows_written_and_read_holds : PySem.Challenge.rw_gulprow_k05_rows_written_and_read.Holds := by
  w_on; o_law
  refine HandSHeadRun.head_any (r := OpenLaw.row PySem.Challenge.rw_gulprow_k05_rows_written_and_read) (q := view (OpenLaw.row PySem.Challenge.rw_gulprow_k05_rows_written_and_read).prog [16]) (H := Lw.hk) (ob := Lw.ob) (M := 4000) (loose := ["GulpError", "BadText", "SMALL", "MOST_ROW", "row_text", "read_row", "letters_in", "_law_bag", "_law_pull", "_law_one", "_law_same", "_law_letters", "_law_read"]) (d := HandSHeadRun.topDef (OpenLaw.row PySem.Challenge.rw_gulprow_k05_rows_written_and_read).prog 16) (kwd := []) Lw.ob_eq
    (by kernel_rfl) (fun s => by kernel_rfl) Lw.run (by kernel_rfl) (by kernel_rfl) (by kernel_rfl) (by rfl) (by first | assumption | decide +kernel) (by decide +kernel) ⟨rfl, rfl, rfl, rfl, rfl, by decide +kernel⟩ ?hw ?hc
  case hw => w_witness2
  case hc =>
    refine L2.walk_ofE (l := PySem.Challenge.rw_gulprow_k05_rows_written_and_read) (n := 63) (k := 6) (x := "_law_script") (CX := L2.CX0) rfl (by decide) (by kernel_rfl) ⟨rfl, by decide, by decide⟩ ?F (fun _ _ _ _ z => z)
    intro w mg fa h Y G hmg0
    obtain ⟨K, KX, c⟩ := Y
    have hmg : mg ("law" : PySem.Str) = some (.ref fa) := by
      have e : (HandSHeadRun.topDef (OpenLaw.row PySem.Challenge.rw_gulprow_k05_rows_written_and_read).prog 16).name = ("law" : PySem.Str) := by kernel_rfl
      rw [← e]
      exact hmg0
    obtain ⟨fd, hb, hF⟩ := Lw.facts (P := (PySem.Challenge.rw_gulprow_k05_rows_written_and_read).prog) (w := w) KX G hmg c
    exact ⟨K, fd, Lw.spLaw K, KX, hb, fun H a ns hl _ hS => ⟨a, ns, rfl, hS, hl, fun _ => rfl⟩, hF⟩
