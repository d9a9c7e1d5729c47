import PyProof.Rows.All
import Wide.All
import OpenK.AllK
import Wide.FinOn
import HandS.ForMost
import HandS.ForExc
import HandS.CallSlots
import HandS.TryMany
import HandS.Flow
import HandS.IsInst
import HandS.RaiseMore
import HandS.ExcInit
import HandS.Lambda
import HandS.Star
import HandS.Zip
import HandS.Rev
import HandS.RevTup
import HandS.Wide
import HandS.WideMore
import HandS.TupAny
import HandS.TupMul
import HandS.Deep
import HandS.DeepEq
import HandS.Style
import HandS.SortInts
import HandS.ExcField
import HandS.ExcIs
import HandS.EndTab
import HandS.Defaults
import HandS.Words
import HandS.WordsExc
import HandS.Head0
import HandS.Head1
import HandS.Head2
import HandS.HeadEnd
import HandS.HeadHook1
import HandS.HeadHook2
import HandS.HeadHook3
import HandS.HeadHook4
import PyProof.NeKinds
import KE.KExcInit
import PyProof.ExcBaseAll.IndexError
import PyProof.ExcBaseAll.LookupError
import PyProof.ExcBaseAll.OverflowError
import PyProof.ExcBaseAll.ArithmeticError
import PyProof.ExcBaseAll.RuntimeError
import KE.KExcIs
import HandS.Conv
import KE.BitLaws
import PySem.Challenge.RW_wordwide_k03_levels_inverses_and_errors
set_option Elab.async false
set_option linter.all false
set_option maxRecDepth 100000
set_option maxHeartbeats 2000000
/-! A verified interpreter over HandS: deep values, cells for what is changed, one soundness theorem. 1: the domain. -/
namespace WW
open PySem PySem.Spec PyProof.Rows L2
/-- deep values: what is never changed is a tree; a list (dict, object) that is changed is a cell -/
inductive D where
  | non | bl (b : Bool) | int (i : Int) | str (x : Str)
  | tup (xs : List D) | lst (xs : List D) | dic (kvs : List (Key × D)) | lok (xs : List D)
  | ref (r : Nat) | thk | exo (cls : Str) (fld : Option (Str × D))
  deriving Inhabited
inductive Cell where
  | lst (xs : List D)
  deriving Inhabited
structure Exn where
  cls : Str
  fld : Option (Str × D)
abbrev Hh := List Cell
abbrev Lc := List (Option D)
inductive Out (α : Type) where
  | ok (a : α) (h : Hh)
  | exc (e : Exn) (h : Hh)
  | bad
abbrev ME (α : Type) := Lc → Hh → Out α
/-- behind a statement -/
inductive SOut where
  | nx (l : Lc) (h : Hh)
  | rt (v : D) (h : Hh)
  | bk (l : Lc) (h : Hh)
  | ct (l : Lc) (h : Hh)
  | exc (e : Exn) (l : Lc) (h : Hh)
  | bad
abbrev MS := Lc → Hh → SOut
def mRet {α : Type} (a : α) : ME α := fun _ h => .ok a h
def mBad {α : Type} : ME α := fun _ _ => .bad
def mBind {α β : Type} (m : ME α) (f : α → ME β) : ME β := fun l h => match m l h with
  | .ok a h' => f a l h'
  | .exc e h' => .exc e h'
  | .bad => .bad
def mOpt {α : Type} (o : Option α) : ME α := fun _ h => match o with
  | some a => .ok a h
  | none => .bad
/-- a list that is a cell, as it is now -/
def vw (h : Hh) (x : D) : D := match x with
  | .ref r => match h[r]? with
    | some (.lst xs) => .lst xs
    | none => .ref r
  | x => x
mutual
/-- data: no dict, no cell -/
def D.dat : D → Bool
  | .non | .bl _ | .int _ | .str _ => true
  | .tup xs | .lst xs => D.dats xs
  | _ => false
def D.dats : List D → Bool
  | [] => true
  | x :: xs => x.dat && D.dats xs
end
mutual
def D.py : D → PyData
  | .non => .none
  | .bl b => .bool b
  | .int i => .int i
  | .str x => .str x
  | .tup xs => .tuple (D.pys xs)
  | .lst xs => .list (D.pys xs)
  | .dic kvs => .dict (D.pyk kvs)
  | _ => .none
def D.pys : List D → List PyData
  | [] => []
  | x :: xs => x.py :: D.pys xs
def D.pyk : List (Key × D) → List (PyData × PyData)
  | [] => []
  | (.inl i, v) :: r => (.int i, v.py) :: D.pyk r
  | (.inr x, v) :: r => (.str x, v.py) :: D.pyk r
end
def eqD0 (x y : D) : Option Bool :=
  if x.dat && y.dat && SeqAt.shaped x.py && SeqAt.shaped y.py then some (PyData.eqv x.py y.py) else
    match x, y with
    | .tup xs, .tup [] => some xs.isEmpty
    | .lst xs, .lst [] => some xs.isEmpty
    | _, _ => none
def eqD (x y : D) : Option Bool := match x, y with
  | .str a, .str b => some (decide (a = b))
  | x, y => eqD0 x y
def inD (x y : D) : Option Bool := match y with
  | .lst ys => if x.dat && D.dats ys && SeqAt.shaped x.py && SeqAt.shaped (.list (D.pys ys)) then some ((D.pys ys).any fun z => PyData.eqv z x.py) else none
  | .tup ys => if x.dat && D.dats ys && SeqAt.shaped x.py && SeqAt.shaped (.tuple (D.pys ys)) then some ((D.pys ys).any fun z => PyData.eqv z x.py) else none
  | _ => none
def mulOk (i j : Int) : Bool := i.natAbs.log2 + j.natAbs.log2 < 1000000
def binD (op : Operator) (x y : D) : Option D := match op with
  | .Add => match x, y with
    | .int i, .int j => some (.int (i + j))
    | .str i, .str j => if i.length + j.length ≤ sizeLine then some (.str (i ++ j)) else none
    | .tup xs, .tup ys => if xs.length + ys.length ≤ sizeLine then some (.tup (xs ++ ys)) else none
    | .lst xs, .lst ys => if xs.length + ys.length ≤ sizeLine then some (.lst (xs ++ ys)) else none
    | _, _ => none
  | .Sub => match x, y with
    | .int i, .int j => some (.int (i - j))
    | _, _ => none
  | .Mult => match x, y with
    | .int i, .int j => if mulOk i j then some (.int (i * j)) else none
    | .tup xs, .int k => if k = 1 then some (.tup xs) else if k = 0 ∧ xs.isEmpty = false then some (.tup []) else if xs.isEmpty = false ∧ 2 ≤ k ∧ k ≤ 1000 ∧ xs.length ≤ 1000 then some (.tup (List.replicate k.toNat xs).flatten) else none
    | .lst xs, .int k => if -(2 ^ 63) ≤ k ∧ k < 2 ^ 63 ∧ xs.length * k.toNat ≤ sizeLine then some (.lst (List.replicate k.toNat xs).flatten) else none
    | _, _ => none
  | .FloorDiv => match x, y with
    | .int i, .int j => if 0 < j ∧ j.natAbs.log2 < 9000 then some (.int (i / j)) else none
    | _, _ => none
  | .Mod => match x, y with
    | .int i, .int j => if 0 < j then some (.int (i % j)) else none
    | _, _ => none
  | .Pow => match x, y with
    | .int i, .int j => if 0 ≤ j ∧ (Builtin.Int.intBits i : Int) * j ≤ 2 ^ 27 then some (.int (i ^ j.toNat)) else none
    | _, _ => none
  | .LShift => match x, y with
    | .int i, .int j => if 0 ≤ j ∧ (Builtin.Int.intBits i : Int) + j ≤ 2 ^ 27 then some (.int (i * 2 ^ j.toNat)) else none
    | _, _ => none
  | .RShift => match x, y with
    | .int i, .int j => if 0 ≤ j then some (.int (i / 2 ^ j.toNat)) else none
    | _, _ => none
  | .BitAnd => match x, y with
    | .int i, .int j => some (.int (Builtin.bitAnd i j))
    | _, _ => none
  | _ => none
def isNon : D → Bool
  | .non => true
  | _ => false
def cmpD (op : CmpOp) (x y : D) : Option Bool := match op with
  | .Eq => eqD x y
  | .NotEq => (eqD x y).map (!·)
  | .Lt => match x, y with
    | .int i, .int j => some (decide (i < j))
    | _, _ => none
  | .LtE => match x, y with
    | .int i, .int j => some (decide (i ≤ j))
    | _, _ => none
  | .Gt => match x, y with
    | .int i, .int j => some (decide (j < i))
    | _, _ => none
  | .GtE => match x, y with
    | .int i, .int j => some (decide (j ≤ i))
    | _, _ => none
  | .Is => match x, y with
    | x, .non => some (isNon x)
    | .bl a, .bl b => some (decide (a = b))
    | _, _ => none
  | .IsNot => match x, y with
    | x, .non => some (!isNon x)
    | .bl a, .bl b => some (!decide (a = b))
    | _, _ => none
  | .In => inD x y
  | .NotIn => (inD x y).map (!·)
def truD : D → Option Bool
  | .non => some false
  | .bl b => some b
  | .int i => some (i != 0)
  | .str x => if x.length ≤ sizeLine then some (x.length != 0) else none
  | .tup xs | .lst xs => some (!xs.isEmpty)
  | _ => none
/-- the class of a value, by its name -/
def isT (T : Str) (x : D) : Option Bool := match x with
  | .non => some false
  | .bl _ => some (T == ("bool" : Str) || T == ("int" : Str))
  | .int _ => some (T == ("int" : Str))
  | .str _ => some (T == ("str" : Str))
  | .tup _ => some (T == ("tuple" : Str))
  | .lst _ => some (T == ("list" : Str))
  | .dic _ => some (T == ("dict" : Str))
  | _ => none
end WW
set_option autoImplicit false
set_option maxHeartbeats 4000000
/-! 1b: operators that the layer lacks. -/
namespace L2
open PySem PySem.Spec PyProof.Rows
section
variable {X : Cx}
def CPowB (i j : Int) : Prop := 0 ≤ j ∧ (Builtin.Int.intBits i : Int) * j ≤ 2 ^ 27
theorem op_powB : OpR X (binaryOp .Pow) (rI CPowB fun i j => .int (i ^ j.toNat)) := opI fun _ _ _ _ _ _ _ hc q => pow_int hc.1 hc.2 q
def CShlB (i j : Int) : Prop := 0 ≤ j ∧ (Builtin.Int.intBits i : Int) + j ≤ 2 ^ 27
theorem op_shlB : OpR X (binaryOp .LShift) (rI CShlB fun i j => .int (i * 2 ^ j.toNat)) := opI fun _ _ _ _ _ _ _ hc q => lshift_int hc.1 hc.2 q
/-! ### t * 1 -/
theorem tuple_mul1 (l : Addr) (items : Array Value) (n : Nat) (dd : Option Addr) (sl : Array (Option Value)) (u : Tok) :
    Meets (Builtin.«tuple.__mul__» ⟨[.ref l, .int 1 u], []⟩) (fun _ R s => s.heap.get? l = some { cls := .type "tuple", dict := dd, data := .seq items n, slots := sl } ∧ R (.ok (.ret (Value.ref l))) s) :=
  .of_wp fun prog w A R s h => by
    obtain ⟨hp, g, d, tk, os⟩ := s
    obtain ⟨hl, h⟩ := h
    have f1 := AutoSeq1.idx_int
    have c0 : (decide ((1 : Int) < -(2 ^ 63)) || decide ((1 : Int) ≥ 2 ^ 63)) = false := by decide +kernel
    have c1 : (items.isEmpty || (1 : Int) == 1) = true := by simp
    wp_walk using AutoSeq1.wpAny_loadPart' hl
    repeat (first
      | (refine wpAny_ite_false (decide_eq_false (by rw [c0]; exact Bool.false_ne_true)) ?_; wp_walk using AutoSeq1.wpAny_loadPart' hl)
      | (refine wpAny_ite_true (decide_eq_true c1) ?_; wp_walk using AutoSeq1.wpAny_loadPart' hl))
    exact ⟨_, rfl, h⟩
/-! ### t * 0 -/
theorem tuple_mul0 (l : Addr) (items : Array Value) (n : Nat) (dd : Option Addr) (sl : Array (Option Value)) (u : Tok) (hne : items.isEmpty = false) :
    Meets (Builtin.«tuple.__mul__» ⟨[.ref l, .int 0 u], []⟩) (fun _ R s => s.heap.get? l = some { cls := .type "tuple", dict := dd, data := .seq items n, slots := sl } ∧ R (.ok (.ret (Value.ref s.heap.objs.size))) { s with heap := s.heap.push { cls := .type "tuple", data := .seq #[] }, toks := s.toks }) :=
  .of_wp fun prog w A R s h => by
    obtain ⟨hp, g, d, tk, os⟩ := s
    obtain ⟨hl, h⟩ := h
    have f1 := AutoSeq1.idx_int
    have c0 : (decide ((0 : Int) < -(2 ^ 63)) || decide ((0 : Int) ≥ 2 ^ 63)) = false := by decide +kernel
    have c1 : (items.isEmpty || (0 : Int) == 1) = false := by rw [hne]; rfl
    have c2 : (decide ((0 : Int) ≤ 0) || items.isEmpty) = true := by simp
    wp_walk using AutoSeq1.wpAny_loadPart' hl
    repeat (first
      | (refine wpAny_ite_false (decide_eq_false (by rw [c0]; exact Bool.false_ne_true)) ?_; wp_walk using AutoSeq1.wpAny_loadPart' hl)
      | (refine wpAny_ite_false (decide_eq_false (by rw [c1]; exact Bool.false_ne_true)) ?_; wp_walk using AutoSeq1.wpAny_loadPart' hl)
      | (refine wpAny_ite_true (decide_eq_true c2) ?_; wp_walk using AutoSeq1.wpAny_loadPart' hl))
    exact ⟨_, rfl, h⟩
def rRepT1 (K : PySem.W.Frag) : R2 := fun x y H Q => ∃ l xs, x = .ref l ∧ y = .int 1 ∧ SqT K H l xs ∧ Q (.ref l) H
theorem op_repT1 : OpR X (binaryOp .Mult) (rRepT1 X.K) := by
  intro pins s σ H x y v u Q I rx ry h
  obtain ⟨l, xs, rfl, rfl, hT, q⟩ := h
  cases rx
  obtain ⟨t, rfl⟩ := ry
  obtain ⟨its, r, ⟨⟨cls, dd, data, sl⟩, ho, hc, n, hd⟩, hs⟩ := I.tuple hT
  simp only at hc hd
  subst hc hd
  refine wpAny_binaryOp_repeat_ref (T := "tuple") (U := "int") (by decide) ⟨_, ho, rfl⟩ (fun s' => typeIs_int s' 1 t) noFill_tuple_mul F.fills_int_mul F.slot_int_rmul repeat_tuple F.slot_int_index.lookup
    (call_meets F.slot_int_rmul (typeIs_int s 1 t) F.entry_int_rmul (F.args_int_rmul_2 _ _) (int_rmul_tuple 1 t l its.toArray n dd sl)
      ⟨ho, rfl, ⟨_, ho, rfl⟩, call_meets F.slot_tuple_mul ⟨_, ho, rfl⟩ F.entry_tuple_mul (F.args_tuple_mul_2 _ _) (tuple_mul1 l its.toArray n dd sl t) ⟨ho, ?_⟩⟩)
  exact ⟨.ref l, H, I, rfl, q⟩
def rRepT0 (K : PySem.W.Frag) : R2 := fun x y H Q => ∃ l xs, x = .ref l ∧ y = .int 0 ∧ SqT K H l xs ∧ xs ≠ [] ∧ ∀ p, H p = none → Q (.ref p) (upd H p (.tup []))
theorem op_repT0 : OpR X (binaryOp .Mult) (rRepT0 X.K) := by
  intro pins s σ H x y v u Q I rx ry h
  obtain ⟨l, xs, rfl, rfl, hT, hne, q⟩ := h
  cases rx
  obtain ⟨t, rfl⟩ := ry
  obtain ⟨its, r, ⟨⟨cls, dd, data, sl⟩, ho, hc, n, hd⟩, hs⟩ := I.tuple hT
  simp only at hc hd
  subst hc hd
  have hi : its.toArray.isEmpty = false := by
    cases r with
    | nil => exact absurd rfl hne
    | cons _ _ => rfl
  have hn : H s.heap.objs.size = none := I.hok.fresh (Nat.le_refl _)
  refine wpAny_binaryOp_repeat_ref (T := "tuple") (U := "int") (by decide) ⟨_, ho, rfl⟩ (fun s' => typeIs_int s' 0 t) noFill_tuple_mul F.fills_int_mul F.slot_int_rmul repeat_tuple F.slot_int_index.lookup
    (call_meets F.slot_int_rmul (typeIs_int s 0 t) F.entry_int_rmul (F.args_int_rmul_2 _ _) (int_rmul_tuple 0 t l its.toArray n dd sl)
      ⟨ho, rfl, ⟨_, ho, rfl⟩, call_meets F.slot_tuple_mul ⟨_, ho, rfl⟩ F.entry_tuple_mul (F.args_tuple_mul_2 _ _) (tuple_mul0 l its.toArray n dd sl t hi) ⟨ho, ?_⟩⟩)
  refine ⟨.ref s.heap.objs.size, upd H s.heap.objs.size (.tup []), I.laid (t' := s.toks) (fun b u e => Heap.get?_push_of_some _ e) (Nat.le_refl _) ?_, rfl, q _ hn⟩
  exact ⟨Nat.zero_le _, [], .nil, ⟨_, Heap.get?_push_size _ rfl, rfl, _, rfl⟩⟩
/-! ### == (), == [] -/
def rEqT0 (K : PySem.W.Frag) (neg : Bool) : R2 := fun x y H Q => ∃ l b xs, x = .ref l ∧ y = .ref b ∧ SqT K H l xs ∧ SqT K H b [] ∧ Q (.bl (neg != xs.isEmpty)) H
theorem empty_of {xs : List V} {its : List Value} (r : Vals xs its) : (its.toArray.size == 0) = xs.isEmpty := by
  cases r <;> simp
theorem op_eqT0 (hu : X.A.units < cLine) : OpR X (compareOp .Eq) (rEqT0 X.K false) := by
  intro pins s σ H x y v u Q I rx ry h
  obtain ⟨l, b, xs, rfl, rfl, h1, h2, q⟩ := h
  cases rx; cases ry
  obtain ⟨its, r, p, _⟩ := I.tuple h1
  obtain ⟨its2, r2, p2, _⟩ := I.tuple h2
  cases r2
  refine SeqAt.eq_tupleAt (e := fun _ => true) p p2 hu (fun j h1 h2 => absurd h2 (by simp)) ?_
  have e := empty_of r
  have z : ((List.range (min its.toArray.size ([] : List Value).toArray.size)).all (fun _ => true) && its.toArray.size == ([] : List Value).toArray.size) = xs.isEmpty := by
    rw [← e]; simp
  rw [z]
  refine ⟨.bl xs.isEmpty, H, I, rfl, ?_⟩
  simpa using q
theorem op_neT0 (hu : X.A.units < cLine) : OpR X (compareOp .NotEq) (rEqT0 X.K true) := by
  intro pins s σ H x y v u Q I rx ry h
  obtain ⟨l, b, xs, rfl, rfl, h1, h2, q⟩ := h
  cases rx; cases ry
  obtain ⟨its, r, p, _⟩ := I.tuple h1
  obtain ⟨its2, r2, p2, _⟩ := I.tuple h2
  cases r2
  refine SeqAt.RcNeAt.tuples (e := fun _ => true) p p2 hu (fun j h1 h2 => absurd h2 (by simp)) _ _ _ _ ?_
  have e := empty_of r
  have z : (!((List.range (min its.toArray.size ([] : List Value).toArray.size)).all (fun _ => true) && its.toArray.size == ([] : List Value).toArray.size)) = !xs.isEmpty := by
    rw [← e]; simp
  rw [z]
  refine ⟨.bl (!xs.isEmpty), H, I, rfl, ?_⟩
  simpa using q
def rEqL0 (K : PySem.W.Frag) (neg : Bool) : R2 := fun x y H Q => ∃ l b xs, x = .ref l ∧ y = .ref b ∧ SqL K H l xs ∧ SqL K H b [] ∧ Q (.bl (neg != xs.isEmpty)) H
theorem op_eqL0 (hu : X.A.units < cLine) : OpR X (compareOp .Eq) (rEqL0 X.K false) := by
  intro pins s σ H x y v u Q I rx ry h
  obtain ⟨l, b, xs, rfl, rfl, h1, h2, q⟩ := h
  cases rx; cases ry
  obtain ⟨its, r, p, _⟩ := I.list h1
  obtain ⟨its2, r2, p2, _⟩ := I.list h2
  cases r2
  cases r with
  | nil =>
    refine SeqAt.eq_listAt (e := fun _ => true) p.isList p2.isList rfl hu (fun j h1 h2 => absurd h2 (by simp)) ?_
    exact ⟨.bl true, H, I, rfl, by simpa using q⟩
  | cons a t =>
    refine SeqAt.eq_list_lengthsAt p.isList p2.isList (by simp) hu ?_
    exact ⟨.bl false, H, I, rfl, by simpa using q⟩
theorem op_neL0 (hu : X.A.units < cLine) : OpR X (compareOp .NotEq) (rEqL0 X.K true) := by
  intro pins s σ H x y v u Q I rx ry h
  obtain ⟨l, b, xs, rfl, rfl, h1, h2, q⟩ := h
  cases rx; cases ry
  obtain ⟨its, r, p, _⟩ := I.list h1
  obtain ⟨its2, r2, p2, _⟩ := I.list h2
  cases r2
  cases r with
  | nil =>
    refine SeqAt.RcNeAt.lists (e := fun _ => true) p.isList p2.isList rfl hu (fun j h1 h2 => absurd h2 (by simp)) _ _ _ _ ?_
    exact ⟨.bl false, H, I, rfl, by simpa using q⟩
  | cons a t =>
    refine SeqAt.RcNeAt.lists_lengths p.isList p2.isList (by simp) hu _ _ _ _ ?_
    exact ⟨.bl true, H, I, rfl, by simpa using q⟩
/-! ### x in t, t a tuple of data -/
def rInDT (K : PySem.W.Frag) (neg : Bool) : R2 := fun x y H Q => ∃ d ds, Dp K H x d ∧ Dp K H y (.tuple ds) ∧ SeqAt.shaped d = true ∧ SeqAt.shaped (.tuple ds) = true ∧ Q (.bl (neg != ds.any fun z => PyData.eqv z d)) H
theorem op_inDT (hu : X.A.units + 65 < cLine) : OpR X (compareOp .In) (rInDT X.K false) := by
  intro pins s σ H x y v u Q I rx ry h
  obtain ⟨d, ds, hd, he, sd, se, q⟩ := h
  obtain ⟨as, r1⟩ := Dp.reads I d x v hd rx
  obtain ⟨bs, r2⟩ := Dp.reads I (.tuple ds) y u he ry
  exact SeqAt.in_tuple_reads r2 r1 (SeqAt.canLay_of_shaped se) (SeqAt.canLay_of_shaped sd) (room_in_shaped sd hu) ⟨.bl _, H, I, rfl, by simpa using q⟩
theorem op_notInDT (hu : X.A.units + 65 < cLine) : OpR X (compareOp .NotIn) (rInDT X.K true) := by
  intro pins s σ H x y v u Q I rx ry h
  obtain ⟨d, ds, hd, he, sd, se, q⟩ := h
  obtain ⟨as, r1⟩ := Dp.reads I d x v hd rx
  obtain ⟨bs, r2⟩ := Dp.reads I (.tuple ds) y u he ry
  exact SeqAt.notIn_tuple_reads r2 r1 (SeqAt.canLay_of_shaped se) (SeqAt.canLay_of_shaped sd) (room_in_shaped sd hu) ⟨.bl _, H, I, rfl, by simpa using q⟩
end
end L2
set_option maxHeartbeats 2000000
/-! 2: deep values over the abstract heap. -/
namespace WW
open PySem PySem.Spec PyProof.Rows L2
structure Spx where
  thk : Option (Addr × List Addr × Hp)
  exo : Option (Addr × Value × Option Addr × Exn)
abbrev Spx.nil : Spx := ⟨none, none⟩
/-- a tuple of the text's own -/
def KT (K : PySem.W.Frag) (a : Addr) (vs : List V) : Prop :=
  ∃ (o : Obj) (its : Array Value) (n : Nat), K.lookup a = some o ∧ o.cls = .type "tuple" ∧ o.data = .seq its n ∧ its.size ≤ sizeLine ∧ Vals vs its.toList
inductive TupAt (K : PySem.W.Frag) (M : List Addr) (H : Hp) (a : Addr) (vs : List V) : Prop
  | tup : H a = some (.tup vs) → a ∉ M → TupAt K M H a vs
  | wr : KT K a vs → TupAt K M H a vs
theorem TupAt.sqt {K : PySem.W.Frag} {M : List Addr} {H : Hp} {a : Addr} {vs : List V} (t : TupAt K M H a vs) : SqT K H a vs := by
  cases t with
  | tup h _ => exact .inl (.inl h)
  | wr h => exact .inr h
/-- a list that is read alone: the script, or an object of the module -/
def KL (K : PySem.W.Frag) (a : Addr) (xs : List V) : Prop :=
  ∃ (o : Obj) (its : Array Value) (n : Nat), K.lookup a = some o ∧ o.cls = .type "list" ∧ o.dict = none ∧ o.data = .seq its n ∧ its.size ≤ sizeLine ∧ Vals xs its.toList
inductive LokAt (K : PySem.W.Frag) (M : List Addr) (H : Hp) (a : Addr) (vs : List V) : Prop
  | frz {o : Obj} : H a = some (.frz o (.lst vs)) → a ∉ M → LokAt K M H a vs
  | wr : KL K a vs → LokAt K M H a vs
theorem LokAt.sql {K : PySem.W.Frag} {M : List Addr} {H : Hp} {a : Addr} {vs : List V} (t : LokAt K M H a vs) : SqL K H a vs := by
  cases t with
  | frz h _ => exact .inl (.inr ⟨_, h⟩)
  | wr h => exact .inr h
mutual
inductive RD (K : PySem.W.Frag) (Z : Spx) (M : List Addr) (H : Hp) : V → D → Prop
  | non : RD K Z M H .non .non
  | bl (b : Bool) : RD K Z M H (.bl b) (.bl b)
  | int (i : Int) : RD K Z M H (.int i) (.int i)
  | str (x : Str) : RD K Z M H (.str x) (.str x)
  | tup {a : Addr} {vs : List V} {ds : List D} : TupAt K M H a vs → RDs K Z M H vs ds → RD K Z M H (.ref a) (.tup ds)
  | lst {a : Addr} {vs : List V} {ds : List D} : H a = some (.lst vs) → a ∉ M → RDs K Z M H vs ds → RD K Z M H (.ref a) (.lst ds)
  | lok {a : Addr} {vs : List V} {ds : List D} : LokAt K M H a vs → RDs K Z M H vs ds → RD K Z M H (.ref a) (.lok ds)
  | dic {a : Addr} {kvs : List (Key × V)} {kds : List (Key × D)} : H a = some (.dK kvs) → a ∉ M → RDk K Z M H kvs kds → RD K Z M H (.ref a) (.dic kds)
  | ref {a : Addr} {r : Nat} : M[r]? = some a → RD K Z M H (.ref a) (.ref r)
  | thk {a : Addr} {M0 : List Addr} {H0 : Hp} : Z.thk = some (a, M0, H0) → RD K Z M H (.ref a) .thk
  | exo {a : Addr} {cv : Value} {d : Option Addr} {e : Exn} : Z.exo = some (a, cv, d, e) → RD K Z M H (.ref a) (.exo e.cls e.fld)
inductive RDs (K : PySem.W.Frag) (Z : Spx) (M : List Addr) (H : Hp) : List V → List D → Prop
  | nil : RDs K Z M H [] []
  | cons {v : V} {d : D} {vs : List V} {ds : List D} : RD K Z M H v d → RDs K Z M H vs ds → RDs K Z M H (v :: vs) (d :: ds)
inductive RDk (K : PySem.W.Frag) (Z : Spx) (M : List Addr) (H : Hp) : List (Key × V) → List (Key × D) → Prop
  | nil : RDk K Z M H [] []
  | cons {k : Key} {v : V} {d : D} {vs : List (Key × V)} {ds : List (Key × D)} : RD K Z M H v d → RDk K Z M H vs ds → RDk K Z M H ((k, v) :: vs) ((k, d) :: ds)
end
structure Ext (M : List Addr) (H : Hp) (M' : List Addr) (H' : Hp) : Prop where
  pre : ∃ N, M' = M ++ N
  new : ∀ a ∈ M', a ∉ M → ∀ o, H a = some o → ∃ ps, o = .tbl ps
  keep : ∀ a o, H a = some o → a ∉ M → (∀ ps, o ≠ .tbl ps) → H' a = some o
theorem Ext.refl (M : List Addr) (H : Hp) : Ext M H M H := ⟨⟨[], by simp⟩, fun a h n => absurd h n, fun _ _ h _ _ => h⟩
theorem Ext.sub {M M' : List Addr} {H H' : Hp} (e : Ext M H M' H') {a : Addr} (h : a ∈ M) : a ∈ M' := by
  obtain ⟨N, rfl⟩ := e.pre
  exact List.mem_append_left _ h
theorem Ext.out {M M' : List Addr} {H H' : Hp} (e : Ext M H M' H') {a : Addr} {o : HO} (h : H a = some o) (n : a ∉ M) (t : ∀ ps, o ≠ .tbl ps) : a ∉ M' := fun z => by
  obtain ⟨ps, q⟩ := e.new a z n o h
  exact t ps q
theorem Ext.at_ {M M' : List Addr} {H H' : Hp} (e : Ext M H M' H') {r : Nat} {a : Addr} (h : M[r]? = some a) : M'[r]? = some a := by
  obtain ⟨N, rfl⟩ := e.pre
  rw [List.getElem?_append_left]
  · exact h
  · exact (List.getElem?_eq_some_iff.mp h).1
theorem Ext.trans {M M1 M2 : List Addr} {H H1 H2 : Hp} (a : Ext M H M1 H1) (b : Ext M1 H1 M2 H2) : Ext M H M2 H2 := by
  refine ⟨?_, fun x h2 n o e => ?_, fun x o h n t => b.keep x o (a.keep x o h n t) (a.out h n t) t⟩
  · obtain ⟨N, rfl⟩ := a.pre
    obtain ⟨N', rfl⟩ := b.pre
    exact ⟨N ++ N', by simp⟩
  · by_cases h1 : x ∈ M1
    · exact a.new x h1 n o e
    · by_cases t : ∃ ps, o = .tbl ps
      · exact t
      · exact b.new x h2 h1 o (a.keep x o e n fun ps q => t ⟨ps, q⟩)
/-- a pure growth -/
theorem Ext.grow {M : List Addr} {H H' : Hp} (k : ∀ a o, H a = some o → H' a = some o) : Ext M H M H' :=
  ⟨⟨[], by simp⟩, fun a h n => absurd h n, fun a o h _ _ => k a o h⟩
theorem Ext.upd {M : List Addr} {H : Hp} {p : Addr} {o : HO} (h : H p = none) : Ext M H M (upd H p o) :=
  .grow fun a u e => by rw [upd_ne (ne_of_none e h)]; exact e
theorem TupAt.mono {K : PySem.W.Frag} {M M' : List Addr} {H H' : Hp} {a : Addr} {vs : List V} (t : TupAt K M H a vs) (e : Ext M H M' H') : TupAt K M' H' a vs := by
  cases t with
  | tup h n => exact .tup (e.keep a _ h n (fun ps => by intro q; cases q)) (e.out h n (fun ps => by intro q; cases q))
  | wr h => exact .wr h
theorem LokAt.mono {K : PySem.W.Frag} {M M' : List Addr} {H H' : Hp} {a : Addr} {vs : List V} (t : LokAt K M H a vs) (e : Ext M H M' H') : LokAt K M' H' a vs := by
  cases t with
  | frz h n => exact .frz (e.keep a _ h n (fun ps => by intro q; cases q)) (e.out h n (fun ps => by intro q; cases q))
  | wr h => exact .wr h
section
variable {K : PySem.W.Frag} {Z : Spx} {M M' : List Addr} {H H' : Hp}
mutual
theorem RD.mono : ∀ {v : V} {d : D}, RD K Z M H v d → Ext M H M' H' → RD K Z M' H' v d
  | _, _, .non, _ => .non
  | _, _, .bl b, _ => .bl b
  | _, _, .int i, _ => .int i
  | _, _, .str x, _ => .str x
  | _, _, .tup t r, e => .tup (t.mono e) (RDs.mono r e)
  | _, _, .lst h n r, e => .lst (e.keep _ _ h n (fun ps => by intro q; cases q)) (e.out h n (fun ps => by intro q; cases q)) (RDs.mono r e)
  | _, _, .lok h r, e => .lok (h.mono e) (RDs.mono r e)
  | _, _, .dic h n r, e => .dic (e.keep _ _ h n (fun ps => by intro q; cases q)) (e.out h n (fun ps => by intro q; cases q)) (RDk.mono r e)
  | _, _, .ref h, e => .ref (e.at_ h)
  | _, _, .thk h, _ => .thk h
  | _, _, .exo h, _ => .exo h
theorem RDs.mono : ∀ {vs : List V} {ds : List D}, RDs K Z M H vs ds → Ext M H M' H' → RDs K Z M' H' vs ds
  | _, _, .nil, _ => .nil
  | _, _, .cons r t, e => .cons (RD.mono r e) (RDs.mono t e)
theorem RDk.mono : ∀ {vs : List (Key × V)} {ds : List (Key × D)}, RDk K Z M H vs ds → Ext M H M' H' → RDk K Z M' H' vs ds
  | _, _, .nil, _ => .nil
  | _, _, .cons r t, e => .cons (RD.mono r e) (RDk.mono t e)
end
theorem RDs.length : ∀ {vs : List V} {ds : List D}, RDs K Z M H vs ds → vs.length = ds.length
  | _, _, .nil => rfl
  | _, _, .cons _ t => by rw [List.length_cons, List.length_cons, RDs.length t]
theorem RDs.get : ∀ {vs : List V} {ds : List D} {i : Nat} {d : D}, RDs K Z M H vs ds → ds[i]? = some d → ∃ v, vs[i]? = some v ∧ RD K Z M H v d
  | _, _, _, _, .nil, e => by simp at e
  | _, _, 0, _, .cons r _, e => by simp at e; subst e; exact ⟨_, rfl, r⟩
  | _, _, i + 1, _, .cons _ t, e => by
    obtain ⟨v, h1, h2⟩ := RDs.get (i := i) t (by simpa using e)
    exact ⟨v, by simpa using h1, h2⟩
theorem RDs.getV : ∀ {vs : List V} {ds : List D} {i : Nat} {v : V}, RDs K Z M H vs ds → vs[i]? = some v → ∃ d, ds[i]? = some d ∧ RD K Z M H v d
  | _, _, _, _, .nil, e => by simp at e
  | _, _, 0, _, .cons r _, e => by simp at e; subst e; exact ⟨_, rfl, r⟩
  | _, _, i + 1, _, .cons _ t, e => by
    obtain ⟨v, h1, h2⟩ := RDs.getV (i := i) t (by simpa using e)
    exact ⟨v, by simpa using h1, h2⟩
theorem RDs.append : ∀ {vs ws : List V} {ds es : List D}, RDs K Z M H vs ds → RDs K Z M H ws es → RDs K Z M H (vs ++ ws) (ds ++ es)
  | _, _, _, _, .nil, s => s
  | _, _, _, _, .cons r t, s => .cons r (RDs.append t s)
theorem RDs.take : ∀ {vs : List V} {ds : List D} (n : Nat), RDs K Z M H vs ds → RDs K Z M H (vs.take n) (ds.take n)
  | _, _, 0, _ => by simp; exact .nil
  | _, _, _ + 1, .nil => by simp; exact .nil
  | _, _, n + 1, .cons r t => by simp; exact .cons r (RDs.take n t)
theorem RDs.drop : ∀ {vs : List V} {ds : List D} (n : Nat), RDs K Z M H vs ds → RDs K Z M H (vs.drop n) (ds.drop n)
  | _, _, 0, r => by simpa using r
  | _, _, _ + 1, .nil => by simp; exact .nil
  | _, _, n + 1, .cons r t => by simp; exact RDs.drop n t
theorem RDs.set {v : V} {d : D} (r : RD K Z M H v d) : ∀ {vs : List V} {ds : List D} (i : Nat), RDs K Z M H vs ds → RDs K Z M H (vs.set i v) (ds.set i d)
  | _, _, _, .nil => by simp; exact .nil
  | _, _, 0, .cons _ t => by simp; exact .cons r t
  | _, _, i + 1, .cons q t => by simp; exact .cons q (RDs.set r i t)
theorem RDs.reverse : ∀ {vs : List V} {ds : List D}, RDs K Z M H vs ds → RDs K Z M H vs.reverse ds.reverse
  | _, _, .nil => by simp; exact .nil
  | _, _, .cons r t => by simp only [List.reverse_cons]; exact (RDs.reverse t).append (.cons r .nil)
theorem RDs.snoc {vs : List V} {ds : List D} {v : V} {d : D} (t : RDs K Z M H vs ds) (r : RD K Z M H v d) : RDs K Z M H (vs ++ [v]) (ds ++ [d]) := t.append (.cons r .nil)
theorem RDs.rep {vs : List V} {ds : List D} (r : RDs K Z M H vs ds) : ∀ n : Nat, RDs K Z M H (List.replicate n vs).flatten (List.replicate n ds).flatten
  | 0 => .nil
  | n + 1 => by rw [List.replicate_succ, List.replicate_succ, List.flatten_cons, List.flatten_cons]; exact r.append (RDs.rep r n)
theorem RDs.ints : ∀ (ns : List Int), RDs K Z M H (ns.map V.int) (ns.map D.int)
  | [] => .nil
  | n :: ns => .cons (.int n) (RDs.ints ns)
end
/-- an exception of the text's classes (CA: where they stand), its own dict -/
def XOk (CA : Str → Option Addr) (K : PySem.W.Frag) (Z : Spx) (M : List Addr) (H : Hp) (cv : Value) (d : Option Addr) (e : Exn) : Prop :=
  (∃ C, CA e.cls = some C ∧ cv = .ref C) ∧ match e.fld with
    | none => d = none
    | some (f, x) => ∃ dd v, d = some dd ∧ H dd = some (.xd [(f, v)]) ∧ dd ∉ M ∧ RD K Z M H v x
theorem XOk.mono {CA : Str → Option Addr} {K : PySem.W.Frag} {Z : Spx} {M M' : List Addr} {H H' : Hp} {cv : Value} {d : Option Addr} {e : Exn} (x : XOk CA K Z M H cv d e) (q : Ext M H M' H') : XOk CA K Z M' H' cv d e := by
  obtain ⟨c, x⟩ := x
  refine ⟨c, ?_⟩
  cases e' : e.fld with
  | none => rw [e'] at x; exact x
  | some p =>
    obtain ⟨f, y⟩ := p
    rw [e'] at x
    obtain ⟨dd, v, e1, e2, e3, e4⟩ := x
    exact ⟨dd, v, e1, q.keep _ _ e2 e3 (fun ps => by intro z; cases z), q.out e2 e3 (fun ps => by intro z; cases z), e4.mono q⟩
/-- what is fixed through a law: where the classes stand, the tables of code objects -/
structure Gx where
  K : PySem.W.Frag
  mg : Str → Option Value
  CA : Str → Option Addr
  T : List (Addr × Str)
def CellAt (K : PySem.W.Frag) (Z : Spx) (M : List Addr) (H : Hp) (a : Addr) : Cell → Prop
  | .lst ds => ∃ vs, H a = some (.lst vs) ∧ RDs K Z M H vs ds
structure RelH (g : Gx) (Z : Spx) (M : List Addr) (H : Hp) (h : Hh) : Prop where
  len : M.length = h.length
  nd : M.Nodup
  at_ : ∀ (r : Nat) (c : Cell) (a : Addr), h[r]? = some c → M[r]? = some a → CellAt g.K Z M H a c
  tabs : LamX.Tabs g.T H
  tout : ∀ p ∈ g.T, p.1 ∉ M
  exo : ∀ a cv d e, Z.exo = some (a, cv, d, e) → XOk g.CA g.K Z M H cv d e
  tk : ∀ a M0 H0, Z.thk = some (a, M0, H0) → Ext M0 H0 M H
structure RL (K : PySem.W.Frag) (Z : Spx) (M : List Addr) (H : Hp) (σ : L2.St) (l : Lc) : Prop where
  len : σ.length = l.length
  at_ : ∀ (i : Nat) (d : D), l[i]? = some (some d) → ∃ v : V, σ[i]? = some (some v) ∧ RD K Z M H v d
theorem RL.mono {K : PySem.W.Frag} {Z : Spx} {M M' : List Addr} {H H' : Hp} {σ : L2.St} {l : Lc} (r : RL K Z M H σ l) (e : Ext M H M' H') : RL K Z M' H' σ l :=
  ⟨r.len, fun i d h => let ⟨v, h1, h2⟩ := r.at_ i d h; ⟨v, h1, h2.mono e⟩⟩
theorem RL.set {K : PySem.W.Frag} {Z : Spx} {M : List Addr} {H : Hp} {σ : L2.St} {l : Lc} {i : Nat} {v : V} {d : D} (r : RL K Z M H σ l) (h : RD K Z M H v d) : RL K Z M H (σ.set i (some v)) (l.set i (some d)) := by
  refine ⟨by simpa using r.len, fun j e hj => ?_⟩
  by_cases hij : i = j
  · subst hij
    by_cases hl : i < l.length
    · rw [List.getElem?_set_self hl] at hj
      cases hj
      exact ⟨v, by rw [List.getElem?_set_self (by rw [r.len]; exact hl)], h⟩
    · rw [List.getElem?_eq_none (by simpa using hl)] at hj; cases hj
  · rw [List.getElem?_set_ne hij] at hj
    obtain ⟨v', h1, h2⟩ := r.at_ j e hj
    exact ⟨v', by rw [List.getElem?_set_ne hij]; exact h1, h2⟩
theorem RL.clear {K : PySem.W.Frag} {Z : Spx} {M : List Addr} {H : Hp} {σ : L2.St} {l : Lc} {i : Nat} {o : Option V} (r : RL K Z M H σ l) : RL K Z M H (σ.set i o) (l.set i none) := by
  refine ⟨by simpa using r.len, fun j e hj => ?_⟩
  by_cases hij : i = j
  · subst hij
    by_cases hl : i < l.length
    · rw [List.getElem?_set_self hl] at hj
      cases hj
    · rw [List.getElem?_eq_none (by simpa using hl)] at hj; cases hj
  · rw [List.getElem?_set_ne hij] at hj
    obtain ⟨v', h1, h2⟩ := r.at_ j e hj
    exact ⟨v', by rw [List.getElem?_set_ne hij]; exact h1, h2⟩
section
variable {g : Gx} {Z : Spx} {M : List Addr} {H H' : Hp} {h : Hh}
theorem RelH.addr (R : RelH g Z M H h) {r : Nat} {c : Cell} (e : h[r]? = some c) : ∃ a, M[r]? = some a := by
  have hr : r < h.length := (List.getElem?_eq_some_iff.mp e).1
  rw [← R.len] at hr
  exact ⟨M[r], List.getElem?_eq_getElem hr⟩
theorem RelH.grow (R : RelH g Z M H h) (k : ∀ a o, H a = some o → H' a = some o) : RelH g Z M H' h := by
  refine ⟨R.len, R.nd, fun r c a h1 h2 => ?_, R.tabs.ext k, R.tout, fun a cv d e q => (R.exo a cv d e q).mono (.grow k), fun a M0 H0 q => (R.tk a M0 H0 q).trans (.grow k)⟩
  have q := R.at_ r c a h1 h2
  cases c with
  | lst ds =>
    obtain ⟨vs, e, q⟩ := q
    exact ⟨vs, k _ _ e, q.mono (.grow k)⟩
theorem RelH.alloc (R : RelH g Z M H h) {p : Addr} {o : HO} (n : H p = none) : RelH g Z M (upd H p o) h :=
  R.grow fun a u e => by rw [upd_ne (ne_of_none e n)]; exact e
theorem RelH.cell (R : RelH g Z M H h) {r : Nat} {ds : List D} {a : Addr} (e : h[r]? = some (.lst ds)) (m : M[r]? = some a) : ∃ vs, H a = some (.lst vs) ∧ RDs g.K Z M H vs ds := R.at_ r _ a e m
theorem ext_set {a : Addr} {o : HO} (m : a ∈ M) : Ext M H M (upd H a o) :=
  ⟨⟨[], by simp⟩, fun b h n => absurd h n, fun b u e n _ => by rw [upd_ne (show b ≠ a from fun z => n (z ▸ m))]; exact e⟩
theorem tabs_set (t : LamX.Tabs g.T H) {a : Addr} {vs ws : List V} (e : H a = some (.lst vs)) : LamX.Tabs g.T (upd H a (.lst ws)) := fun p hp => by
  obtain ⟨ps, h1, h2, h3⟩ := t p hp
  refine ⟨ps, ?_, h2, fun pos cv hc => ?_⟩
  · rw [upd_ne (ne_of h1 e (by intro z; cases z))]; exact h1
  · obtain ⟨c, e1, e2⟩ := h3 pos cv hc
    refine ⟨c, e1, ?_⟩
    rw [upd_ne (ne_of e2 e (by intro z; unfold LamX.CodeO at z; cases z))]; exact e2
/-- a cell is changed -/
theorem RelH.set (R : RelH g Z M H h) {r : Nat} {ds ds' : List D} {a : Addr} {vs' : List V} (e : h[r]? = some (.lst ds)) (m : M[r]? = some a) (q : RDs g.K Z M H vs' ds') :
    RelH g Z M (upd H a (.lst vs')) (h.set r (.lst ds')) := by
  obtain ⟨vs, e1, q1⟩ := R.cell e m
  have hm : a ∈ M := List.mem_of_getElem? m
  have hx : Ext M H M (upd H a (.lst vs')) := ext_set hm
  refine ⟨by simpa using R.len, R.nd, fun s c b h1 h2 => ?_, tabs_set R.tabs e1, R.tout, fun b cv d x z => (R.exo b cv d x z).mono hx, fun a M0 H0 q => (R.tk a M0 H0 q).trans hx⟩
  by_cases hs : r = s
  · subst hs
    rw [m] at h2; cases h2
    rw [List.getElem?_set_self (List.getElem?_eq_some_iff.mp e).1] at h1
    cases h1
    exact ⟨vs', upd_same, q.mono hx⟩
  · rw [List.getElem?_set_ne hs] at h1
    have ne : b ≠ a := fun z => hs (by
      subst z
      exact (List.getElem?_inj (List.getElem?_eq_some_iff.mp m).1 R.nd).mp (m.trans h2.symm))
    have z := R.at_ s c b h1 h2
    cases c with
    | lst es =>
      obtain ⟨ws, w1, w2⟩ := z
      exact ⟨ws, by rw [upd_ne ne]; exact w1, w2.mono hx⟩
theorem ext_push {a : Addr} {o : HO} (n : H a = none) : Ext M H (M ++ [a]) (upd H a o) := by
  refine ⟨⟨[a], rfl⟩, fun b hb nb o e => ?_, fun b u e _ _ => by rw [upd_ne (ne_of_none e n)]; exact e⟩
  rcases List.mem_append.mp hb with z | z
  · exact absurd z nb
  · rw [List.mem_singleton.mp z, n] at e; cases e
/-- a new cell -/
theorem RelH.push (R : RelH g Z M H h) {a : Addr} {vs : List V} {ds : List D} (n : H a = none) (q : RDs g.K Z M H vs ds) (fr : a ∉ M) :
    RelH g Z (M ++ [a]) (upd H a (.lst vs)) (h ++ [.lst ds]) := by
  have hx : Ext M H (M ++ [a]) (upd H a (.lst vs)) := ext_push n
  refine ⟨by simp [R.len], ?_, fun r c b h1 h2 => ?_, R.tabs.ext (fun b u e => by rw [upd_ne (ne_of_none e n)]; exact e), fun p hp z => ?_, fun b cv d x z => (R.exo b cv d x z).mono hx, fun a M0 H0 q => (R.tk a M0 H0 q).trans hx⟩
  · rw [List.nodup_append]
    refine ⟨R.nd, by simp, fun x hx y hy => ?_⟩
    rw [List.mem_singleton.mp hy]
    exact fun z => fr (z ▸ hx)
  · by_cases hr : r < h.length
    · rw [List.getElem?_append_left hr] at h1
      rw [List.getElem?_append_left (by rw [R.len]; exact hr)] at h2
      have z := R.at_ r c b h1 h2
      cases c with
      | lst es =>
        obtain ⟨ws, w1, w2⟩ := z
        exact ⟨ws, by rw [upd_ne (ne_of_none w1 n)]; exact w1, w2.mono hx⟩
    · rw [List.getElem?_append_right (by omega)] at h1
      rw [List.getElem?_append_right (by rw [R.len]; omega), R.len] at h2
      have h0 : r - h.length = 0 := by
        cases z : r - h.length with
        | zero => rfl
        | succ m => rw [z] at h1; simp at h1
      rw [h0] at h1 h2
      simp at h1 h2
      subst h1; subst h2
      exact ⟨vs, upd_same, q.mono hx⟩
  · rcases List.mem_append.mp z with z | z
    · exact R.tout p hp z
    · have e := List.mem_singleton.mp z
      obtain ⟨ps, h1, _⟩ := R.tabs p hp
      rw [e, n] at h1; cases h1
theorem RelH.fresh (R : RelH g Z M H h) {a : Addr} (n : H a = none) : a ∉ M := fun hm => by
  obtain ⟨r, hr, e⟩ := List.mem_iff_getElem.mp hm
  have hr' : r < h.length := by rw [← R.len]; exact hr
  have z := R.at_ r h[r] a (List.getElem?_eq_getElem hr') (by rw [List.getElem?_eq_getElem hr, e])
  cases q : h[r] with
  | lst ds =>
    rw [q] at z
    obtain ⟨vs, z, _⟩ := z
    rw [n] at z; cases z
end
end WW
/-! 3: the judgements over deep values. -/
namespace WW
open PySem PySem.Spec PyProof.Rows L2
/-- where one stands -/
structure Cs where
  N : List Str
  sc : Scope
  calm : Bool
  Z : Spx
  W : WX
structure CxOk (g : Gx) (X : Cx) (c : Cs) (k : Nat) : Prop where
  hK : X.K = g.K
  hmg : X.mg = g.mg
  hN : X.N = c.N
  nd : c.N.Nodup
  hsc : X.env.scope = c.sc
  hcalm : X.calm = c.calm
  room : c.calm = true → Room k X.A
  units : X.A.units + 80 < cLine
  gd : X.A.guards = some []
  sys : ∃ o, X.base.get? sysModules = some o
  tk : Takes X c.W
  own : PassesOwn (model X.prog X.w) X.A X.env X.xe
  nex : c.calm = true → c.Z.exo = none
  pinE : ∀ a cv d e, c.Z.exo = some (a, cv, d, e) → ∃ oe, (a, oe) ∈ X.pn ∧ Zc cv d oe ∧ ∃ vs, oe.data = .fields vs
/-- a relation of results: of the abstract heap's side β, of the deep side α -/
abbrev RR (β α : Type) := List Addr → Hp → β → α → Prop
def Post (g : Gx) (Z : Spx) (W : WX) {β α : Type} (R : RR β α) (M : List Addr) (H : Hp) (σ : L2.St) (o : Out α) (Q : β → Hp → Prop) : Prop := match o with
  | .ok d h' => ∀ M' H' v, Ext M H M' H' → RelH g Z M' H' h' → R M' H' v d → Q v H'
  | .exc e h' => ∀ M' H' cv d, Ext M H M' H' → RelH g Z M' H' h' → XOk g.CA g.K Z M' H' cv d e → W cv d σ H'
  | .bad => False
def rd (g : Gx) (c : Cs) {β α : Type} (R : RR β α) (m : ME α) : L2.St → Hp → (β → Hp → Prop) → Prop := fun σ H Q =>
  ∃ M l h, RelH g c.Z M H h ∧ RL g.K c.Z M H σ l ∧ Post g c.Z c.W R M H σ (m l h) Q
abbrev rD (g : Gx) (c : Cs) : RR V D := fun M H v d => RD g.K c.Z M H v d
abbrev rDs (g : Gx) (c : Cs) : RR (List V) (List D) := fun M H v d => RDs g.K c.Z M H v d
abbrev rB : RR Bool Bool := fun _ _ a b => a = b
abbrev QE (g : Gx) (X : Cx) (c : Cs) (m : ME D) (e : Expr) : Prop := PE X e (rd g c (rD g c) m)
abbrev QA (g : Gx) (X : Cx) (c : Cs) (m : ME (List D)) (es : List Expr) : Prop := PA X es (rd g c (rDs g c) m)
abbrev QT (g : Gx) (X : Cx) (c : Cs) (m : ME Bool) (e : Expr) : Prop := PT X e (rd g c rB m)
abbrev QW (g : Gx) (X : Cx) (c : Cs) (m : ME Bool) (e : Expr) : Prop := PW X e (rd g c rB m)
theorem PE.imp {X : Cx} {e : Expr} {t t' : TE} (h : PE X e t) (w : ∀ σ H Q, t' σ H Q → t σ H Q) : PE X e t' := ⟨fun p s σ H Q I q => h.run p s σ H Q I (w σ H Q q)⟩
theorem PA.imp {X : Cx} {e : List Expr} {t t' : TA} (h : PA X e t) (w : ∀ σ H Q, t' σ H Q → t σ H Q) : PA X e t' := ⟨fun p q s σ H Q I z => h.run p q s σ H Q I (w σ H Q z)⟩
theorem PT.imp {X : Cx} {e : Expr} {t t' : TT} (h : PT X e t) (w : ∀ σ H Q, t' σ H Q → t σ H Q) : PT X e t' := ⟨fun p s σ H Q I q => h.run p s σ H Q I (w σ H Q q)⟩
theorem PW.imp {X : Cx} {e : Expr} {t t' : TT} (h : PW X e t) (w : ∀ σ H Q, t' σ H Q → t σ H Q) : PW X e t' := ⟨fun wh p s σ H Q I q => h.run wh p s σ H Q I (w σ H Q q)⟩
theorem PS.imp {X : Cx} {e : Stmt} {t t' : TS} (h : PS X e t) (w : ∀ D σ H, t' D σ H → t D σ H) : PS X e t' := ⟨fun p s σ H D I q => h.run p s σ H D I (w D σ H q)⟩
theorem PSs.imp {X : Cx} {e : List Stmt} {t t' : TS} (h : PSs X e t) (w : ∀ D σ H, t' D σ H → t D σ H) : PSs X e t' := ⟨fun p s σ H D I q => h.run p s σ H D I (w D σ H q)⟩
section
variable {g : Gx} {c : Cs} {β γ α δ : Type} {R : RR β α} {R' : RR γ δ} {M : List Addr} {H : Hp} {σ : L2.St} {l : Lc} {h : Hh} {Z : Spx} {W : WX}
theorem Post.mono {M1 : List Addr} {H1 : Hp} {o : Out α} {Q : β → Hp → Prop} (p : Post g Z W R M H σ o Q) (e : Ext M H M1 H1) : Post g Z W R M1 H1 σ o Q := by
  cases o with
  | ok d h' => exact fun M' H' v x r q => p M' H' v (e.trans x) r q
  | exc e' h' => exact fun M' H' cv d x r q => p M' H' cv d (e.trans x) r q
  | bad => exact p
theorem Post.imp {o : Out α} {Q Q' : β → Hp → Prop} (p : Post g Z W R M H σ o Q) (k : ∀ v H, Q v H → Q' v H) : Post g Z W R M H σ o Q' := by
  cases o with
  | ok d h' => exact fun M' H' v x r q => k _ _ (p M' H' v x r q)
  | exc e' h' => exact p
  | bad => exact p
/-- one after another -/
theorem rd_bind {m : ME α} {f : α → ME δ} {Q : γ → Hp → Prop} {Q1 : β → Hp → Prop} (hR : RelH g c.Z M H h) (hL : RL g.K c.Z M H σ l) (p : Post g c.Z c.W R' M H σ (mBind m f l h) Q)
    (k : ∀ M1 H1 h1 x a, Ext M H M1 H1 → RelH g c.Z M1 H1 h1 → RL g.K c.Z M1 H1 σ l → R M1 H1 x a → Post g c.Z c.W R' M1 H1 σ (f a l h1) Q → Q1 x H1) : rd g c R m σ H Q1 := by
  refine ⟨M, l, h, hR, hL, ?_⟩
  unfold mBind at p
  cases e : m l h with
  | ok d h' =>
    rw [e] at p
    exact fun M1 H1 v x r q => k M1 H1 h' v d x r (hL.mono x) q (p.mono x)
  | exc e' h' =>
    rw [e] at p
    exact p
  | bad =>
    rw [e] at p
    exact p
theorem Post.ok {d : α} {Q : β → Hp → Prop} {v : β} (p : Post g Z W R M H σ (.ok d h) Q) (hR : RelH g Z M H h) (q : R M H v d) : Q v H := p M H v (Ext.refl M H) hR q
theorem Post.okx {d : α} {Q : β → Hp → Prop} {v : β} {M1 : List Addr} {H1 : Hp} (p : Post g Z W R M H σ (.ok d h) Q) (e : Ext M H M1 H1) (hR : RelH g Z M1 H1 h) (q : R M1 H1 v d) : Q v H1 := p M1 H1 v e hR q
end
/-! ### lists as they are now -/
inductive RW (K : PySem.W.Frag) (Z : Spx) (M : List Addr) (H : Hp) : V → D → Prop
  | rd {v : V} {d : D} : RD K Z M H v d → RW K Z M H v d
  | cell {a : Addr} {vs : List V} {ds : List D} : H a = some (.lst vs) → RDs K Z M H vs ds → RW K Z M H (.ref a) (.lst ds)
theorem RW.of {g : Gx} {Z : Spx} {M : List Addr} {H : Hp} {h : Hh} {v : V} {d : D} (R : RelH g Z M H h) (r : RD g.K Z M H v d) : RW g.K Z M H v (vw h d) := by
  cases d with
  | ref n =>
    cases e : h[n]? with
    | none =>
      have q : vw h (.ref n) = .ref n := by simp only [vw, e]
      rw [q]; exact .rd r
    | some c =>
      cases c with
      | lst ds =>
        have q : vw h (.ref n) = .lst ds := by simp only [vw, e]
        rw [q]
        cases r with
        | ref m =>
          obtain ⟨vs, h1, h2⟩ := R.cell e m
          exact .cell h1 h2
  | _ => exact .rd r
/-- what is seen as a list -/
theorem RW.lst {K : PySem.W.Frag} {Z : Spx} {M : List Addr} {H : Hp} {v : V} {ds : List D} (r : RW K Z M H v (.lst ds)) : ∃ a vs, v = .ref a ∧ H a = some (.lst vs) ∧ RDs K Z M H vs ds := by
  cases r with
  | rd r =>
    cases r with
    | lst h n q => exact ⟨_, _, rfl, h, q⟩
  | cell h q => exact ⟨_, _, rfl, h, q⟩
theorem RW.tup {K : PySem.W.Frag} {Z : Spx} {M : List Addr} {H : Hp} {v : V} {ds : List D} (r : RW K Z M H v (.tup ds)) : ∃ a vs, v = .ref a ∧ TupAt K M H a vs ∧ RDs K Z M H vs ds := by
  cases r with
  | rd r =>
    cases r with
    | tup h q => exact ⟨_, _, rfl, h, q⟩
theorem RW.int {K : PySem.W.Frag} {Z : Spx} {M : List Addr} {H : Hp} {v : V} {i : Int} (r : RW K Z M H v (.int i)) : v = .int i := by
  cases r with
  | rd r => cases r; rfl
theorem RW.str {K : PySem.W.Frag} {Z : Spx} {M : List Addr} {H : Hp} {v : V} {i : Str} (r : RW K Z M H v (.str i)) : v = .str i := by
  cases r with
  | rd r => cases r; rfl
theorem RW.bl {K : PySem.W.Frag} {Z : Spx} {M : List Addr} {H : Hp} {v : V} {i : Bool} (r : RW K Z M H v (.bl i)) : v = .bl i := by
  cases r with
  | rd r => cases r; rfl
theorem RW.non {K : PySem.W.Frag} {Z : Spx} {M : List Addr} {H : Hp} {v : V} (r : RW K Z M H v .non) : v = .non := by
  cases r with
  | rd r => cases r; rfl
theorem RW.isNon {K : PySem.W.Frag} {Z : Spx} {M : List Addr} {H : Hp} {v : V} {d : D} (r : RW K Z M H v d) : decide (v = .non) = isNon d := by
  cases r with
  | rd r => cases r <;> rfl
  | cell h q => rfl
theorem RW.mono {K : PySem.W.Frag} {Z : Spx} {M M' : List Addr} {H H' : Hp} {v : V} {d : D} (r : RD K Z M H v d) (e : Ext M H M' H') : RW K Z M' H' v d := .rd (r.mono e)
section
variable {K : PySem.W.Frag} {Z : Spx} {M : List Addr} {H : Hp}
mutual
theorem RD.dp : ∀ {v : V} {d : D}, RD K Z M H v d → d.dat = true → Dp K H v d.py
  | _, _, .non, _ => by unfold D.py; exact .non
  | _, _, .bl b, _ => by unfold D.py; exact .bl b
  | _, _, .int i, _ => by unfold D.py; exact .int i
  | _, _, .str x, _ => by unfold D.py; exact .str x
  | _, _, .tup t r, h => by
    unfold D.py
    exact .tup t.sqt (RDs.dp r (by unfold D.dat at h; exact h))
  | _, _, .lst t n r, h => by
    unfold D.py
    exact .lst (.inl (.inl t)) (RDs.dp r (by unfold D.dat at h; exact h))
  | _, _, .lok _ _, h => by unfold D.dat at h; cases h
  | _, _, .dic _ _ _, h => by unfold D.dat at h; cases h
  | _, _, .ref _, h => by unfold D.dat at h; cases h
  | _, _, .thk _, h => by unfold D.dat at h; cases h
  | _, _, .exo _, h => by unfold D.dat at h; cases h
theorem RDs.dp : ∀ {vs : List V} {ds : List D}, RDs K Z M H vs ds → D.dats ds = true → DpAll K H vs (D.pys ds)
  | _, _, .nil, _ => by unfold D.pys; exact .nil
  | _, _, .cons r t, h => by
    unfold D.dats at h
    unfold D.pys
    obtain ⟨h1, h2⟩ := Bool.and_eq_true_iff.mp h
    exact .cons (RD.dp r h1) (RDs.dp t h2)
end
theorem RW.dp {v : V} {d : D} (r : RW K Z M H v d) (h : d.dat = true) : Dp K H v d.py := by
  cases r with
  | rd r => exact r.dp h
  | cell e q =>
    unfold D.py
    exact .lst (.inl (.inl e)) (q.dp (by unfold D.dat at h; exact h))
end
/-! ### operators -/
/-- what an operator's rule is asked: its deep value d -/
def r2 (g : Gx) (Z : Spx) (f : D → D → Option D) : R2 := fun x y H Q => ∃ M h a b d, RelH g Z M H h ∧ RW g.K Z M H x a ∧ RW g.K Z M H y b ∧ f a b = some d ∧
  ∀ M' H' v, Ext M H M' H' → RelH g Z M' H' h → RD g.K Z M' H' v d → Q v H'
theorem OpR.imp {X : Cx} {f : Value → Value → Sem Value} {r r' : R2} (h : OpR X f r) (w : ∀ x y H Q, r' x y H Q → r x y H Q) : OpR X f r' := fun p s σ H x y v u Q I a b q => h p s σ H x y v u Q I a b (w x y H Q q)
theorem OpR.cases {X : Cx} {f : Value → Value → Sem Value} {r : R2} (h : ∀ x y H Q, r x y H Q → ∃ r', OpR X f r' ∧ r' x y H Q) : OpR X f r := fun p s σ H x y v u Q I a b q => by
  obtain ⟨r', o, q'⟩ := h x y H Q q
  exact o p s σ H x y v u Q I a b q'
theorem ite_some {α : Type} {p : Prop} [Decidable p] {a d : α} (h : (if p then some a else none) = some d) : p ∧ a = d := by
  by_cases hp : p
  · rw [if_pos hp] at h; exact ⟨hp, Option.some.inj h⟩
  · rw [if_neg hp] at h; cases h
section
variable {g : Gx} {X : Cx} {Z : Spx}
theorem opr_bin (hK : X.K = g.K) (hu : X.A.units + 80 < cLine) (op : Operator) : OpR X (binaryOp op) (r2 g Z (binD op)) := by
  refine OpR.cases fun x y H Q q => ?_
  obtain ⟨M, h, a, b, d, R, ra, rb, e, k⟩ := q
  unfold binD at e
  cases op with
  | Add =>
    dsimp only at e
    split at e
    · cases e; obtain rfl := ra.int; obtain rfl := rb.int
      exact ⟨_, op_add, _, _, rfl, rfl, k M H _ (Ext.refl _ _) R (.int _)⟩
    · obtain ⟨hl, rfl⟩ := ite_some e
      obtain rfl := ra.str; obtain rfl := rb.str
      exact ⟨_, op_add_str, _, _, rfl, rfl, hl, k M H _ (Ext.refl _ _) R (.str _)⟩
    · rename_i xs ys
      obtain ⟨hl, rfl⟩ := ite_some e
      obtain ⟨p, vs, rfl, tp, rp⟩ := ra.tup
      obtain ⟨p', vs', rfl, tp', rp'⟩ := rb.tup
      refine ⟨_, op_catA, p, p', vs, vs', rfl, rfl, by rw [hK]; exact tp.sqt, by rw [hK]; exact tp'.sqt, by rw [rp.length, rp'.length]; exact hl, fun z => ?_, fun _ z => ?_, fun _ _ q hq => ?_⟩
      · subst z; cases rp
        exact k M H _ (Ext.refl _ _) R (.tup tp' rp')
      · subst z; cases rp'
        rw [List.append_nil] at k
        exact k M H _ (Ext.refl _ _) R (.tup tp rp)
      · exact k M _ _ (Ext.upd hq) (R.alloc hq) (.tup (.tup upd_same (R.fresh hq)) ((rp.append rp').mono (Ext.upd hq)))
    · rename_i xs ys
      obtain ⟨hl, rfl⟩ := ite_some e
      obtain ⟨p, vs, rfl, tp, rp⟩ := ra.lst
      obtain ⟨p', vs', rfl, tp', rp'⟩ := rb.lst
      refine ⟨_, op_cat, p, p', vs, vs', rfl, rfl, tp, tp', by rw [rp.length, rp'.length]; exact hl, fun q hq => ?_⟩
      exact k M _ _ (Ext.upd hq) (R.alloc hq) (.lst upd_same (R.fresh hq) ((rp.append rp').mono (Ext.upd hq)))
    · cases e
  | Sub =>
    dsimp only at e
    split at e
    · cases e; obtain rfl := ra.int; obtain rfl := rb.int
      exact ⟨_, op_sub, _, _, rfl, rfl, k M H _ (Ext.refl _ _) R (.int _)⟩
    · cases e
  | Mult =>
    dsimp only at e
    split at e
    · obtain ⟨hl, rfl⟩ := ite_some e
      obtain rfl := ra.int; obtain rfl := rb.int
      exact ⟨_, op_mulW, _, _, rfl, rfl, by unfold mulOk at hl; unfold CMulW; simpa using hl, k M H _ (Ext.refl _ _) R (.int _)⟩
    · rename_i xs kk
      obtain rfl := rb.int
      obtain ⟨p, vs, rfl, tp, rp⟩ := ra.tup
      by_cases h1 : kk = 1
      · rw [if_pos h1] at e
        cases e
        subst h1
        exact ⟨_, op_repT1, p, vs, rfl, rfl, by rw [hK]; exact tp.sqt, k M H _ (Ext.refl _ _) R (.tup tp rp)⟩
      · rw [if_neg h1] at e
        by_cases h0 : kk = 0 ∧ xs.isEmpty = false
        · rw [if_pos h0] at e
          cases e
          obtain ⟨rfl, h0⟩ := h0
          exact ⟨_, op_repT0, p, vs, rfl, rfl, by rw [hK]; exact tp.sqt, fun z => (by subst z; cases rp; cases h0), fun q hq => k M _ _ (Ext.upd hq) (R.alloc hq) (.tup (.tup upd_same (R.fresh hq)) .nil)⟩
        rw [if_neg h0] at e
        obtain ⟨hl, rfl⟩ := ite_some e
        refine ⟨_, op_repT, p, kk, vs, rfl, rfl, by rw [hK]; exact tp.sqt, fun z => ?_, hl.2.1, hl.2.2.1, by rw [rp.length]; exact hl.2.2.2, fun q hq => ?_⟩
        · subst z; cases rp; exact absurd hl.1 (by simp)
        · exact k M _ _ (Ext.upd hq) (R.alloc hq) (.tup (.tup upd_same (R.fresh hq)) ((rp.rep _).mono (Ext.upd hq)))
    · rename_i xs kk
      obtain ⟨hl, rfl⟩ := ite_some e
      obtain rfl := rb.int
      obtain ⟨p, vs, rfl, tp, rp⟩ := ra.lst
      exact ⟨_, op_rep, p, kk, vs, rfl, rfl, tp, hl.1, hl.2.1, by rw [rp.length]; exact hl.2.2, fun q hq => k M _ _ (Ext.upd hq) (R.alloc hq) (.lst upd_same (R.fresh hq) ((rp.rep _).mono (Ext.upd hq)))⟩
    · cases e
  | FloorDiv =>
    dsimp only at e
    split at e
    · obtain ⟨hl, rfl⟩ := ite_some e
      obtain rfl := ra.int; obtain rfl := rb.int
      exact ⟨_, op_fdivW, _, _, rfl, rfl, hl, k M H _ (Ext.refl _ _) R (.int _)⟩
    · cases e
  | Mod =>
    dsimp only at e
    split at e
    · obtain ⟨hl, rfl⟩ := ite_some e
      obtain rfl := ra.int; obtain rfl := rb.int
      exact ⟨_, op_mod, _, _, rfl, rfl, hl, k M H _ (Ext.refl _ _) R (.int _)⟩
    · cases e
  | Pow =>
    dsimp only at e
    split at e
    · obtain ⟨hl, rfl⟩ := ite_some e
      obtain rfl := ra.int; obtain rfl := rb.int
      exact ⟨_, op_powB, _, _, rfl, rfl, hl, k M H _ (Ext.refl _ _) R (.int _)⟩
    · cases e
  | LShift =>
    dsimp only at e
    split at e
    · obtain ⟨hl, rfl⟩ := ite_some e
      obtain rfl := ra.int; obtain rfl := rb.int
      exact ⟨_, op_shlB, _, _, rfl, rfl, hl, k M H _ (Ext.refl _ _) R (.int _)⟩
    · cases e
  | RShift =>
    dsimp only at e
    split at e
    · obtain ⟨hl, rfl⟩ := ite_some e
      obtain rfl := ra.int; obtain rfl := rb.int
      exact ⟨_, op_shr, _, _, rfl, rfl, hl, k M H _ (Ext.refl _ _) R (.int _)⟩
    · cases e
  | BitAnd =>
    dsimp only at e
    split at e
    · cases e; obtain rfl := ra.int; obtain rfl := rb.int
      exact ⟨_, op_and, _, _, rfl, rfl, k M H _ (Ext.refl _ _) R (.int _)⟩
    · cases e
  | _ => cases e
theorem rdEmpty {K : PySem.W.Frag} {M : List Addr} {H : Hp} {vs : List V} {ds : List D} (r : RDs K Z M H vs ds) : vs.isEmpty = ds.isEmpty := by cases r <;> rfl
theorem eqD0_some {x y : D} {t : Bool} (h : eqD0 x y = some t) : (x.dat = true ∧ y.dat = true ∧ SeqAt.shaped x.py = true ∧ SeqAt.shaped y.py = true ∧ t = PyData.eqv x.py y.py) ∨
    (∃ xs, x = .tup xs ∧ y = .tup [] ∧ t = xs.isEmpty) ∨ ∃ xs, x = .lst xs ∧ y = .lst [] ∧ t = xs.isEmpty := by
  unfold eqD0 at h
  split at h
  · rename_i hc
    simp only [Bool.and_eq_true] at hc
    cases h
    exact .inl ⟨hc.1.1.1, hc.1.1.2, hc.1.2, hc.2, rfl⟩
  · split at h
    · cases h; exact .inr (.inl ⟨_, rfl, rfl, rfl⟩)
    · cases h; exact .inr (.inr ⟨_, rfl, rfl, rfl⟩)
    · cases h
theorem eqD_some {x y : D} {t : Bool} (h : eqD x y = some t) : (∃ a b, x = .str a ∧ y = .str b ∧ t = decide (a = b)) ∨ (x.dat = true ∧ y.dat = true ∧ SeqAt.shaped x.py = true ∧ SeqAt.shaped y.py = true ∧ t = PyData.eqv x.py y.py) ∨
    (∃ xs, x = .tup xs ∧ y = .tup [] ∧ t = xs.isEmpty) ∨ ∃ xs, x = .lst xs ∧ y = .lst [] ∧ t = xs.isEmpty := by
  unfold eqD at h
  split at h
  · cases h; exact .inl ⟨_, _, rfl, rfl, rfl⟩
  · exact .inr (eqD0_some h)
theorem decStr {a b : Str} : decide (V.str a = V.str b) = decide (a = b) := by
  by_cases h : a = b
  · rw [h]; simp
  · rw [decide_eq_false h, decide_eq_false (fun e => h (by cases e; rfl))]
theorem inD_some {x y : D} {t : Bool} (h : inD x y = some t) : (∃ ys, y = .lst ys ∧ x.dat = true ∧ D.dats ys = true ∧ SeqAt.shaped x.py = true ∧ SeqAt.shaped (.list (D.pys ys)) = true ∧ t = (D.pys ys).any fun z => PyData.eqv z x.py) ∨
    ∃ ys, y = .tup ys ∧ x.dat = true ∧ D.dats ys = true ∧ SeqAt.shaped x.py = true ∧ SeqAt.shaped (.tuple (D.pys ys)) = true ∧ t = (D.pys ys).any fun z => PyData.eqv z x.py := by
  unfold inD at h
  split at h
  · obtain ⟨hc, rfl⟩ := ite_some h
    simp only [Bool.and_eq_true] at hc
    exact .inl ⟨_, rfl, hc.1.1.1, hc.1.1.2, hc.1.2, hc.2, rfl⟩
  · obtain ⟨hc, rfl⟩ := ite_some h
    simp only [Bool.and_eq_true] at hc
    exact .inr ⟨_, rfl, hc.1.1.1, hc.1.1.2, hc.1.2, hc.2, rfl⟩
  · cases h
theorem opr_cmp (hK : X.K = g.K) (hu : X.A.units + 80 < cLine) (op : CmpOp) : OpR X (compareOp op) (r2 g Z fun x y => (cmpD op x y).map D.bl) := by
  refine OpR.cases fun x y H Q q => ?_
  obtain ⟨M, h, a, b, d, R, ra, rb, e, k⟩ := q
  have k' : ∀ t : Bool, d = .bl t → Q (.bl t) H := fun t z => k M H _ (Ext.refl _ _) R (z ▸ .bl t)
  unfold cmpD at e
  cases op with
  | Eq =>
    obtain ⟨t, et, rfl⟩ := Option.map_eq_some_iff.mp e
    rcases eqD_some et with ⟨sa, sb, rfl, rfl, rfl⟩ | ⟨h1, h2, h3, h4, rfl⟩ | ⟨xs, rfl, rfl, rfl⟩ | ⟨xs, rfl, rfl, rfl⟩
    · obtain rfl := ra.str
      obtain rfl := rb.str
      exact ⟨_, op_eq, rfl, by rw [decStr]; exact k' _ rfl⟩
    · exact ⟨_, op_eqD (by omega), a.py, b.py, by rw [hK]; exact ra.dp h1, by rw [hK]; exact rb.dp h2, h3, h4, k' _ rfl⟩
    · obtain ⟨p, vs, rfl, tp, rp⟩ := ra.tup
      obtain ⟨p', vs', rfl, tp', rp'⟩ := rb.tup
      cases rp'
      exact ⟨_, op_eqT0 (by omega), p, p', vs, rfl, rfl, by rw [hK]; exact tp.sqt, by rw [hK]; exact tp'.sqt, by rw [rdEmpty rp]; simpa using k' _ rfl⟩
    · obtain ⟨p, vs, rfl, tp, rp⟩ := ra.lst
      obtain ⟨p', vs', rfl, tp', rp'⟩ := rb.lst
      cases rp'
      exact ⟨_, op_eqL0 (by omega), p, p', vs, rfl, rfl, .inl (.inl tp), .inl (.inl tp'), by rw [rdEmpty rp]; simpa using k' _ rfl⟩
  | NotEq =>
    obtain ⟨t, et, rfl⟩ := Option.map_eq_some_iff.mp e
    obtain ⟨t', et', rfl⟩ := Option.map_eq_some_iff.mp et
    rcases eqD_some et' with ⟨sa, sb, rfl, rfl, rfl⟩ | ⟨h1, h2, h3, h4, rfl⟩ | ⟨xs, rfl, rfl, rfl⟩ | ⟨xs, rfl, rfl, rfl⟩
    · obtain rfl := ra.str
      obtain rfl := rb.str
      exact ⟨_, op_ne, rfl, by rw [decStr]; exact k' _ rfl⟩
    · exact ⟨_, op_neD (by omega), a.py, b.py, by rw [hK]; exact ra.dp h1, by rw [hK]; exact rb.dp h2, h3, h4, k' _ rfl⟩
    · obtain ⟨p, vs, rfl, tp, rp⟩ := ra.tup
      obtain ⟨p', vs', rfl, tp', rp'⟩ := rb.tup
      cases rp'
      exact ⟨_, op_neT0 (by omega), p, p', vs, rfl, rfl, by rw [hK]; exact tp.sqt, by rw [hK]; exact tp'.sqt, by rw [rdEmpty rp]; simpa using k' _ rfl⟩
    · obtain ⟨p, vs, rfl, tp, rp⟩ := ra.lst
      obtain ⟨p', vs', rfl, tp', rp'⟩ := rb.lst
      cases rp'
      exact ⟨_, op_neL0 (by omega), p, p', vs, rfl, rfl, .inl (.inl tp), .inl (.inl tp'), by rw [rdEmpty rp]; simpa using k' _ rfl⟩
  | In =>
    obtain ⟨t, et, rfl⟩ := Option.map_eq_some_iff.mp e
    rcases inD_some et with ⟨ys, rfl, h1, h2, h3, h4, rfl⟩ | ⟨ys, rfl, h1, h2, h3, h4, rfl⟩
    · have q := rb.dp (show D.dat (.lst ys) = true by unfold D.dat; exact h2)
      unfold D.py at q
      exact ⟨_, op_inD (by omega), a.py, D.pys ys, by rw [hK]; exact ra.dp h1, by rw [hK]; exact q, h3, h4, k' _ rfl⟩
    · have q := rb.dp (show D.dat (.tup ys) = true by unfold D.dat; exact h2)
      unfold D.py at q
      exact ⟨_, op_inDT (by omega), a.py, D.pys ys, by rw [hK]; exact ra.dp h1, by rw [hK]; exact q, h3, h4, by simpa using k' _ rfl⟩
  | NotIn =>
    obtain ⟨t, et, rfl⟩ := Option.map_eq_some_iff.mp e
    obtain ⟨t', et', rfl⟩ := Option.map_eq_some_iff.mp et
    rcases inD_some et' with ⟨ys, rfl, h1, h2, h3, h4, rfl⟩ | ⟨ys, rfl, h1, h2, h3, h4, rfl⟩
    · have q := rb.dp (show D.dat (.lst ys) = true by unfold D.dat; exact h2)
      unfold D.py at q
      exact ⟨_, op_notInD (by omega), a.py, D.pys ys, by rw [hK]; exact ra.dp h1, by rw [hK]; exact q, h3, h4, k' _ rfl⟩
    · have q := rb.dp (show D.dat (.tup ys) = true by unfold D.dat; exact h2)
      unfold D.py at q
      exact ⟨_, op_notInDT (by omega), a.py, D.pys ys, by rw [hK]; exact ra.dp h1, by rw [hK]; exact q, h3, h4, by simpa using k' _ rfl⟩
  | Lt =>
    dsimp only at e
    split at e
    · cases e; obtain rfl := ra.int; obtain rfl := rb.int
      exact ⟨_, op_lt, _, _, rfl, rfl, k' _ rfl⟩
    · cases e
  | LtE =>
    dsimp only at e
    split at e
    · cases e; obtain rfl := ra.int; obtain rfl := rb.int
      exact ⟨_, op_le, _, _, rfl, rfl, k' _ rfl⟩
    · cases e
  | Gt =>
    dsimp only at e
    split at e
    · cases e; obtain rfl := ra.int; obtain rfl := rb.int
      exact ⟨_, op_gt, _, _, rfl, rfl, k' _ rfl⟩
    · cases e
  | GtE =>
    dsimp only at e
    split at e
    · cases e; obtain rfl := ra.int; obtain rfl := rb.int
      exact ⟨_, op_ge, _, _, rfl, rfl, k' _ rfl⟩
    · cases e
  | Is =>
    dsimp only at e
    split at e
    · cases e; obtain rfl := rb.non
      exact ⟨_, op_isN, rfl, by rw [ra.isNon]; exact k' _ rfl⟩
    · cases e; obtain rfl := ra.bl; obtain rfl := rb.bl
      exact ⟨_, op_isBl, _, _, rfl, rfl, k' _ rfl⟩
    · cases e
  | IsNot =>
    dsimp only at e
    split at e
    · cases e; obtain rfl := rb.non
      exact ⟨_, op_notN, rfl, by rw [ra.isNon]; exact k' _ rfl⟩
    · cases e; obtain rfl := ra.bl; obtain rfl := rb.bl
      exact ⟨_, op_notBl, _, _, rfl, rfl, k' _ rfl⟩
    · cases e
end
end WW
/-! 4: expressions. -/
namespace WW
open PySem PySem.Spec PyProof.Rows L2
/-! ### what the interpreter does -/
def mVar (i : Nat) : ME D := fun l h => match l[i]? with
  | some (some d) => .ok d h
  | _ => .bad
def mC (d : D) : ME D := fun _ h => .ok d h
def mV2 (f : D → D → Option D) (a b : ME D) : ME D := mBind a fun x => mBind b fun y => fun _ h => match f (vw h x) (vw h y) with
  | some d => .ok d h
  | none => .bad
def mBin (op : Operator) (a b : ME D) : ME D := mV2 (binD op) a b
def mCmp (op : CmpOp) (a b : ME D) : ME D := mV2 (fun x y => (cmpD op x y).map D.bl) a b
def mTruV (x : D) : ME Bool := fun _ h => match truD (vw h x) with
  | some b => .ok b h
  | none => .bad
def mTru (a : ME D) : ME Bool := mBind a mTruV
def mNotV (a : ME D) : ME D := mBind a fun x => mBind (mTruV x) fun b => mC (.bl (!b))
def mAndV (a b : ME D) : ME D := mBind a fun x => mBind (mTruV x) fun c => if c = true then b else mC x
def mOrV (a b : ME D) : ME D := mBind a fun x => mBind (mTruV x) fun c => if c = true then mC x else b
def mIfE (t : ME Bool) (a b : ME D) : ME D := mBind t fun c => if c = true then a else b
def mNotT (t : ME Bool) : ME Bool := mBind t fun c => mRet (!c)
def mAndT (t u : ME Bool) : ME Bool := mBind t fun c => if c = true then u else mRet false
def mOrT (t u : ME Bool) : ME Bool := mBind t fun c => if c = true then mRet true else u
def mBlT (a : ME D) : ME Bool := mBind a fun x => match x with
  | .bl b => mRet b
  | _ => mBad
def chEnd (op' : CmpOp) (y : D) (c : ME D) : ME D := mBind c fun z => fun _ h => match cmpD op' (vw h y) (vw h z) with
  | some r => .ok (.bl r) h
  | none => .bad
def mChain (op op' : CmpOp) (a b c : ME D) : ME D := mBind a fun x => mBind b fun y => fun l h => match cmpD op (vw h x) (vw h y) with
  | some true => chEnd op' y c l h
  | some false => .ok (.bl false) h
  | none => .bad
def mNil : ME (List D) := mRet []
def mCons (a : ME D) (as : ME (List D)) : ME (List D) := mBind a fun x => mBind as fun xs => mRet (x :: xs)
def mTup (as : ME (List D)) : ME D := mBind as fun xs => fun _ h => if xs.length ≤ sizeLine then .ok (.tup xs) h else .bad
/-- a new list -/
def mLst (as : ME (List D)) : ME (List D) := mBind as fun xs => fun _ h => if xs.length ≤ sizeLine then .ok xs h else .bad
def mFz (m : ME (List D)) : ME D := mBind m fun xs => mC (.lst xs)
def mNeg (a : ME D) : ME D := mBind a fun x => match x with
  | .int i => mC (.int (-i))
  | _ => mBad
def ixD (x y : D) : Option D := match y with
  | .int i => match x with
    | .tup xs => atI xs i
    | .lst xs => atI xs i
    | .lok xs => atI xs i
    | .str z => if z.length ≤ sizeLine then (atI z.cps.toList i).map fun c => .str ⟨#[c]⟩ else none
    | _ => none
  | _ => none
def mIx (a b : ME D) : ME D := mV2 ixD a b
def cutD (xs : List D) (lo hi : Option Int) : List D := (xs.drop (HT.sIx xs.length 0 lo)).take (HT.sIx xs.length xs.length hi - HT.sIx xs.length 0 lo)
def slD (x : D) (lo hi : Option Int) : Option D := match x with
  | .tup xs => some (.tup (cutD xs lo hi))
  | .lst xs => some (.lst (cutD xs lo hi))
  | .str z => if z.length ≤ sizeLine then some (.str (cutS z lo hi)) else none
  | _ => none
def mNoP : ME (Option Int) := mRet none
def mP (a : ME D) : ME (Option Int) := mBind a fun x => match x with
  | .int i => mRet (some i)
  | _ => mBad
def mSl (a : ME D) (lo hi : ME (Option Int)) : ME D := mBind a fun x => mBind lo fun i => mBind hi fun j => fun _ h => match slD (vw h x) i j with
  | some d => .ok d h
  | none => .bad
section
variable {g : Gx} {X : Cx} {c : Cs} {k : Nat}
/-! ### names, constants -/
theorem qe_var (C : CxOk g X c k) {i : Nat} {x : Str} {pos : Pos} (hN : c.N[i]? = some x) (hv : Vis c.sc x) (hd : (x == ("__debug__" : Str)) = false) (hcd : (x == ("__classdict__" : Str)) = false) : QE g X c (mVar i) (.Name x pos) := by
  refine PE.imp (pe_var (i := i) (by rw [C.hN]; exact hN) (by rw [C.hsc]; exact hv) hd hcd) fun σ H Q q => ?_
  obtain ⟨M, l, h, R, L, p⟩ := q
  unfold mVar at p
  cases e : l[i]? with
  | none => rw [e] at p; exact p.elim
  | some o =>
    cases o with
    | none => rw [e] at p; exact p.elim
    | some d =>
      rw [e] at p
      obtain ⟨v, h1, h2⟩ := L.at_ i d e
      exact ⟨v, h1, p.ok R h2⟩
theorem qe_c {d : D} {v : V} {e : Expr} (h : PE X e (tC v)) (r : ∀ M H, RD g.K c.Z M H v d) : QE g X c (mC d) e := by
  refine PE.imp h fun σ H Q q => ?_
  obtain ⟨M, l, hh, R, L, p⟩ := q
  exact p.ok R (r M H)
/-! ### operators -/
theorem qe_v2 {e : Expr} {f : D → D → Option D} {ma mb : ME D}
    (h : PE X e (tOp (r2 g c.Z f) (rd g c (rD g c) ma) (rd g c (rD g c) mb))) : QE g X c (mV2 f ma mb) e := by
  refine PE.imp h fun σ H Q q => ?_
  obtain ⟨M, l, hh, R, L, p⟩ := q
  refine rd_bind R L p fun M1 H1 h1 x a e1 R1 L1 r1 p1 => ?_
  refine rd_bind R1 L1 p1 fun M2 H2 h2 y b e2 R2 L2 r2' p2 => ?_
  try dsimp only at p2
  cases e : f (vw h2 a) (vw h2 b) with
  | none => rw [e] at p2; exact p2.elim
  | some d =>
    rw [e] at p2
    exact ⟨M2, h2, vw h2 a, vw h2 b, d, R2, .of R2 (r1.mono e2), .of R2 r2', e, p2⟩
theorem qe_bin (C : CxOk g X c k) {a b : Expr} {ma mb : ME D} {op : Operator} {pos : Pos} (ha : QE g X c ma a) (hb : QE g X c mb b) : QE g X c (mBin op ma mb) (.BinOp a op b pos) :=
  qe_v2 (pe_op (opr_bin C.hK C.units op) ha hb)
theorem qe_cmp (C : CxOk g X c k) {a b : Expr} {ma mb : ME D} {op : CmpOp} {pos : Pos} (ha : QE g X c ma a) (hb : QE g X c mb b) (hm : behindInMarks op b = false) : QE g X c (mCmp op ma mb) (.Compare a [op] [b] pos) :=
  qe_v2 (pe_cmpR (opr_cmp C.hK C.units op) ha hb hm)
theorem qt_cmp (C : CxOk g X c k) {a b : Expr} {ma mb : ME D} {op : CmpOp} {pos : Pos} (ha : QE g X c ma a) (hb : QE g X c mb b) (hm : behindInMarks op b = false) : QT g X c (mBlT (mCmp op ma mb)) (.Compare a [op] [b] pos) := by
  refine PT.imp (pt_cmpR (opr_cmp (Z := c.Z) C.hK C.units op) ha hb hm) fun σ H Q q => ?_
  obtain ⟨M, l, hh, R, L, p⟩ := q
  unfold mBlT mCmp mV2 at p
  -- associativity by hand
  show rd g c (rD g c) ma σ H _
  refine ⟨M, l, hh, R, L, ?_⟩
  unfold mBind at p
  cases e1 : ma l hh with
  | bad => rw [e1] at p; exact p
  | exc e' h' => rw [e1] at p; exact p
  | ok x h1 =>
    rw [e1] at p
    intro M1 H1 v x1 R1 r1
    refine ⟨M1, l, h1, R1, L.mono x1, ?_⟩
    dsimp only at p
    cases e2 : mb l h1 with
    | bad => rw [e2] at p; exact p
    | exc e' h' => rw [e2] at p; exact Post.mono (W := c.W) (R := rB) (Q := Q) (o := .exc e' h') p x1
    | ok y h2 =>
      rw [e2] at p
      intro M2 H2 w x2 R2 r2'
      dsimp only at p
      cases e : cmpD op (vw h2 x) (vw h2 y) with
      | none => rw [e] at p; exact p.elim
      | some d =>
        rw [e] at p
        refine ⟨M2, h2, vw h2 x, vw h2 y, .bl d, R2, .of R2 (r1.mono x2), .of R2 r2', by dsimp only; rw [e]; rfl, fun M3 H3 v3 x3 R3 r3 => ?_⟩
        cases r3
        exact ⟨d, rfl, p M3 H3 d ((x1.trans x2).trans x3) R3 rfl⟩
/-! ### truth -/
theorem trulen {n : Nat} : ((n : Int) != 0) = (n != 0) := by
  cases n with
  | zero => rfl
  | succ m => simp only [bne, Int.natCast_add]; rfl
theorem RDs.isEmpty {K : PySem.W.Frag} {Z : Spx} {M : List Addr} {H : Hp} {vs : List V} {ds : List D} (r : RDs K Z M H vs ds) : ds.isEmpty = vs.isEmpty := by cases r <;> rfl
theorem RW.tru {K : PySem.W.Frag} {Z : Spx} {M : List Addr} {H : Hp} {v : V} {d : D} {b : Bool} (r : RW K Z M H v d) (e : truD d = some b) : TruV K v H b := by
  cases d with
  | non => obtain rfl := r.non; cases e; rfl
  | bl x => obtain rfl := r.bl; cases e; rfl
  | int i => obtain rfl := r.int; cases e; rfl
  | str x =>
    obtain rfl := r.str
    obtain ⟨h, rfl⟩ := ite_some (show (if x.length ≤ sizeLine then some (x.length != 0) else none) = some b from e)
    exact ⟨h, trulen.symm⟩
  | tup xs =>
    obtain ⟨a, vs, rfl, h, q⟩ := r.tup
    cases e
    exact .inr (.inl ⟨vs, h.sqt, by rw [q.isEmpty]⟩)
  | lst xs =>
    obtain ⟨a, vs, rfl, h, q⟩ := r.lst
    cases e
    exact .inl ⟨vs, .inl (.inl h), by rw [q.isEmpty]⟩
  | _ => cases e
theorem tru_post {M : List Addr} {H : Hp} {h : Hh} {l : Lc} {σ : L2.St} {x : V} {d : D} {β γ : Type} {α δ : Type} {R' : RR γ δ} {f : Bool → ME δ} {Q : γ → Hp → Prop} (hK : X.K = g.K) (R : RelH g c.Z M H h) (r : RD g.K c.Z M H x d)
    (p : Post g c.Z c.W R' M H σ (mBind (mTruV d) f l h) Q) : ∃ b, TruV X.K x H b ∧ Post g c.Z c.W R' M H σ (f b l h) Q := by
  unfold mBind mTruV at p
  cases e : truD (vw h d) with
  | none => rw [e] at p; exact p.elim
  | some b =>
    rw [e] at p
    exact ⟨b, by rw [hK]; exact (RW.of R r).tru e, p⟩
theorem qt_tru (C : CxOk g X c k) {e : Expr} {m : ME D} (h : QE g X c m e) (he : ∀ whole, isTrue e X.env whole = (do let v ← whole; standAt e.pos; holding [v] (truthy v))) : QT g X c (mTru m) e := by
  refine PT.imp (pt_truth h he) fun σ H Q q => ?_
  obtain ⟨M, l, hh, R, L, p⟩ := q
  refine rd_bind R L p fun M1 H1 h1 x a e1 R1 L1 r1 p1 => ?_
  unfold mTruV at p1
  cases e : truD (vw h1 a) with
  | none => rw [e] at p1; exact p1.elim
  | some b =>
    rw [e] at p1
    exact ⟨b, by rw [C.hK]; exact (RW.of R1 r1).tru e, p1.ok R1 rfl⟩
theorem qe_not (C : CxOk g X c k) {a : Expr} {ma : ME D} {pos : Pos} (ha : QE g X c ma a) : QE g X c (mNotV ma) (.UnaryOp .Not a pos) := by
  refine PE.imp (pe_notT ha) fun σ H Q q => ?_
  obtain ⟨M, l, hh, R, L, p⟩ := q
  refine rd_bind R L p fun M1 H1 h1 x a e1 R1 L1 r1 p1 => ?_
  obtain ⟨b, t, p2⟩ := tru_post (β := V) (α := D) C.hK R1 r1 p1
  exact ⟨b, t, p2.ok R1 (.bl _)⟩
theorem qe_one {op : BoolOp} {a : Expr} {ma : ME D} {pos : Pos} (ha : QE g X c ma a) : QE g X c ma (.BoolOp op [a] pos) := pe_one ha
theorem qe_and (C : CxOk g X c k) {a b : Expr} {rest : List Expr} {ma mb : ME D} {pos : Pos} (ha : QE g X c ma a) (hb : QE g X c mb (.BoolOp .And (b :: rest) pos)) : QE g X c (mAndV ma mb) (.BoolOp .And (a :: b :: rest) pos) := by
  refine PE.imp (pe_andT ha hb) fun σ H Q q => ?_
  obtain ⟨M, l, hh, R, L, p⟩ := q
  refine rd_bind R L p fun M1 H1 h1 x a e1 R1 L1 r1 p1 => ?_
  obtain ⟨b, t, p2⟩ := tru_post (β := V) (α := D) C.hK R1 r1 p1
  refine ⟨b, t, ?_⟩
  cases b with
  | true => exact ⟨M1, l, h1, R1, L1, p2⟩
  | false => exact p2.ok R1 r1
theorem qe_or (C : CxOk g X c k) {a b : Expr} {rest : List Expr} {ma mb : ME D} {pos : Pos} (ha : QE g X c ma a) (hb : QE g X c mb (.BoolOp .Or (b :: rest) pos)) : QE g X c (mOrV ma mb) (.BoolOp .Or (a :: b :: rest) pos) := by
  refine PE.imp (pe_orT ha hb) fun σ H Q q => ?_
  obtain ⟨M, l, hh, R, L, p⟩ := q
  refine rd_bind R L p fun M1 H1 h1 x a e1 R1 L1 r1 p1 => ?_
  obtain ⟨b, t, p2⟩ := tru_post (β := V) (α := D) C.hK R1 r1 p1
  refine ⟨b, t, ?_⟩
  cases b with
  | true => exact p2.ok R1 r1
  | false => exact ⟨M1, l, h1, R1, L1, p2⟩
/-! ### tests -/
theorem qt_not {a : Expr} {ma : ME Bool} {pos : Pos} (ha : QT g X c ma a) : QT g X c (mNotT ma) (.UnaryOp .Not a pos) := by
  refine PT.imp (pt_not ha) fun σ H Q q => ?_
  obtain ⟨M, l, hh, R, L, p⟩ := q
  refine rd_bind R L p fun M1 H1 h1 x a e1 R1 L1 r1 p1 => ?_
  cases r1
  exact p1.ok R1 rfl
theorem qw_and1 {a : Expr} {ma : ME Bool} {pos : Pos} (ha : QT g X c ma a) : QW g X c ma (.BoolOp .And [a] pos) := pw_and1 ha
theorem qw_or1 {a : Expr} {ma : ME Bool} {pos : Pos} (ha : QT g X c ma a) : QW g X c ma (.BoolOp .Or [a] pos) := pw_or1 ha
theorem qw_and {a b : Expr} {rest : List Expr} {ma mb : ME Bool} {pos : Pos} (ha : QT g X c ma a) (hb : QW g X c mb (.BoolOp .And (b :: rest) pos)) : QW g X c (mAndT ma mb) (.BoolOp .And (a :: b :: rest) pos) := by
  refine PW.imp (pw_and ha hb) fun σ H Q q => ?_
  obtain ⟨M, l, hh, R, L, p⟩ := q
  refine rd_bind R L p fun M1 H1 h1 x a e1 R1 L1 r1 p1 => ?_
  cases r1
  cases x with
  | true => exact ⟨M1, l, h1, R1, L1, p1⟩
  | false => exact p1.ok R1 rfl
theorem qw_or {a b : Expr} {rest : List Expr} {ma mb : ME Bool} {pos : Pos} (ha : QT g X c ma a) (hb : QW g X c mb (.BoolOp .Or (b :: rest) pos)) : QW g X c (mOrT ma mb) (.BoolOp .Or (a :: b :: rest) pos) := by
  refine PW.imp (pw_or ha hb) fun σ H Q q => ?_
  obtain ⟨M, l, hh, R, L, p⟩ := q
  refine rd_bind R L p fun M1 H1 h1 x a e1 R1 L1 r1 p1 => ?_
  cases r1
  cases x with
  | true => exact p1.ok R1 rfl
  | false => exact ⟨M1, l, h1, R1, L1, p1⟩
theorem qe_if {t a b : Expr} {mt : ME Bool} {ma mb : ME D} {pos : Pos} (ht : QT g X c mt t) (ha : QE g X c ma a) (hb : QE g X c mb b) : QE g X c (mIfE mt ma mb) (.IfExp t a b pos) := by
  refine PE.imp (pe_ifExp ht ha hb) fun σ H Q q => ?_
  obtain ⟨M, l, hh, R, L, p⟩ := q
  refine rd_bind R L p fun M1 H1 h1 x a e1 R1 L1 r1 p1 => ?_
  cases r1
  cases x with
  | true => exact ⟨M1, l, h1, R1, L1, p1⟩
  | false => exact ⟨M1, l, h1, R1, L1, p1⟩
/-! ### lists of expressions; tuples, lists -/
theorem qa_nil : QA g X c mNil [] := by
  refine PA.imp pa_nil fun σ H Q q => ?_
  obtain ⟨M, l, hh, R, L, p⟩ := q
  exact p.ok R .nil
theorem qa_cons {e : Expr} {es : List Expr} {m : ME D} {ms : ME (List D)} (h : QE g X c m e) (hs : QA g X c ms es) (hst : starEach (e :: es) X.env = (false, eval e X.env) :: starEach es X.env) : QA g X c (mCons m ms) (e :: es) := by
  refine PA.imp (pa_cons h hs hst) fun σ H Q q => ?_
  obtain ⟨M, l, hh, R, L, p⟩ := q
  refine rd_bind R L p fun M1 H1 h1 x a e1 R1 L1 r1 p1 => ?_
  refine rd_bind R1 L1 p1 fun M2 H2 h2 y b e2 R2 L2 r2' p2 => ?_
  exact p2.ok R2 (.cons (r1.mono e2) r2')
theorem qe_tup {es : List Expr} {ms : ME (List D)} {x1 : Nat} {pos : Pos} (h : QA g X c ms es) : QE g X c (mTup ms) (.Tuple es x1 pos) := by
  refine PE.imp (pe_tup h) fun σ H Q q => ?_
  obtain ⟨M, l, hh, R, L, p⟩ := q
  refine rd_bind R L p fun M1 H1 h1 x a e1 R1 L1 r1 p1 => ?_
  try dsimp only at p1
  by_cases hl : a.length ≤ sizeLine
  · rw [if_pos hl] at p1
    exact ⟨by rw [r1.length]; exact hl, fun q hq => p1.okx (Ext.upd hq) (R1.alloc hq) (.tup (.tup upd_same (R1.fresh hq)) (r1.mono (Ext.upd hq)))⟩
  · rw [if_neg hl] at p1; exact p1.elim
/-- a list that is made here -/
def rdL (g : Gx) (c : Cs) (m : ME (List D)) : TE := fun σ H Q => rd g c (rDs g c) m σ H fun vs H1 => ∀ a, H1 a = none → Q (.ref a) (upd H1 a (.lst vs))
abbrev QL (g : Gx) (X : Cx) (c : Cs) (m : ME (List D)) (e : Expr) : Prop := PE X e (rdL g c m)
theorem ql_lst {es : List Expr} {ms : ME (List D)} {pos : Pos} (h : QA g X c ms es) : QL g X c (mLst ms) (.List es pos) := by
  refine PE.imp (pe_lst h) fun σ H Q q => ?_
  obtain ⟨M, l, hh, R, L, p⟩ := q
  refine rd_bind R L p fun M1 H1 h1 x a e1 R1 L1 r1 p1 => ?_
  try dsimp only at p1
  by_cases hl : a.length ≤ sizeLine
  · rw [if_pos hl] at p1
    exact ⟨by rw [r1.length]; exact hl, p1.ok R1 r1⟩
  · rw [if_neg hl] at p1; exact p1.elim
theorem qe_fz {e : Expr} {m : ME (List D)} (h : QL g X c m e) : QE g X c (mFz m) e := by
  refine PE.imp h fun σ H Q q => ?_
  obtain ⟨M, l, hh, R, L, p⟩ := q
  refine rd_bind R L p fun M1 H1 h1 x a e1 R1 L1 r1 p1 => ?_
  exact fun q hq => p1.okx (Ext.upd hq) (R1.alloc hq) (.lst upd_same (R1.fresh hq) (r1.mono (Ext.upd hq)))
theorem qe_neg {a : Expr} {ma : ME D} {pos : Pos} (ha : QE g X c ma a) : QE g X c (mNeg ma) (.UnaryOp .USub a pos) := by
  refine PE.imp (pe_un un_neg ha) fun σ H Q q => ?_
  obtain ⟨M, l, hh, R, L, p⟩ := q
  refine rd_bind R L p fun M1 H1 h1 x a e1 R1 L1 r1 p1 => ?_
  cases a with
  | int i => cases r1; exact ⟨i, rfl, p1.ok R1 (.int _)⟩
  | _ => exact p1.elim
end
end WW
/-! 5: t[::-1]. -/
namespace WW
open PySem PySem.Spec PyProof.Rows L2 HT
section
variable {prog : Program} {w : World} {A : Around} {E : Value → Shared → Prop} {s : Shared}
theorem adjust_rev (n : Nat) : Builtin.Slice.sliceAdjust none none (-1) (n : Int) = ((n : Int) - 1, -1) := by
  unfold Builtin.Slice.sliceAdjust
  simp
theorem places_rev (n : Nat) : Builtin.Slice.slicePlaces ((n : Int) - 1) (-1) (-1) = n := by
  unfold Builtin.Slice.slicePlaces
  simp
  try omega
theorem sliceApplied_rev {sl : Addr} {vl vu vs : Value} {n : Nat} {Q : Int × Int × Nat → Shared → Prop} (hs : s.heap.IsSliceOf sl vl vu vs) (pl : IsPart vl none) (pu : IsPart vu none) (ps : IsPart vs (some (-1)))
    (h : Q ((n : Int) - 1, -1, n) s) : wpAny (model prog w) A (Builtin.Slice.sliceApplied (.ref sl) (pure (n : Int))) Q E s := by
  obtain ⟨os, hos, hcs, hds⟩ := id hs
  unfold Builtin.Slice.sliceApplied Builtin.Slice.sliceFields
  refine wpAny_bind (wpAny_bind (wpAny_field hos hds (x := vl) rfl (wpAny_bind (wpAny_field hos hds (x := vu) rfl (wpAny_bind (wpAny_field hos hds (x := vs) rfl (wpAny_pure ?_)))))))
  refine wpAny_bind (slicePart_ ps ?_)
  show wpAny _ _ (if ((-1 : Int) == 0) = true then _ else _) _ _ s
  rw [if_neg (by decide)]
  refine wpAny_bind (slicePart_ pl (wpAny_bind (slicePart_ pu (wpAny_bind (wpAny_pure ?_)))))
  show wpAny _ _ (match Builtin.Slice.sliceAdjust none none (-1) (n : Int) with | (lo, hi) => pure (lo, (-1 : Int), Builtin.Slice.slicePlaces lo hi (-1))) _ _ s
  rw [adjust_rev n]
  show wpAny _ _ (pure ((n : Int) - 1, (-1 : Int), Builtin.Slice.slicePlaces ((n : Int) - 1) (-1) (-1))) _ _ s
  rw [places_rev]
  exact wpAny_pure h
theorem fm_congr {α β : Type} {f g : α → Option β} : ∀ {l : List α}, (∀ x ∈ l, f x = g x) → l.filterMap f = l.filterMap g
  | [], _ => rfl
  | x :: l, h => by
    rw [List.filterMap_cons, List.filterMap_cons, h x List.mem_cons_self, fm_congr (l := l) fun y hy => h y (List.mem_cons_of_mem _ hy)]
theorem range_rev' {α : Type} : ∀ l : List α, (List.range l.length).filterMap (fun m => l.reverse[l.length - 1 - m]?) = l
  | [] => rfl
  | x :: t => by
    rw [List.length_cons, List.range_succ_eq_map, List.filterMap_cons]
    have e0 : (x :: t).reverse[t.length + 1 - 1 - 0]? = some x := by simp
    rw [e0]
    dsimp only
    rw [List.filterMap_map]
    congr 1
    refine Eq.trans (fm_congr fun m hm => ?_) (range_rev' t)
    have := List.mem_range.mp hm
    show (x :: t).reverse[t.length + 1 - 1 - (m + 1)]? = _
    rw [List.reverse_cons, List.getElem?_append_left (by simp; omega)]
    congr 1
    omega
theorem range_rev {α : Type} (l : List α) : (List.range l.length).filterMap (fun m => l[l.length - 1 - m]?) = l.reverse := by
  have := range_rev' l.reverse
  rw [List.reverse_reverse, List.length_reverse] at this
  exact this
theorem pick_rev (xs : Array Value) : ((List.range xs.size).filterMap fun (m : Nat) => xs[((xs.size : Int) - 1 + (m : Int) * (-1)).toNat]?).toArray = xs.toList.reverse.toArray := by
  rw [← range_rev xs.toList]
  congr 1
  rw [Array.length_toList]
  refine fm_congr fun m hm => ?_
  have := List.mem_range.mp hm
  have e : ((xs.size : Int) - 1 + (m : Int) * (-1)).toNat = xs.size - 1 - m := by omega
  rw [e, Array.getElem?_toList]
theorem getItem_tuple_rev {t sl : Addr} {items : Array Value} {vl vu vs : Value} {Q : Value → Shared → Prop} (ht : IsTup s.heap t items) (hs : s.heap.IsSliceOf sl vl vu vs) (pl : IsPart vl none) (pu : IsPart vu none) (ps : IsPart vs (some (-1)))
    (h : Q (.ref s.heap.objs.size) { s with heap := s.heap.push { cls := .type "tuple", data := .seq items.toList.reverse.toArray } })
    (hsz : items.size ≤ sizeLine) : wpAny (model prog w) A (getItem (.ref t) (.ref sl)) Q E s := by
  have htake : sizeOk (.seq items.toList.reverse.toArray) := by
    show items.toList.reverse.toArray.size ≤ sizeLine
    rw [List.size_toArray, List.length_reverse, Array.length_toList]
    exact hsz
  obtain ⟨os, hos, hcs, hds⟩ := id hs
  have hTs : s.TypeIs (.ref sl) "slice" := ⟨os, hos, hcs⟩
  unfold getItem
  try with_reducible refine wpAny_holding ?_
  first | refine wpAny_bind (wpAny_pure ?_) | skip
  refine wpAny_bind (wpAny_sequenceKey ht.typeIs (by decide) ?_)
  refine wpAny_bind (wpAny_callSpecial?_slot (name := Str.ofString "__getitem__") ht.typeIs PyProof.Rows.slot_tuple_getitem
    (wpAny_call_entry PyProof.Rows.slot_tuple_getitem ht.typeIs entry_tuple_getitem ?_ (args_tuple_getitem _ _)))
  show wpAny _ _ (Builtin.Tuple.tupleItemsOf (.ref t) >>= _) _ _ s
  refine wpAny_bind (tupleItemsOf_ ht ?_)
  refine wpAny_bind (wpAny_typeOf hTs ?_)
  rw [if_pos (by decide)]
  refine wpAny_bind (sliceApplied_rev hs pl pu ps ?_)
  show wpAny _ _ (if (((items.size : Int) - 1) == 0 && (-1 : Int) == 1 && items.size == items.size) = true then _ else _) _ _ s
  rw [if_neg (by simp), pick_rev]
  first
    | exact wpAny_bind (m := Builtin.Tuple.tupleExact _) (wpAny_newObj_type (wpAny_pure ⟨_, rfl, wpAny_pure h⟩) htake)
    | exact wpAny_bind (m := Builtin.Tuple.tupleExact _) (wpAny_newObj_type (wpAny_bind (wpAny_pure (wpAny_pure ⟨_, rfl, wpAny_pure h⟩))) htake)
    | exact wpAny_bind (wpAny_bind (m := Builtin.Tuple.tupleExact _) (wpAny_newObj_type (wpAny_pure (wpAny_pure ⟨_, rfl, wpAny_pure h⟩)) htake))
    | exact wpAny_bind (wpAny_bind (m := Builtin.Tuple.tupleExact _) (wpAny_newObj_type (wpAny_pure ⟨_, rfl, wpAny_pure h⟩) htake))
end
def tRevT (K : PySem.W.Frag) (te : TE) : TE := fun σ H Q => te σ H fun x H1 => (∃ a xs, x = .ref a ∧ SqL K H1 a xs ∧ ∀ p, H1 p = none → Q (.ref p) (upd H1 p (.lst xs.reverse))) ∨ (∃ a xs, x = .ref a ∧ SqT K H1 a xs ∧ ∀ p, H1 p = none → Q (.ref p) (upd H1 p (.tup xs.reverse)))
theorem pe_revA {X : Cx} {e : Expr} {te : TE} {k : Nat} {p1 p2 p3 pos : Pos} (he : PE X e te) : PE X (.Subscript e (.Slice none none (some (.UnaryOp .USub (.Constant (.int 1) k p1) p2)) p3) pos) (tRevT X.K te) := by
  refine ⟨fun pins s σ H Q I h => ?_⟩
  refine Subscript_ (thn (he.run pins s σ H _ I h) fun v s1 ⟨x, H1, I1, r1, q1⟩ => ?_)
  have hst : PO X (some (.UnaryOp .USub (.Constant (.int 1) k p1) p2)) (tPart (tUn (rU fun i => .int (-i)) (tC (.int 1)))) := po_some (pe_un un_neg pe_int)
  refine wpAny_Slice (thn (po_none.run pins s1 σ H1 (fun o H2 => o = none ∧ H2 = H1) I1 ⟨rfl, rfl⟩) fun vl s2 ⟨l, H2, I2, pl, el, e2⟩ => ?_)
  subst el e2
  refine thn (po_none.run pins s2 σ H2 (fun o H3 => o = none ∧ H3 = H2) I2 ⟨rfl, rfl⟩) fun vu s3 ⟨u, H3, I3, pu, eu, e3⟩ => ?_
  subst eu e3
  refine thn (hst.run pins s3 σ H3 (fun o H4 => o = some (-1) ∧ H4 = H3) I3 ⟨1, rfl, -1, rfl, rfl, rfl⟩) fun vs s4 ⟨o, H4, I4, ps, eo, e4⟩ => ?_
  subst eo e4
  have I5 : Inv X pins σ H4 { s4 with heap := s4.heap.push { cls := .type "slice", data := .fields #[vl, vu, vs] } } := I4.kept (t' := s4.toks) fun b ob q => Heap.get?_push_of_some _ q
  rcases q1 with ⟨a, xs, ex, hx, q⟩ | ⟨a, xs, ex, hx, q⟩
  · subst ex
    cases r1
    obtain ⟨its, r, ht, hz⟩ := I5.list hx
    have hlen := r.length
    show wpAny (model X.prog X.w) X.A (subscriptTail e (.Slice none none (some (.UnaryOp .USub (.Constant (.int 1) k p1) p2)) p3) (.ref a) (.ref s4.heap.objs.size)) (EP X pins σ Q) X.xe { s4 with heap := s4.heap.push { cls := .type "slice", data := .fields #[vl, vu, vs] } }
    refine tail_any (ops := [.ref a, .ref s4.heap.objs.size]) ht.isList.typeIs (PySem.slot_list_getitem.lookup) ?_ (by with_unfolding_all rfl)
    refine wpAny_getItem_list_slice ht.isList (Heap.IsSliceOf.new _ vl vu vs) pl pu ps (by decide) ?_ (by rw [List.size_toArray]; omega)
    rw [PySem.W.krv_pick]
    refine ⟨.ref _, _, I5.laid (t' := s4.toks) (o := .lst xs.reverse) (fun b ob q => Heap.get?_push_of_some _ q) (Nat.le_refl _) ?_, rfl, q _ (I5.hok.fresh (Nat.le_refl _))⟩
    exact ⟨by rw [List.length_reverse]; exact hz, _, 0, r.reverse, Heap.get?_push_size _ rfl⟩
  · subst ex
    cases r1
    obtain ⟨its, r, ht, hz⟩ := I5.tuple hx
    have hlen := r.length
    show wpAny (model X.prog X.w) X.A (subscriptTail e (.Slice none none (some (.UnaryOp .USub (.Constant (.int 1) k p1) p2)) p3) (.ref a) (.ref s4.heap.objs.size)) (EP X pins σ Q) X.xe { s4 with heap := s4.heap.push { cls := .type "slice", data := .fields #[vl, vu, vs] } }
    refine tail_any (ops := [.ref a, .ref s4.heap.objs.size]) ht.typeIs (PyProof.Rows.slot_tuple_getitem.lookup) ?_ (by with_unfolding_all rfl)
    refine getItem_tuple_rev ht (Heap.IsSliceOf.new _ vl vu vs) pl pu ps ?_ (by rw [List.size_toArray]; omega)
    refine ⟨.ref _, _, I5.laid (t' := s4.toks) (o := .tup xs.reverse) (fun b ob q => Heap.get?_push_of_some _ q) (Nat.le_refl _) ?_, rfl, q _ (I5.hok.fresh (Nat.le_refl _))⟩
    exact ⟨by rw [List.length_reverse]; exact hz, _, r.reverse, IsTup.new _ _⟩
end WW
/-! 6: subscripts, built-in functions. -/
namespace WW
open PySem PySem.Spec PyProof.Rows L2
/-! ### subscripts -/
inductive LsAt (K : PySem.W.Frag) (Z : Spx) (M : List Addr) (H : Hp) : V → List D → Prop
  | mk {a : Addr} {vs : List V} {ds : List D} : SqL K H a vs → RDs K Z M H vs ds → LsAt K Z M H (.ref a) ds
theorem RW.lsl {K : PySem.W.Frag} {Z : Spx} {M : List Addr} {H : Hp} {v : V} {ds : List D} (r : RW K Z M H v (.lst ds)) : LsAt K Z M H v ds := by
  obtain ⟨a, vs, rfl, h, q⟩ := r.lst
  exact .mk (.inl (.inl h)) q
theorem RW.lsk {K : PySem.W.Frag} {Z : Spx} {M : List Addr} {H : Hp} {v : V} {ds : List D} (r : RW K Z M H v (.lok ds)) : LsAt K Z M H v ds := by
  cases r with
  | rd r =>
    cases r with
    | lok h q => exact .mk h.sql q
theorem IxR.cases {X : Cx} {r : R2} (h : ∀ x y H Q, r x y H Q → ∃ r', IxR X r' ∧ r' x y H Q) : IxR X r := fun a b p s σ H x y v u Q I rx ry q hs => by
  obtain ⟨r', o, q'⟩ := h x y H Q q
  exact o a b p s σ H x y v u Q I rx ry q' hs
theorem RDs.atI {K : PySem.W.Frag} {Z : Spx} {M : List Addr} {H : Hp} {vs : List V} {ds : List D} (r : RDs K Z M H vs ds) {i : Int} {d : D} (e : L2.atI ds i = some d) : ∃ v, L2.atI vs i = some v ∧ RD K Z M H v d := by
  unfold L2.atI at e ⊢
  rw [r.length]
  cases q : ixN ds.length i with
  | none => rw [q] at e; cases e
  | some j =>
    rw [q] at e
    exact r.get e
section
variable {g : Gx} {X : Cx} {c : Cs} {k : Nat} {Z : Spx}
theorem ixr (hK : X.K = g.K) : IxR X (r2 g Z ixD) := by
  refine IxR.cases fun x y H Q q => ?_
  obtain ⟨M, h, a, b, d, R, ra, rb, e, kk⟩ := q
  unfold ixD at e
  split at e
  · obtain rfl := rb.int
    split at e
    · obtain ⟨p, vs, rfl, tp, rp⟩ := ra.tup
      obtain ⟨v, e1, r1⟩ := rp.atI e
      exact ⟨_, ix_tup, p, vs, _, v, rfl, rfl, by rw [hK]; exact tp.sqt, e1, kk M H v (Ext.refl _ _) R r1⟩
    · cases ra.lsl with
      | mk hq rp =>
        obtain ⟨v, e1, r1⟩ := rp.atI e
        exact ⟨_, ix_list, _, _, _, v, rfl, rfl, by rw [hK]; exact hq, e1, kk M H v (Ext.refl _ _) R r1⟩
    · cases ra.lsk with
      | mk hq rp =>
        obtain ⟨v, e1, r1⟩ := rp.atI e
        exact ⟨_, ix_list, _, _, _, v, rfl, rfl, by rw [hK]; exact hq, e1, kk M H v (Ext.refl _ _) R r1⟩
    · obtain rfl := ra.str
      rename_i z
      by_cases hl : z.length ≤ sizeLine
      · rw [if_pos hl] at e
        obtain ⟨cc, e1, rfl⟩ := Option.map_eq_some_iff.mp e
        exact ⟨_, ix_str, _, _, cc, rfl, rfl, hl, e1, kk M H _ (Ext.refl _ _) R (.str _)⟩
      · rw [if_neg hl] at e; cases e
    · cases e
  · cases e
theorem qe_ix (C : CxOk g X c k) {a b : Expr} {ma mb : ME D} {pos : Pos} (ha : QE g X c ma a) (hb : QE g X c mb b) (hs : PlainIx b) : QE g X c (mIx ma mb) (.Subscript a b pos) :=
  qe_v2 (pe_ix (ixr C.hK) ha hb hs)
/-! ### slices -/
def rS (g : Gx) (Z : Spx) : V → Option Int → Option Int → Hp → VK → Prop := fun x lo hi H Q => ∃ M h a d, RelH g Z M H h ∧ RW g.K Z M H x a ∧ slD a lo hi = some d ∧
  ∀ M' H' v, Ext M H M' H' → RelH g Z M' H' h → RD g.K Z M' H' v d → Q v H'
theorem cut_rd {K : PySem.W.Frag} {M : List Addr} {H : Hp} {vs : List V} {ds : List D} (r : RDs K Z M H vs ds) (lo hi : Option Int) : RDs K Z M H (cutV vs lo hi) (cutD ds lo hi) := by
  unfold cutV cutD
  rw [r.length]
  exact (r.drop _).take _
theorem SlR.cases {r : V → Option Int → Option Int → Hp → VK → Prop} (h : ∀ x lo hi H Q, r x lo hi H Q → ∃ r', SlR X r' ∧ r' x lo hi H Q) : SlR X r := fun p s σ H x v vl vu lo hi sl Q I rx hs pl pu q => by
  obtain ⟨r', o, q'⟩ := h x lo hi H Q q
  exact o p s σ H x v vl vu lo hi sl Q I rx hs pl pu q'
theorem slr (hK : X.K = g.K) : SlR X (rS g Z) := by
  refine SlR.cases fun x lo hi H Q q => ?_
  obtain ⟨M, h, a, d, R, ra, e, kk⟩ := q
  unfold slD at e
  split at e
  · rename_i xs
    cases e
    obtain ⟨p, vs, rfl, tp, rp⟩ := ra.tup
    refine ⟨_, sl_tupA, p, vs, rfl, by rw [hK]; exact tp.sqt, fun hw => ?_, fun hw q hq => ?_⟩
    · refine kk M H _ (Ext.refl _ _) R (.tup tp ?_)
      unfold cutD
      rw [← rp.length, hw.1, hw.2, List.drop_zero, Nat.sub_zero, rp.length, List.take_length]
      exact rp
    · exact kk M _ _ (Ext.upd hq) (R.alloc hq) (.tup (.tup upd_same (R.fresh hq)) ((cut_rd rp lo hi).mono (Ext.upd hq)))
  · cases e
    cases ra.lsl with
    | mk hs rp =>
      exact ⟨_, sl_list, _, _, rfl, by rw [hK]; exact hs, fun q hq => kk M _ _ (Ext.upd hq) (R.alloc hq) (.lst upd_same (R.fresh hq) ((cut_rd rp lo hi).mono (Ext.upd hq)))⟩
  · obtain ⟨hl, rfl⟩ := ite_some e
    obtain rfl := ra.str
    exact ⟨_, sl_str, _, rfl, hl, kk M H _ (Ext.refl _ _) R (.str _)⟩
  · cases e
abbrev rO : RR (Option Int) (Option Int) := fun _ _ a b => a = b
abbrev QO (g : Gx) (X : Cx) (c : Cs) (m : ME (Option Int)) (e : Option Expr) : Prop := PO X e (rd g c rO m)
theorem PO.imp {e : Option Expr} {t t' : TO} (h : PO X e t) (w : ∀ σ H Q, t' σ H Q → t σ H Q) : PO X e t' := ⟨fun p s σ H Q I q => h.run p s σ H Q I (w σ H Q q)⟩
theorem qo_none : QO g X c mNoP none := PO.imp po_none fun σ H Q ⟨M, l, h, R, L, p⟩ => p.ok R rfl
theorem qo_some {e : Expr} {m : ME D} (h : QE g X c m e) : QO g X c (mP m) (some e) := by
  refine PO.imp (po_some h) fun σ H Q q => ?_
  obtain ⟨M, l, hh, R, L, p⟩ := q
  refine rd_bind R L p fun M1 H1 h1 x a e1 R1 L1 r1 p1 => ?_
  cases a with
  | int i => cases r1; exact ⟨i, rfl, p1.ok R1 rfl⟩
  | _ => exact p1.elim
theorem qe_sl (C : CxOk g X c k) {a : Expr} {lo hi : Option Expr} {ma : ME D} {ml mh : ME (Option Int)} {p2 pos : Pos} (ha : QE g X c ma a) (hl : QO g X c ml lo) (hh : QO g X c mh hi) :
    QE g X c (mSl ma ml mh) (.Subscript a (.Slice lo hi none p2) pos) := by
  refine PE.imp (pe_slice (slr (Z := c.Z) C.hK) ha hl hh) fun σ H Q q => ?_
  obtain ⟨M, l, h, R, L, p⟩ := q
  refine rd_bind R L p fun M1 H1 h1 x a e1 R1 L1 r1 p1 => ?_
  refine rd_bind R1 L1 p1 fun M2 H2 h2 y b e2 R2 L2 r2' p2 => ?_
  refine rd_bind R2 L2 p2 fun M3 H3 h3 z b' e3 R3 L3 r3 p3 => ?_
  cases r2'; cases r3
  cases e : slD (vw h3 a) y z with
  | none =>
    have p3 : Post g c.Z c.W (rD g c) M3 H3 σ (match slD (vw h3 a) y z with | some d => .ok d h3 | none => .bad) Q := p3
    rw [e] at p3; exact p3.elim
  | some d =>
    have p3 : Post g c.Z c.W (rD g c) M3 H3 σ (match slD (vw h3 a) y z with | some d => .ok d h3 | none => .bad) Q := p3
    rw [e] at p3
    exact ⟨M3, h3, vw h3 a, d, R3, .of R3 (r1.mono (e2.trans e3)), e, p3⟩
def mRev (a : ME D) : ME D := mBind a fun x => fun _ h => match vw h x with
  | .tup xs => .ok (.tup xs.reverse) h
  | .lst xs => .ok (.lst xs.reverse) h
  | _ => .bad
theorem qe_rev (C : CxOk g X c k) {e : Expr} {m : ME D} {j : Nat} {p1 p2 p3 pos : Pos} (h : QE g X c m e) : QE g X c (mRev m) (.Subscript e (.Slice none none (some (.UnaryOp .USub (.Constant (.int 1) j p1) p2)) p3) pos) := by
  refine PE.imp (pe_revA h) fun σ H Q q => ?_
  obtain ⟨M, l, hh, R, L, p⟩ := q
  refine rd_bind R L p fun M1 H1 h1 x a e1 R1 L1 r1 p1 => ?_
  have ra := RW.of R1 r1
  generalize vw h1 a = d at ra p1
  cases d with
  | tup xs =>
    obtain ⟨p, vs, rfl, tp, rp⟩ := ra.tup
    exact .inr ⟨p, vs, rfl, by rw [C.hK]; exact tp.sqt, fun q hq => p1.okx (Ext.upd hq) (R1.alloc hq) (.tup (.tup upd_same (R1.fresh hq)) (rp.reverse.mono (Ext.upd hq)))⟩
  | lst xs =>
    cases ra.lsl with
    | mk hs rp => exact .inl ⟨_, _, rfl, by rw [C.hK]; exact hs, fun q hq => p1.okx (Ext.upd hq) (R1.alloc hq) (.lst upd_same (R1.fresh hq) (rp.reverse.mono (Ext.upd hq)))⟩
  | _ => exact p1.elim
/-! ### built-in functions -/
abbrev RWs (K : PySem.W.Frag) (Z : Spx) (M : List Addr) (H : Hp) : List V → List D → Prop := Paired (RW K Z M H)
theorem RWs.of {M : List Addr} {H : Hp} {h : Hh} (R : RelH g Z M H h) : ∀ {vs : List V} {ds : List D}, RDs g.K Z M H vs ds → RWs g.K Z M H vs (ds.map (vw h))
  | _, _, .nil => .nil
  | _, _, .cons r t => .cons (.of R r) (RWs.of R t)
/-- what a built-in is asked: its deep value -/
def rc (g : Gx) (Z : Spx) (f : List D → Option D) : List V → Hp → VK → Prop := fun xs H Q => ∃ M h ds d, RelH g Z M H h ∧ RWs g.K Z M H xs ds ∧ f ds = some d ∧
  ∀ M' H' v, Ext M H M' H' → RelH g Z M' H' h → RD g.K Z M' H' v d → Q v H'
def mBi (f : List D → Option D) (as : ME (List D)) : ME D := mBind as fun xs => fun _ h => match f (xs.map (vw h)) with
  | some d => .ok d h
  | none => .bad
theorem CallR.cases {f : Value} {r : List V → Hp → VK → Prop} (h : ∀ xs H Q, r xs H Q → ∃ r', CallR X f r' ∧ r' xs H Q) : CallR X f r := fun p s σ H xs us Q I rx q => by
  obtain ⟨r', o, q'⟩ := h xs H Q q
  exact o p s σ H xs us Q I rx q'
theorem qe_bi {e : Expr} {f : List D → Option D} {ms : ME (List D)} (h : PE X e (tCB (rc g c.Z f) (rd g c (rDs g c) ms))) : QE g X c (mBi f ms) e := by
  refine PE.imp h fun σ H Q q => ?_
  obtain ⟨M, l, hh, R, L, p⟩ := q
  refine rd_bind R L p fun M1 H1 h1 x a e1 R1 L1 r1 p1 => ?_
  try dsimp only at p1
  cases e : f (a.map (vw h1)) with
  | none => rw [e] at p1; exact p1.elim
  | some d =>
    rw [e] at p1
    exact ⟨M1, h1, a.map (vw h1), d, R1, .of R1 r1, e, p1⟩
def fLen : List D → Option D
  | [.tup xs] => some (.int xs.length)
  | [.lst xs] => some (.int xs.length)
  | [.lok xs] => some (.int xs.length)
  | [.str x] => if x.length ≤ sizeLine then some (.int x.length) else none
  | _ => none
theorem rws1 {K : PySem.W.Frag} {M : List Addr} {H : Hp} {xs : List V} {d : D} (r : RWs K Z M H xs [d]) : ∃ v, xs = [v] ∧ RW K Z M H v d := by
  cases r with
  | cons r t => cases t; exact ⟨_, rfl, r⟩
theorem rws2 {K : PySem.W.Frag} {M : List Addr} {H : Hp} {xs : List V} {d d' : D} (r : RWs K Z M H xs [d, d']) : ∃ v w, xs = [v, w] ∧ RW K Z M H v d ∧ RW K Z M H w d' := by
  cases r with
  | cons r t => cases t with
    | cons r' t => cases t; exact ⟨_, _, rfl, r, r'⟩
theorem cr_len (hK : X.K = g.K) : CallR X (.builtin "len") (rc g Z fLen) := by
  refine CallR.cases fun xs H Q q => ?_
  obtain ⟨M, h, ds, d, R, ra, e, kk⟩ := q
  unfold fLen at e
  split at e
  · cases e
    obtain ⟨v, rfl, rv⟩ := rws1 ra
    obtain ⟨p, vs, rfl, tp, rp⟩ := rv.tup
    exact ⟨_, call_len_seq, p, vs, rfl, .inr (by rw [hK]; exact tp.sqt), by rw [rp.length]; exact kk M H _ (Ext.refl _ _) R (.int _)⟩
  · cases e
    obtain ⟨v, rfl, rv⟩ := rws1 ra
    cases rv.lsl with
    | mk hq rp => exact ⟨_, call_len_seq, _, _, rfl, .inl (by rw [hK]; exact hq), by rw [rp.length]; exact kk M H _ (Ext.refl _ _) R (.int _)⟩
  · cases e
    obtain ⟨v, rfl, rv⟩ := rws1 ra
    cases rv.lsk with
    | mk hq rp => exact ⟨_, call_len_seq, _, _, rfl, .inl (by rw [hK]; exact hq), by rw [rp.length]; exact kk M H _ (Ext.refl _ _) R (.int _)⟩
  · obtain ⟨hl, rfl⟩ := ite_some e
    obtain ⟨v, rfl, rv⟩ := rws1 ra
    obtain rfl := rv.str
    exact ⟨_, call_len, _, _, rfl, ⟨hl, rfl⟩, kk M H _ (Ext.refl _ _) R (.int _)⟩
  · cases e
def fTup : List D → Option D
  | [.tup xs] => some (.tup xs)
  | [.lst xs] => some (.tup xs)
  | _ => none
theorem cr_tup (hK : X.K = g.K) : CallR X (.type "tuple") (rc g Z fTup) := by
  refine CallR.cases fun xs H Q q => ?_
  obtain ⟨M, h, ds, d, R, ra, e, kk⟩ := q
  unfold fTup at e
  split at e
  · cases e
    obtain ⟨v, rfl, rv⟩ := rws1 ra
    obtain ⟨p, vs, rfl, tp, rp⟩ := rv.tup
    exact ⟨_, call_tuple_of, p, vs, rfl, .inr ⟨by rw [hK]; exact tp.sqt, kk M H _ (Ext.refl _ _) R (.tup tp rp)⟩⟩
  · cases e
    obtain ⟨v, rfl, rv⟩ := rws1 ra
    cases rv.lsl with
    | mk hq rp => exact ⟨_, call_tuple_of, _, _, rfl, .inl ⟨by rw [hK]; exact hq, fun l hl => kk M _ _ (Ext.upd hl) (R.alloc hl) (.tup (.tup upd_same (R.fresh hl)) (rp.mono (Ext.upd hl)))⟩⟩
  · cases e
/-- list(x): a new list -/
def mList (m : ME D) : ME (List D) := mBind m fun x => fun _ h => match vw h x with
  | .tup xs => .ok xs h
  | .lst xs => .ok xs h
  | .lok xs => .ok xs h
  | _ => .bad
def fInt : List D → Option D
  | [.int i] => some (.int i)
  | [.bl b] => some (.int (if b then 1 else 0))
  | _ => none
theorem cr_int : CallR X (.type "int") (rc g Z fInt) := by
  refine CallR.cases fun xs H Q q => ?_
  obtain ⟨M, h, ds, d, R, ra, e, kk⟩ := q
  unfold fInt at e
  split at e
  · cases e
    obtain ⟨v, rfl, rv⟩ := rws1 ra
    obtain rfl := rv.int
    exact ⟨_, call_int1, .inl ⟨_, rfl, kk M H _ (Ext.refl _ _) R (.int _)⟩⟩
  · cases e
    obtain ⟨v, rfl, rv⟩ := rws1 ra
    obtain rfl := rv.bl
    exact ⟨_, call_int1, .inr ⟨_, rfl, kk M H _ (Ext.refl _ _) R (.int _)⟩⟩
  · cases e
def fAbs : List D → Option D
  | [.int i] => some (.int (if i < 0 then -i else i))
  | _ => none
theorem cr_abs : CallR X (.builtin "abs") (rc g Z fAbs) := by
  refine CallR.cases fun xs H Q q => ?_
  obtain ⟨M, h, ds, d, R, ra, e, kk⟩ := q
  unfold fAbs at e
  split at e
  · cases e
    obtain ⟨v, rfl, rv⟩ := rws1 ra
    obtain rfl := rv.int
    exact ⟨_, call_abs, _, rfl, kk M H _ (Ext.refl _ _) R (.int _)⟩
  · cases e
def fMax : List D → Option D
  | [.int i, .int j] => some (.int (if j > i then j else i))
  | _ => none
def fMin : List D → Option D
  | [.int i, .int j] => some (.int (if j < i then j else i))
  | _ => none
theorem cr_max (hc : X.calm = true) : CallR X (.builtin "max") (rc g Z fMax) := by
  refine CallR.cases fun xs H Q q => ?_
  obtain ⟨M, h, ds, d, R, ra, e, kk⟩ := q
  unfold fMax at e
  split at e
  · cases e
    obtain ⟨v, w, rfl, rv, rw'⟩ := rws2 ra
    obtain rfl := rv.int
    obtain rfl := rw'.int
    exact ⟨_, call_max2 hc, _, _, rfl, kk M H _ (Ext.refl _ _) R (.int _)⟩
  · cases e
theorem cr_min (hc : X.calm = true) : CallR X (.builtin "min") (rc g Z fMin) := by
  refine CallR.cases fun xs H Q q => ?_
  obtain ⟨M, h, ds, d, R, ra, e, kk⟩ := q
  unfold fMin at e
  split at e
  · cases e
    obtain ⟨v, w, rfl, rv, rw'⟩ := rws2 ra
    obtain rfl := rv.int
    obtain rfl := rw'.int
    exact ⟨_, call_min2 hc, _, _, rfl, kk M H _ (Ext.refl _ _) R (.int _)⟩
  · cases e
def fStr : List D → Option D
  | [.int i] => if i.natAbs.log2 < 1920 then some (.str (toString i)) else none
  | [.str x] => some (.str x)
  | _ => none
theorem cr_str : CallR X (.type "str") (rc g Z fStr) := by
  refine CallR.cases fun xs H Q q => ?_
  obtain ⟨M, h, ds, d, R, ra, e, kk⟩ := q
  unfold fStr at e
  split at e
  · obtain ⟨hl, rfl⟩ := ite_some e
    obtain ⟨v, rfl, rv⟩ := rws1 ra
    obtain rfl := rv.int
    exact ⟨_, call_str_int, _, rfl, hl, kk M H _ (Ext.refl _ _) R (.str _)⟩
  · cases e
    obtain ⟨v, rfl, rv⟩ := rws1 ra
    obtain rfl := rv.str
    exact ⟨_, SkE.call_str_str, _, rfl, kk M H _ (Ext.refl _ _) R (.str _)⟩
  · cases e
/-- bools of a list -/
def blsD : List D → Option (List Bool)
  | [] => some []
  | .bl b :: r => (blsD r).map (b :: ·)
  | _ => none
theorem RDs.bls {K : PySem.W.Frag} {M : List Addr} {H : Hp} : ∀ {vs : List V} {ds : List D} {bs : List Bool}, RDs K Z M H vs ds → blsD ds = some bs → vs = bs.map V.bl
  | _, _, _, .nil, e => by cases e; rfl
  | _, _, bs, .cons (d := d) r t, e => by
    cases d with
    | bl b =>
      obtain ⟨bs', e1, rfl⟩ := Option.map_eq_some_iff.mp (show (blsD _).map (b :: ·) = some bs from e)
      cases r
      rw [RDs.bls t e1]; rfl
    | _ => cases e
def intsD : List D → Option (List Int)
  | [] => some []
  | .int b :: r => (intsD r).map (b :: ·)
  | _ => none
theorem RDs.intsv {K : PySem.W.Frag} {M : List Addr} {H : Hp} : ∀ {vs : List V} {ds : List D} {bs : List Int}, RDs K Z M H vs ds → intsD ds = some bs → vs = bs.map V.int
  | _, _, _, .nil, e => by cases e; rfl
  | _, _, bs, .cons (d := d) r t, e => by
    cases d with
    | int b =>
      obtain ⟨bs', e1, rfl⟩ := Option.map_eq_some_iff.mp (show (intsD _).map (b :: ·) = some bs from e)
      cases r
      rw [RDs.intsv t e1]; rfl
    | _ => cases e
def fAll : List D → Option D
  | [.lst xs] => (blsD xs).map fun bs => .bl (bs.all id)
  | _ => none
def fAny : List D → Option D
  | [.lst xs] => (blsD xs).map fun bs => .bl (bs.any id)
  | _ => none
def fSum : List D → Option D
  | [.lst xs] => (intsD xs).map fun bs => .int bs.sum
  | _ => none
theorem cr_allD (hK : X.K = g.K) (hc : X.calm = true) : CallR X (.builtin "all") (rc g Z fAll) := by
  refine CallR.cases fun xs H Q q => ?_
  obtain ⟨M, h, ds, d, R, ra, e, kk⟩ := q
  unfold fAll at e
  split at e
  · obtain ⟨bs, e1, rfl⟩ := Option.map_eq_some_iff.mp e
    obtain ⟨v, rfl, rv⟩ := rws1 ra
    cases rv.lsl with
    | mk hq rp =>
      obtain rfl := rp.bls e1
      exact ⟨_, cr_all hc, _, _, rfl, by rw [hK]; exact hq, kk M H _ (Ext.refl _ _) R (.bl _)⟩
  · cases e
theorem cr_anyD (hK : X.K = g.K) (hc : X.calm = true) : CallR X (.builtin "any") (rc g Z fAny) := by
  refine CallR.cases fun xs H Q q => ?_
  obtain ⟨M, h, ds, d, R, ra, e, kk⟩ := q
  unfold fAny at e
  split at e
  · obtain ⟨bs, e1, rfl⟩ := Option.map_eq_some_iff.mp e
    obtain ⟨v, rfl, rv⟩ := rws1 ra
    cases rv.lsl with
    | mk hq rp =>
      obtain rfl := rp.bls e1
      exact ⟨_, cr_any hc, _, _, rfl, by rw [hK]; exact hq, kk M H _ (Ext.refl _ _) R (.bl _)⟩
  · cases e
theorem cr_sumD (hK : X.K = g.K) (hc : X.calm = true) : CallR X (.builtin "sum") (rc g Z fSum) := by
  refine CallR.cases fun xs H Q q => ?_
  obtain ⟨M, h, ds, d, R, ra, e, kk⟩ := q
  unfold fSum at e
  split at e
  · obtain ⟨bs, e1, rfl⟩ := Option.map_eq_some_iff.mp e
    obtain ⟨v, rfl, rv⟩ := rws1 ra
    cases rv.lsl with
    | mk hq rp =>
      obtain rfl := rp.intsv e1
      exact ⟨_, cr_sum hc, _, _, rfl, by rw [hK]; exact hq, kk M H _ (Ext.refl _ _) R (.int _)⟩
  · cases e
end
end WW
/-! 7: repr, isinstance. -/
namespace WW
open PySem PySem.Spec PyProof.Rows L2
mutual
/-- data at any depth, dicts too -/
def D.lay : D → Bool
  | .non | .bl _ | .int _ | .str _ => true
  | .tup xs | .lst xs => D.lays xs
  | .dic kvs => D.layk kvs
  | _ => false
def D.lays : List D → Bool
  | [] => true
  | x :: xs => x.lay && D.lays xs
def D.layk : List (Key × D) → Bool
  | [] => true
  | (_, v) :: r => v.lay && D.layk r
end
section
variable {X : Cx} {pins : List (Addr × Obj)} {σ : L2.St} {H : Hp} {s : Shared} {K : PySem.W.Frag} {Z : Spx} {M : List Addr}
theorem not_sys (I : Inv X pins σ H s) (hs : ∃ o, X.base.get? sysModules = some o) {a : Addr} {u : HO} (e : H a = some u) : a ≠ sysModules := by
  rintro rfl
  obtain ⟨o, ho⟩ := hs
  have := (I.bs _ _ ho).2
  rw [e] at this; cases this
theorem readsAll_append {h : Heap} : ∀ {us ws : List Value} {ds es : List PyData} {as bs : List Addr}, ReadsAll h us ds as → ReadsAll h ws es bs → ∃ cs, ReadsAll h (us ++ ws) (ds ++ es) cs ∧ ∀ x ∈ cs, x ∈ as ∨ x ∈ bs
  | _, _, _, _, _, bs, .nil, r => ⟨bs, r, fun x hx => .inr hx⟩
  | _, _, _, _, _, bs, .cons a t, r => by
    obtain ⟨cs, h1, h2⟩ := readsAll_append t r
    refine ⟨_, .cons a h1, fun x hx => ?_⟩
    rcases List.mem_append.mp hx with z | z
    · exact .inl (List.mem_append_left _ z)
    · rcases h2 x z with z | z
      · exact .inl (List.mem_append_right _ z)
      · exact .inr z
def kPy : Key → PyData
  | .inl i => .int i
  | .inr x => .str x
theorem key_reads {h : Heap} {k : Key} {v : Value} (e : keyIs k v = true) : Reads h v (kPy k) [] := by
  rcases keyIs_shape e with ⟨i, t, rfl, rfl⟩ | ⟨x, t, rfl, rfl⟩
  · exact .int i t
  · exact .str x t
theorem key_readsAll {h : Heap} : ∀ {es : List DictEntry} {vs : List (Key × Value)}, Pairs (mixKind X.prog X.w) es vs → ReadsAll h (es.map (·.key)) (vs.map fun kv => kPy kv.1) []
  | _, _, .nil => .nil
  | _, _, .cons (e := e) (kv := kv) h1 h2 t => by
    have q := key_readsAll (h := h) t
    have r := key_reads (h := h) (k := kv.1) (v := e.key) (by rw [← mixKind_is X.prog X.w]; exact h1)
    have := ReadsAll.cons r q
    exact this
theorem pairs_val : ∀ {es : List DictEntry} {vs : List (Key × Value)}, Pairs (mixKind X.prog X.w) es vs → es.map (·.val) = vs.map (·.2)
  | _, _, .nil => rfl
  | _, _, .cons h1 h2 t => by rw [List.map_cons, List.map_cons, h2, pairs_val t]
theorem pyk_keys : ∀ (kds : List (Key × D)), (D.pyk kds).map (·.1) = kds.map fun kv => kPy kv.1
  | [] => by unfold D.pyk; rfl
  | (.inl i, v) :: r => by unfold D.pyk; rw [List.map_cons, List.map_cons, pyk_keys r]; rfl
  | (.inr i, v) :: r => by unfold D.pyk; rw [List.map_cons, List.map_cons, pyk_keys r]; rfl
theorem pyk_vals : ∀ (kds : List (Key × D)), (D.pyk kds).map (·.2) = D.pys (kds.map (·.2))
  | [] => by unfold D.pyk D.pys; rfl
  | (.inl i, v) :: r => by unfold D.pyk; rw [List.map_cons, List.map_cons]; unfold D.pys; rw [pyk_vals r]
  | (.inr i, v) :: r => by unfold D.pyk; rw [List.map_cons, List.map_cons]; unfold D.pys; rw [pyk_vals r]
theorem kv_keys {kvs : List (Key × V)} {vs : List (Key × Value)} (r : KV kvs vs) : vs.map (·.1) = kvs.map (·.1) := by
  induction r with
  | nil => rfl
  | cons h t ih => rw [List.map_cons, List.map_cons, ih, h.1]
theorem kv_vals {kvs : List (Key × V)} {vs : List (Key × Value)} (r : KV kvs vs) : Vals (kvs.map (·.2)) (vs.map (·.2)) := by
  induction r with
  | nil => exact .nil
  | cons h t ih => exact .cons h.2 ih
theorem RDk.keys : ∀ {kvs : List (Key × V)} {kds : List (Key × D)}, RDk K Z M H kvs kds → kvs.map (·.1) = kds.map (·.1)
  | _, _, .nil => rfl
  | _, _, .cons _ t => by rw [List.map_cons, List.map_cons, RDk.keys t]
mutual
theorem RD.reads (I : Inv X pins σ H s) (hK : X.K = K) (hs : ∃ o, X.base.get? sysModules = some o) : ∀ {v : V} {d : D} {u : Value}, RD K Z M H v d → d.lay = true → RelV v u → ∃ as, Reads s.heap u d.py as ∧ sysModules ∉ as
  | _, _, _, .non, _, r => by cases r; unfold D.py; exact ⟨_, .none, by simp⟩
  | _, _, _, .bl b, _, r => by cases r; unfold D.py; exact ⟨_, .bool b, by simp⟩
  | _, _, _, .int i, _, r => by obtain ⟨t, rfl⟩ := r; unfold D.py; exact ⟨_, .int i t, by simp⟩
  | _, _, _, .str x, _, r => by obtain ⟨t, rfl⟩ := r; unfold D.py; exact ⟨_, .str x t, by simp⟩
  | _, _, _, .tup t q, h, r => by
    cases r
    obtain ⟨its, rv, ⟨o, ho, hc, n, hd⟩, _⟩ := I.tuple (by rw [hK]; exact t.sqt)
    obtain ⟨as, h1, h2⟩ := RDs.reads I hK hs q (by unfold D.lay at h; exact h) rv
    unfold D.py
    exact ⟨_, .tuple ho hc hd h1, h2⟩
  | _, _, _, .lst t n q, h, r => by
    cases r
    obtain ⟨its, rv, ⟨o, n', ho, hc, _, hd⟩, _⟩ := I.list (.inl (.inl t))
    obtain ⟨as, h1, h2⟩ := RDs.reads I hK hs q (by unfold D.lay at h; exact h) rv
    unfold D.py
    refine ⟨_, .list ho hc hd h1, fun z => ?_⟩
    rcases List.mem_cons.mp z with z | z
    · exact not_sys I hs t z.symm
    · exact h2 z
  | _, _, _, .dic (kvs := kvs) (kds := kds) t n q, h, r => by
    cases r
    obtain ⟨_, _, vs, kv, ob, es, ep, e1, e2, e3, e4, e5, _⟩ := I.hok _ _ t
    obtain ⟨as, h1, h2⟩ := RDk.reads I hK hs q (by unfold D.lay at h; exact h) (kv_vals kv)
    unfold D.py
    refine ⟨_, .dict (as := []) (bs := as) e1 e2.1 e3 ?_ ?_, fun z => ?_⟩
    · rw [pyk_keys]
      have := key_readsAll (h := s.heap) e5
      have e : (vs.map fun kv => kPy kv.1) = kds.map fun kv => kPy kv.1 := by
        have q1 : vs.map (·.1) = kds.map (·.1) := (kv_keys kv).trans q.keys
        have q2 := congrArg (List.map kPy) q1
        rw [List.map_map, List.map_map] at q2
        exact q2
      rw [← e]
      exact this
    · rw [pairs_val e5, pyk_vals]
      exact h1
    · rcases List.mem_cons.mp z with z | z
      · exact not_sys I hs t z.symm
      · exact h2 (by simpa using z)
  | _, _, _, .lok _ _, h, _ => by unfold D.lay at h; cases h
  | _, _, _, .ref _, h, _ => by unfold D.lay at h; cases h
  | _, _, _, .thk _, h, _ => by unfold D.lay at h; cases h
  | _, _, _, .exo _, h, _ => by unfold D.lay at h; cases h
theorem RDs.reads (I : Inv X pins σ H s) (hK : X.K = K) (hs : ∃ o, X.base.get? sysModules = some o) : ∀ {vs : List V} {ds : List D} {us : List Value}, RDs K Z M H vs ds → D.lays ds = true → Vals vs us → ∃ as, ReadsAll s.heap us (D.pys ds) as ∧ sysModules ∉ as
  | _, _, _, .nil, _, r => by cases r; unfold D.pys; exact ⟨_, .nil, by simp⟩
  | _, _, _, .cons q t, h, r => by
    cases r with
    | cons r1 r2 =>
      unfold D.lays at h
      obtain ⟨h1, h2⟩ := Bool.and_eq_true_iff.mp h
      obtain ⟨as, a1, a2⟩ := RD.reads I hK hs q h1 r1
      obtain ⟨bs, b1, b2⟩ := RDs.reads I hK hs t h2 r2
      unfold D.pys
      exact ⟨_, .cons a1 b1, fun z => (List.mem_append.mp z).elim a2 b2⟩
theorem RDk.reads (I : Inv X pins σ H s) (hK : X.K = K) (hs : ∃ o, X.base.get? sysModules = some o) : ∀ {vs : List (Key × V)} {ds : List (Key × D)} {us : List Value}, RDk K Z M H vs ds → D.layk ds = true → Vals (vs.map (·.2)) us → ∃ as, ReadsAll s.heap us (D.pys (ds.map (·.2))) as ∧ sysModules ∉ as
  | _, _, _, .nil, _, r => by
    have r : Vals [] _ := r
    cases r; unfold D.pys; exact ⟨_, .nil, by simp⟩
  | _, _, _, .cons (v := v) q t, h, r => by
    have r : Vals (v :: _) _ := r
    cases r with
    | cons r1 r2 =>
      unfold D.layk at h
      obtain ⟨h1, h2⟩ := Bool.and_eq_true_iff.mp h
      obtain ⟨as, a1, a2⟩ := RD.reads I hK hs q h1 r1
      obtain ⟨bs, b1, b2⟩ := RDk.reads I hK hs t h2 r2
      rw [List.map_cons]
      unfold D.pys
      exact ⟨_, .cons a1 b1, fun z => (List.mem_append.mp z).elim a2 b2⟩
end
end
def fRepr : List D → Option D
  | [x] => if (x.lay && x.py.showable && decide (x.py.shown.length ≤ sizeLine) && decide (x.py.depth ≤ 64)) = true then some (.str x.py.shown) else none
  | _ => none
section
variable {g : Gx} {X : Cx} {c : Cs} {k : Nat} {Z : Spx}
theorem RW.reads {pins : List (Addr × Obj)} {σ : L2.St} {H : Hp} {s : Shared} {M : List Addr} (I : Inv X pins σ H s) (hK : X.K = g.K) (hs : ∃ o, X.base.get? sysModules = some o) {v : V} {d : D} {u : Value} (r : RW g.K Z M H v d) (h : d.lay = true) (rv : RelV v u) : ∃ as, Reads s.heap u d.py as ∧ sysModules ∉ as := by
  cases r with
  | rd r => exact r.reads I hK hs h rv
  | cell e q =>
    cases rv
    obtain ⟨its, rv, ⟨o, n', ho, hc, _, hd⟩, _⟩ := I.list (.inl (.inl e))
    obtain ⟨as, h1, h2⟩ := q.reads I hK hs (by unfold D.lay at h; exact h) rv
    unfold D.py
    refine ⟨_, .list ho hc hd h1, fun z => ?_⟩
    rcases List.mem_cons.mp z with z | z
    · exact not_sys I hs e z.symm
    · exact h2 z
theorem cr_repr (hK : X.K = g.K) (hs : ∃ o, X.base.get? sysModules = some o) (hg : X.A.guards = some []) (hu : X.A.units + 80 < cLine) : CallR X (.builtin "repr") (rc g Z fRepr) := by
  intro pins s σ H xs us Q I rx q
  obtain ⟨M, h, ds, d, R, ra, e, kk⟩ := q
  unfold fRepr at e
  split at e
  · rename_i x
    obtain ⟨hc, rfl⟩ := ite_some e
    simp only [Bool.and_eq_true, decide_eq_true_eq] at hc
    obtain ⟨⟨⟨h1, h2⟩, h3⟩, h4⟩ := hc
    obtain ⟨v, rfl, rv⟩ := rws1 ra
    obtain ⟨u, rfl, ru⟩ : ∃ u, us = [u] ∧ RelV v u := by
      cases rx with
      | cons a t => cases t; exact ⟨_, rfl, a⟩
    obtain ⟨as, rr, ns⟩ := rv.reads I hK hs h1 ru
    have fin : ∀ (h' : Heap) (u : Tok) (tk : Nat), (∀ b o, s.heap.get? b = some o → h'.get? b = some o) → EP X pins σ Q (.str x.py.shown u) { s with heap := h', toks := tk } := fun h' u tk hk =>
      ⟨.str x.py.shown, H, I.kept hk, ⟨u, rfl⟩, kk M H _ (Ext.refl _ _) R (.str _)⟩
    generalize x.py = dd at *
    have leaf : ∀ (t : Str) (v : Value), (∀ tk, EP X pins σ Q (.str t tk) { s with toks := s.toks + 1 }) → True := fun _ _ _ => trivial
    cases rr with
    | none =>
      exact PySem.P.repr_of_none (fin s.heap _ _ fun _ _ e => e)
    | bool b =>
      exact PySem.P.repr_of_bool (fin s.heap _ _ fun _ _ e => e)
    | int i t =>
      exact PySem.P.repr_of_int (by unfold PyData.showable at h2; exact of_decide_eq_true h2) (fin s.heap _ _ fun _ _ e => e)
    | str y t =>
      exact PySem.P.repr_of_str (fin s.heap _ _ fun _ _ e => e) h3
    | list a1 a2 a3 a4 => exact repr_of_reads' (.list a1 a2 a3 a4) h2 (fun _ => ns) hg (by omega) (fun _ _ e => e) (fun h' u tk hk => fin h' u tk hk) h3
    | tuple a1 a2 a3 a4 => exact repr_of_reads' (.tuple a1 a2 a3 a4) h2 (fun _ => ns) hg (by omega) (fun _ _ e => e) (fun h' u tk hk => fin h' u tk hk) h3
    | dict a1 a2 a3 a4 a5 => exact repr_of_reads' (.dict a1 a2 a3 a4 a5) h2 (fun _ => ns) hg (by omega) (fun _ _ e => e) (fun h' u tk hk => fin h' u tk hk) h3
  · cases e
/-! ### isinstance of a built-in class -/
def tyD : D → Option String
  | .non => some "NoneType"
  | .bl _ => some "bool"
  | .int _ => some "int"
  | .str _ => some "str"
  | .tup _ => some "tuple"
  | .lst _ => some "list"
  | .dic _ => some "dict"
  | _ => none
theorem RW.ty {K : PySem.W.Frag} {M : List Addr} {H : Hp} {v : V} {d : D} {t : String} (r : RW K Z M H v d) (e : tyD d = some t) : TyX K H v (.type t) := by
  cases r with
  | cell h q => cases e; exact .base (.lst h)
  | rd r =>
    cases r with
    | non => cases e; exact .base .non
    | bl b => cases e; exact .base (.bl b)
    | int i => cases e; exact .base (.int i)
    | str x => cases e; exact .base (.str x)
    | tup t q =>
      cases e
      cases t with
      | tup h _ => exact .base (.tup h)
      | wr h =>
        obtain ⟨o, its, n, h1, h2, _⟩ := h
        exact .kTuple h1 h2
    | lst h _ q => cases e; exact .base (.lst h)
    | dic h _ q => cases e; exact .base (.dK h)
    | _ => cases e
/-- isinstance(x, T) -/
def isTy (T t : String) : Bool := t == T || (t == "bool" && T == "int")
def mIsT (T : String) (m : ME D) : ME D := mBind m fun x => fun _ h => match tyD (vw h x) with
  | some t => .ok (.bl (isTy T t)) h
  | none => .bad
def kinds : List String := ["NoneType", "bool", "int", "str", "tuple", "list", "dict"]
theorem kinds_ok : (kinds.all fun t => kinds.all fun T => kitB t T == some (isTy T t)) = true := by decide +kernel
theorem ty_kinds {d : D} {t : String} (e : tyD d = some t) : t ∈ kinds := by
  cases d <;> first | (cases e; decide) | cases e
theorem qe_isT (C : CxOk g X c k) {T : String} {x : Str} {e : Expr} {m : ME D} {p p2 pos : Pos} (hT : T ∈ kinds) (hx : bootBuiltins x = some (.type T)) (hg : c.sc.names.lookup x = some .globalImplicit) (hm : g.mg x = none)
    (hg2 : c.sc.names.lookup ("isinstance" : Str) = some .globalImplicit) (hm2 : g.mg "isinstance" = none) (h : QE g X c m e) (hs : starEach [e, .Name x p2] X.env = (false, eval e X.env) :: starEach [.Name x p2] X.env)
    (hn : x ≠ "__name__") (hdb : (x == ("__debug__" : Str)) = false) :
    QE g X c (mIsT T m) (.Call (.Name "isinstance" p) [e, .Name x p2] [] pos) := by
  have gl : ∀ y : Str, c.sc.names.lookup y = some .globalImplicit → Gl X y := fun y hy => by
    show X.env.scope.names.lookup y = _
    rw [C.hsc]; exact hy
  refine PE.imp (pe_callB (id := "isinstance") call_isi (gl _ hg2) (by rw [C.hmg]; exact hm2) (by decide +kernel)
    (pa_cons h (pa_cons (pe_bltn (v := .ty T) (gl _ hg) (by rw [C.hmg]; exact hm) hx rfl hn hdb) pa_nil (by rfl)) hs) (by decide) (by decide) hs (by rfl)) fun σ H Q q => ?_
  obtain ⟨M, l, hh, R, L, p⟩ := q
  refine rd_bind R L p fun M1 H1 h1 y a e1 R1 L1 r1 p1 => ?_
  cases et : tyD (vw h1 a) with
  | none =>
    have p1 : Post g c.Z c.W (rD g c) M1 H1 σ (match tyD (vw h1 a) with | some t => .ok (.bl (isTy T t)) h1 | none => .bad) Q := p1
    rw [et] at p1; exact p1.elim
  | some t =>
    have p1 : Post g c.Z c.W (rD g c) M1 H1 σ (match tyD (vw h1 a) with | some t => .ok (.bl (isTy T t)) h1 | none => .bad) Q := p1
    rw [et] at p1
    refine ⟨y, .ty T, .type t, .type T, isTy T t, rfl, .ty T, by rw [C.hK]; exact (RW.of R1 r1).ty et, kit_ty ?_, p1.ok R1 (.bl _)⟩
    have := List.all_eq_true.mp (List.all_eq_true.mp kinds_ok t (ty_kinds et)) T hT
    exact eq_of_beq this
end
end WW
/-! 8: defs and their calls. -/
namespace WW
open PySem PySem.Spec PyProof.Rows L2
/-- what a def is worth where no repr is under way, by positional values, however they are bound -/
def FnG (P : Program) (w : World) (K : PySem.W.Frag) (mg : Str → Option Value) (base : Heap) (k : Nat) (f : Addr) (sp : Sp) : Prop :=
  ∀ (A : Around) (outer : List PySem.Env) (s : Shared) (H : Hp) (us : List Value) (vs : List V) (Q : VK) (E : XK), Room k A → A.guards = some [] → Env0 P w K mg base A outer s H → Vals vs us → sp vs H Q E →
    codeAny (model P w) A (.call (.ref f) ⟨us, []⟩) (CR (L2.CX P w) outer P w H s Q E) s
theorem FnG.mono {P : Program} {w : World} {K : PySem.W.Frag} {mg : Str → Option Value} {base : Heap} {j k : Nat} {f : Addr} {sp : Sp} (F : FnG P w K mg base j f sp) (h : j ≤ k) :
    FnG P w K mg base k f sp := fun A outer s H us vs Q E hr => F A outer s H us vs Q E (hr.mono h)
section
variable {X : Cx} {k : Nat} {f : Addr} {sp : Sp} {E : L2.St → XK} {x : Str} {p pos : Pos} {e : Expr} {es : List Expr} {t : TA}
theorem run_g {pins : List (Addr × Obj)} {σ : L2.St} {H : Hp} {s : Shared} {Q : VK} {us : List Value} {vs : List V} (F : FnG X.prog X.w X.K X.mg X.base k f sp) (hr : Room k X.A) (hg : X.A.guards = some [])
    (hx : PassesAt (L2.CX X.prog X.w) X σ (E σ)) (I : Inv X pins σ H s) (r : Vals vs us) (h : sp vs H Q (E σ)) : wpAny (model X.prog X.w) X.A (call (.ref f) us) (EP X pins σ Q) X.xe s := by
  have hrun := F X.A X.stack s H us vs Q (E σ) hr hg I.env0 r h
  refine wpAny_call (codeAny_mono hrun fun r s' hq => ?_)
  match r, hq with
  | .error e, hq => exact hx pins H s e s' I hq
  | .ok (.ret u), hq => exact I.after hq
  | .ok .next, hq => exact hq.elim
  | .ok .brk, hq => exact hq.elim
  | .ok .cont, hq => exact hq.elim
theorem pe_g (F : FnG X.prog X.w X.K X.mg X.base k f sp) (hr : Room k X.A) (hgd : X.A.guards = some []) (hg : Gl X x) (hm : X.mg x = some (.ref f)) (hk : PySem.W.keepIn X.K (.ref f) = true)
    (hx : ∀ σ, PassesAt (L2.CX X.prog X.w) X σ (E σ)) (ha : PA X (e :: es) t) (hdb : (x == ("__debug__" : Str)) = false) (he : starEach (e :: es) X.env = (false, eval e X.env) :: starEach es X.env)
    (hpl : (backTo pos (starEach es X.env)).any (·.1) = false) : PE X (.Call (.Name x p) (e :: es) [] pos) (fun σ H Q => t σ H fun vs H1 => sp vs H1 Q (E σ)) := by
  refine ⟨fun pins s σ H Q I h => wpAny_Call_Name_kw (ld_glob I hg hm ?_ hdb)⟩
  have hargs := thn (ha.run pos pins s σ H _ I h) fun us s1 ⟨vs, H1, I1, r, q⟩ => (⟨I1.kIn, run_g F hr hgd (hx σ) I1 r q⟩ : _ ∧ _)
  exact PySem.W.callWith_K (h₀ := X.base) I.ok.mod.kin hk hargs he hpl
/-- f(e, .., *y) -/
theorem pe_gS (F : FnG X.prog X.w X.K X.mg X.base k f sp) (hr : Room k X.A) (hgd : X.A.guards = some []) (hg : Gl X x) (hm : X.mg x = some (.ref f)) (hk : PySem.W.keepIn X.K (.ref f) = true)
    (hx : ∀ σ, PassesAt (L2.CX X.prog X.w) X σ (E σ)) (ha : PA X (e :: es) t) (hdb : (x == ("__debug__" : Str)) = false) (he : starEach (e :: es) X.env = (false, eval e X.env) :: starEach es X.env)
    (hst : (backTo pos (starEach es X.env)).any (·.1) = true) : PE X (.Call (.Name x p) (e :: es) [] pos) (fun σ H Q => t σ H fun vs H1 => sp vs H1 Q (E σ)) := by
  refine ⟨fun pins s σ H Q I h => wpAny_Call_Name_kw (ld_glob I hg hm ?_ hdb)⟩
  exact PySem.W.callWith_S2 (h₀ := X.base) I.ok.mod.kin hk (thn (ha.run pos pins s σ H _ I h) fun us s1 ⟨vs, H1, I1, r, q⟩ => ⟨I1.kIn, run_g F hr hgd (hx σ) I1 r q⟩) he hst
end
/-- a def's promise by its interpreter -/
def spE (g : Gx) (f : List D → Hh → Out D) : Sp := fun vs H Q E => ∃ M h ds, RelH g Spx.nil M H h ∧ RDs g.K Spx.nil M H vs ds ∧ match f ds h with
  | .ok d h' => ∀ M' H' v, Ext M H M' H' → RelH g Spx.nil M' H' h' → RD g.K Spx.nil M' H' v d → Q v H'
  | .exc e h' => ∀ M' H' cv d, Ext M H M' H' → RelH g Spx.nil M' H' h' → XOk g.CA g.K Spx.nil M' H' cv d e → E cv d H'
  | .bad => False
def mCall (f : List D → Hh → Out D) (as : ME (List D)) : ME D := mBind as fun xs => fun _ h => f xs h
section
variable {g : Gx} {X : Cx} {c : Cs} {k n : Nat}
theorem call_in (hz : c.Z = Spx.nil) {F : List D → Hh → Out D} {ms : ME (List D)} {σ : L2.St} {H : Hp} {Q : VK} (q : rd g c (rD g c) (mCall F ms) σ H Q) : rd g c (rDs g c) ms σ H fun vs H1 => spE g F vs H1 Q (WE c.W σ) := by
  obtain ⟨M, l, hh, R, L, p⟩ := q
  unfold mCall mBind at p
  refine ⟨M, l, hh, R, L, ?_⟩
  cases e1 : ms l hh with
  | bad => rw [e1] at p; exact p
  | exc e' h' => rw [e1] at p; exact p
  | ok xs h1 =>
    rw [e1] at p
    intro M1 H1 vs x1 R1 r1
    have r1 : RDs g.K c.Z M1 H1 vs xs := r1
    rw [hz] at R1 r1
    refine ⟨M1, h1, xs, R1, r1, ?_⟩
    dsimp only at p
    cases e2 : F xs h1 with
    | bad => rw [e2] at p; exact p
    | ok d h2 =>
      rw [e2] at p
      have p : ∀ M' H' v, Ext M H M' H' → RelH g c.Z M' H' h2 → RD g.K c.Z M' H' v d → Q v H' := p
      rw [hz] at p
      exact fun M' H' v x r q => p M' H' v (x1.trans x) r q
    | exc e' h2 =>
      rw [e2] at p
      have p : ∀ M' H' cv d, Ext M H M' H' → RelH g c.Z M' H' h2 → XOk g.CA g.K c.Z M' H' cv d e' → c.W cv d σ H' := p
      rw [hz] at p
      exact fun M' H' cv d x r q => p M' H' cv d (x1.trans x) r q
/-- f(e, ..), f a def of the text -/
theorem qe_call (C : CxOk g X c k) (hcalm : c.calm = true) (hz : c.Z = Spx.nil) {f : Addr} {x : Str} {p pos : Pos} {e : Expr} {es : List Expr} {F : List D → Hh → Out D} {ms : ME (List D)} (hF : FnG X.prog X.w X.K X.mg X.base k f (spE g F))
    (hg : c.sc.names.lookup x = some .globalImplicit) (hm : g.mg x = some (.ref f)) (hk : PySem.W.keepIn g.K (.ref f) = true)
    (ha : QA g X c ms (e :: es)) (hdb : (x == ("__debug__" : Str)) = false) (he : starEach (e :: es) X.env = (false, eval e X.env) :: starEach es X.env) :
    QE g X c (mCall F ms) (.Call (.Name x p) (e :: es) [] pos) := by
  have gl : Gl X x := by
    show X.env.scope.names.lookup x = _
    rw [C.hsc]; exact hg
  cases hpl : (backTo pos (starEach es X.env)).any (·.1) with
  | false => exact PE.imp (pe_g (E := fun σ => WE c.W σ) hF (C.room hcalm) C.gd gl (by rw [C.hmg]; exact hm) (by rw [C.hK]; exact hk) (fun σ => passAt C.tk σ) ha hdb he hpl) fun σ H Q q => call_in hz q
  | true => exact PE.imp (pe_gS (E := fun σ => WE c.W σ) hF (C.room hcalm) C.gd gl (by rw [C.hmg]; exact hm) (by rw [C.hK]; exact hk) (fun σ => passAt C.tk σ) ha hdb he hpl) fun σ H Q q => call_in hz q
end
/-! ### the end of a call: what the def made for itself is let go -/
mutual
def D.low (n : Nat) : D → Bool
  | .non | .bl _ | .int _ | .str _ => true
  | .tup xs | .lst xs | .lok xs => D.lows n xs
  | .dic kvs => D.lowk n kvs
  | .ref r => decide (r < n)
  | .thk => false
  | .exo _ _ => false
def D.lows (n : Nat) : List D → Bool
  | [] => true
  | x :: xs => x.low n && D.lows n xs
def D.lowk (n : Nat) : List (Key × D) → Bool
  | [] => true
  | (_, v) :: r => v.low n && D.lowk n r
end
def Cell.low (n : Nat) : Cell → Bool
  | .lst xs => D.lows n xs
/-- a value with the new cells in it as trees -/
def frz (h : Hh) (n : Nat) : Nat → D → Option D
  | 0, _ => none
  | m + 1, d => match d with
    | .ref r => if r < n then some (.ref r) else match h[r]? with
      | some (.lst xs) => (xs.mapM (frz h n m)).map .lst
      | none => none
    | .tup xs => (xs.mapM (frz h n m)).map .tup
    | .lst xs => (xs.mapM (frz h n m)).map .lst
    | d => if d.low n then some d else none
/-- no new cell in it: as it is -/
def frzT (h : Hh) (n : Nat) (d : D) : Option D := if d.low n = true then some d else frz h n 64 d
def olds (n : Nat) (h : Hh) : Bool := (h.take n).all (Cell.low n)
/-- behind a call: n cells stood ahead of it -/
def fin (n : Nat) (o : Out D) : Out D := match o with
  | .ok d h => if olds n h = true then match frzT h n d with
    | some d' => .ok d' (h.take n)
    | none => .bad else .bad
  | .exc e h => if olds n h = true then match e.fld with
    | none => .exc e (h.take n)
    | some (f, x) => match frzT h n x with
      | some x' => .exc ⟨e.cls, some (f, x')⟩ (h.take n)
      | none => .bad else .bad
  | .bad => .bad
section
variable {K : PySem.W.Frag} {Z : Spx} {M : List Addr} {H : Hp} {n : Nat}
mutual
theorem RD.cut (nd : M.Nodup) : ∀ {v : V} {d : D}, RD K Z M H v d → d.low n = true → RD K Z (M.take n) H v d
  | _, _, .non, _ => .non
  | _, _, .bl b, _ => .bl b
  | _, _, .int i, _ => .int i
  | _, _, .str x, _ => .str x
  | _, _, .tup t r, h => .tup (match t with | .tup a b => .tup a (fun z => b (List.mem_of_mem_take z)) | .wr a => .wr a) (RDs.cut nd r (by unfold D.low at h; exact h))
  | _, _, .lst a b r, h => .lst a (fun z => b (List.mem_of_mem_take z)) (RDs.cut nd r (by unfold D.low at h; exact h))
  | _, _, .lok t r, h => .lok (match t with | .frz a b => .frz a (fun z => b (List.mem_of_mem_take z)) | .wr a => .wr a) (RDs.cut nd r (by unfold D.low at h; exact h))
  | _, _, .dic a b r, h => .dic a (fun z => b (List.mem_of_mem_take z)) (RDk.cut nd r (by unfold D.low at h; exact h))
  | _, _, .ref (r := r) e, h => .ref (by unfold D.low at h; rw [List.getElem?_take_of_lt (of_decide_eq_true h)]; exact e)
  | _, _, .thk h, _ => .thk h
  | _, _, .exo h, _ => .exo h
theorem RDs.cut (nd : M.Nodup) : ∀ {vs : List V} {ds : List D}, RDs K Z M H vs ds → D.lows n ds = true → RDs K Z (M.take n) H vs ds
  | _, _, .nil, _ => .nil
  | _, _, .cons r t, h => by
    unfold D.lows at h
    obtain ⟨h1, h2⟩ := Bool.and_eq_true_iff.mp h
    exact .cons (RD.cut nd r h1) (RDs.cut nd t h2)
theorem RDk.cut (nd : M.Nodup) : ∀ {vs : List (Key × V)} {ds : List (Key × D)}, RDk K Z M H vs ds → D.lowk n ds = true → RDk K Z (M.take n) H vs ds
  | _, _, .nil, _ => .nil
  | _, _, .cons r t, h => by
    unfold D.lowk at h
    obtain ⟨h1, h2⟩ := Bool.and_eq_true_iff.mp h
    exact .cons (RD.cut nd r h1) (RDk.cut nd t h2)
end
theorem mapM_rds {f : D → Option D} {M' : List Addr} : ∀ {vs : List V} {ds es : List D}, RDs K Z M H vs ds → (∀ v d e, RD K Z M H v d → f d = some e → RD K Z M' H v e) → ds.mapM f = some es → RDs K Z M' H vs es
  | _, _, es, .nil, _, h => by
    simp at h; subst h; exact .nil
  | _, _, es, .cons (d := d) (ds := ds) r t, k, h => by
    rw [List.mapM_cons] at h
    cases e1 : f d with
    | none => rw [e1] at h; simp at h
    | some d' =>
      rw [e1] at h
      cases e2 : ds.mapM f with
      | none => rw [e2] at h; simp at h
      | some ds' =>
        rw [e2] at h
        simp at h; subst h
        exact .cons (k _ _ _ r e1) (mapM_rds t k e2)
theorem frz_rd {g : Gx} {h : Hh} (R : RelH g Z M H h) : ∀ (m : Nat) {v : V} {d e : D}, RD g.K Z M H v d → frz h n m d = some e → RD g.K Z (M.take n) H v e
  | 0, _, _, _, _, q => by unfold frz at q; cases q
  | m + 1, v, d, e, r, q => by
    unfold frz at q
    cases d with
    | ref i =>
      dsimp only at q
      by_cases hi : i < n
      · rw [if_pos hi] at q
        cases q
        cases r with
        | ref a => exact .ref (by rw [List.getElem?_take_of_lt hi]; exact a)
      · rw [if_neg hi] at q
        cases r with
        | ref a =>
          cases ec : h[i]? with
          | none => rw [ec] at q; cases q
          | some cc =>
            cases cc with
            | lst xs =>
              rw [ec] at q
              obtain ⟨es, e1, rfl⟩ := Option.map_eq_some_iff.mp q
              obtain ⟨vs, h1, h2⟩ := R.cell ec a
              refine .lst h1 (fun z => ?_) (mapM_rds h2 (fun v d e a b => frz_rd R m a b) e1)
              obtain ⟨j, hj, ej⟩ := List.mem_iff_getElem.mp z
              rw [List.length_take] at hj
              have hjM : j < M.length := by omega
              rw [List.getElem_take] at ej
              have hiM : i < M.length := (List.getElem?_eq_some_iff.mp a).1
              have := (List.getElem?_inj hjM R.nd).mp ((List.getElem?_eq_getElem hjM).trans ((congrArg some ej).trans a.symm))
              omega
    | tup xs =>
      obtain ⟨es, e1, rfl⟩ := Option.map_eq_some_iff.mp q
      cases r with
      | tup t r => exact .tup (match t with | .tup a b => .tup a (fun z => b (List.mem_of_mem_take z)) | .wr a => .wr a) (mapM_rds r (fun v d e a b => frz_rd R m a b) e1)
    | lst xs =>
      obtain ⟨es, e1, rfl⟩ := Option.map_eq_some_iff.mp q
      cases r with
      | lst a b r => exact .lst a (fun z => b (List.mem_of_mem_take z)) (mapM_rds r (fun v d e a b => frz_rd R m a b) e1)
    | _ =>
      dsimp only at q
      obtain ⟨hb, rfl⟩ := ite_some q
      exact r.cut R.nd hb
theorem frzT_rd {g : Gx} {h : Hh} (R : RelH g Z M H h) {v : V} {d e : D} (r : RD g.K Z M H v d) (q : frzT h n d = some e) : RD g.K Z (M.take n) H v e := by
  unfold frzT at q
  split at q
  · rename_i hl
    cases q
    exact r.cut R.nd hl
  · exact frz_rd R 64 r q
theorem RelH.cut {g : Gx} {h : Hh} (R : RelH g Z M H h) (o : olds n h = true) (hx : ∀ a cv d e, Z.exo = some (a, cv, d, e) → XOk g.CA g.K Z (M.take n) H cv d e) (ht : ∀ a M0 H0, Z.thk = some (a, M0, H0) → M0.length ≤ n) : RelH g Z (M.take n) H (h.take n) := by
  refine ⟨by rw [List.length_take, List.length_take, R.len], R.nd.sublist (List.take_sublist _ _), fun r c a h1 h2 => ?_, R.tabs, fun p hp z => R.tout p hp (List.mem_of_mem_take z), hx, fun a M0 H0 z => ?_⟩
  rotate_left
  · have q := R.tk a M0 H0 z
    obtain ⟨N, rfl⟩ := q.pre
    refine ⟨⟨N.take (n - M0.length), by rw [List.take_append, List.take_of_length_le (ht a M0 H0 z)]⟩, fun b hb nb => q.new b (List.mem_of_mem_take hb) nb, q.keep⟩
  have hr : r < n := by
    have := (List.getElem?_eq_some_iff.mp h1).1
    rw [List.length_take] at this; omega
  rw [List.getElem?_take_of_lt hr] at h2
  have hc : c.low n = true := List.all_eq_true.mp o c (List.mem_of_getElem? h1)
  rw [List.getElem?_take_of_lt hr] at h1
  have q := R.at_ r c a h1 h2
  cases c with
  | lst ds =>
    obtain ⟨vs, e1, e2⟩ := q
    exact ⟨vs, e1, e2.cut R.nd hc⟩
end
theorem ext_cut {M M1 : List Addr} {H H1 : Hp} (e : Ext M H M1 H1) : Ext M H (M1.take M.length) H1 := by
  obtain ⟨N, rfl⟩ := e.pre
  have : (M ++ N).take M.length = M := by simp
  rw [this]
  exact ⟨⟨[], by simp⟩, fun a h n => absurd h n, e.keep⟩
end WW
/-! 9: statements. -/
namespace WW
open PySem PySem.Spec PyProof.Rows L2
def SPost (g : Gx) (c : Cs) (D : Ends) (M : List Addr) (H : Hp) (σ : L2.St) (o : SOut) : Prop := match o with
  | .nx l' h' => ∀ M' H' σ', Ext M H M' H' → RelH g c.Z M' H' h' → RL g.K c.Z M' H' σ' l' → D.nx σ' H'
  | .rt d h' => ∀ M' H' v, Ext M H M' H' → RelH g c.Z M' H' h' → RD g.K c.Z M' H' v d → D.rt v H'
  | .bk l' h' => ∀ M' H' σ', Ext M H M' H' → RelH g c.Z M' H' h' → RL g.K c.Z M' H' σ' l' → D.bk σ' H'
  | .ct l' h' => ∀ M' H' σ', Ext M H M' H' → RelH g c.Z M' H' h' → RL g.K c.Z M' H' σ' l' → D.ct σ' H'
  | .exc e l' h' => ∀ M' H' σ' cv d, Ext M H M' H' → RelH g c.Z M' H' h' → RL g.K c.Z M' H' σ' l' → XOk g.CA g.K c.Z M' H' cv d e → c.W cv d σ' H'
  | .bad => False
def rs (g : Gx) (c : Cs) (m : MS) : TS := fun D σ H => ∃ M l h, RelH g c.Z M H h ∧ RL g.K c.Z M H σ l ∧ SPost g c D M H σ (m l h)
abbrev QS (g : Gx) (X : Cx) (c : Cs) (m : MS) (s : Stmt) : Prop := PS X s (rs g c m)
abbrev QSs (g : Gx) (X : Cx) (c : Cs) (m : MS) (s : List Stmt) : Prop := PSs X s (rs g c m)
abbrev MG := D → Lc → Hh → Out Lc
abbrev rL (g : Gx) (c : Cs) : RR L2.St Lc := fun M H σ l => RL g.K c.Z M H σ l
def rg (g : Gx) (c : Cs) (m : MG) : TG := fun v σ H Q => ∃ M l h d, RelH g c.Z M H h ∧ RL g.K c.Z M H σ l ∧ RD g.K c.Z M H v d ∧ Post g c.Z c.W (rL g c) M H σ (m d l h) Q
abbrev QG (g : Gx) (X : Cx) (c : Cs) (m : MG) (e : Expr) : Prop := PG X e (rg g c m)
abbrev MGs := List D → Lc → Hh → Out Lc
def rgs (g : Gx) (c : Cs) (m : MGs) : TGs := fun v σ H Q => ∃ M l h d, RelH g c.Z M H h ∧ RL g.K c.Z M H σ l ∧ RDs g.K c.Z M H v d ∧ Post g c.Z c.W (rL g c) M H σ (m d l h) Q
abbrev QGs (g : Gx) (X : Cx) (c : Cs) (m : MGs) (e : List Expr) : Prop := PGs X e (rgs g c m)
theorem PG.imp {X : Cx} {e : Expr} {t t' : TG} (h : PG X e t) (w : ∀ v σ H Q, t' v σ H Q → t v σ H Q) : PG X e t' := ⟨fun p s σ H v u Q I r q => h.run p s σ H v u Q I r (w v σ H Q q)⟩
theorem PGs.imp {X : Cx} {e : List Expr} {t t' : TGs} (h : PGs X e t) (w : ∀ v σ H Q, t' v σ H Q → t v σ H Q) : PGs X e t' := ⟨fun p s σ H v u Q I r q => h.run p s σ H v u Q I r (w v σ H Q q)⟩
/-! ### what the interpreter does -/
def sNext : MS := fun l h => .nx l h
def sSeq (a b : MS) : MS := fun l h => match a l h with
  | .nx l' h' => b l' h'
  | o => o
def sBreak : MS := fun l h => .bk l h
def sCont : MS := fun l h => .ct l h
def sBind {α : Type} (m : ME α) (f : α → MS) : MS := fun l h => match m l h with
  | .ok a h' => f a l h'
  | .exc e h' => .exc e l h'
  | .bad => .bad
def sDrop (m : ME D) : MS := sBind m fun _ => sNext
def sRt (d : D) : MS := fun _ h => .rt d h
def sRet (m : ME D) : MS := sBind m sRt
def sRetN : MS := fun _ h => .rt .non h
def sIf (t : ME Bool) (a b : MS) : MS := sBind t fun c => if c = true then a else b
def sTo (o : Out Lc) (l : Lc) : SOut := match o with
  | .ok l' h => .nx l' h
  | .exc e h => .exc e l h
  | .bad => .bad
def sAsg (m : ME D) (tg : MG) : MS := sBind m fun d l h => sTo (tg d l h) l
def gNm (i : Nat) : MG := fun d l h => .ok (l.set i (some d)) h
def gsNil : MGs := fun ds l h => match ds with
  | [] => .ok l h
  | _ => .bad
def gsCons (a : MG) (b : MGs) : MGs := fun ds l h => match ds with
  | d :: r => (match a d l h with
    | .ok l' h' => (match b r l' h' with
      | .ok l'' h'' => .ok l'' h''
      | _ => .bad)
    | _ => .bad)
  | [] => .bad
def gTp (n : Nat) (a : MGs) : MG := fun d l h => match d with
  | .tup xs => if xs.length = n then a xs l h else .bad
  | _ => .bad
/-- o[i] = v, o a list that is a cell -/
def setD (o i v : D) : ME Lc := fun l h => match o with
  | .ref r => (match i with
    | .int k => (match h[r]? with
      | some (.lst xs) => (match ixN xs.length k with
        | some j => .ok l (h.set r (.lst (xs.set j v)))
        | none => .bad)
      | none => .bad)
    | _ => .bad)
  | _ => .bad
def gIx (mo mi : ME D) : MG := fun v => mBind mo fun o => mBind mi fun i => setD o i v
/-- a, b = x, y: stored from the right -/
def sPar (i j : Nat) (ms : ME (List D)) : MS := sBind ms fun xs l h => match xs with
  | [x, y] => .nx ((l.set i (some x)).set j (some y)) h
  | _ => .bad
def sPar3 (i j n : Nat) (ms : ME (List D)) : MS := sBind ms fun xs l h => match xs with
  | [x, y, z] => .nx (((l.set i (some x)).set j (some y)).set n (some z)) h
  | _ => .bad
def augI (op : Operator) (a b : Int) : Option Int := match op with
  | .Add => some (a + b)
  | .Sub => some (a - b)
  | .Mult => if (-(2 ^ 64) < a ∧ a < 2 ^ 64) ∨ (-(2 ^ 64) < b ∧ b < 2 ^ 64) then some (a * b) else none
  | .FloorDiv => if 0 < b ∧ b.natAbs.log2 < 9000 then some (a / b) else none
  | .Mod => if 0 < b then some (a % b) else none
  | .RShift => if 0 ≤ b then some (a / 2 ^ b.toNat) else none
  | _ => none
def augD (i : Nat) (op : Operator) (x y : D) : MS := fun l h => match x with
  | .int a => (match y with
    | .int b => (match augI op a b with
      | some d => .nx (l.set i (some (.int d))) h
      | none => .bad)
    | _ => .bad)
  | _ => .bad
def sAug (i : Nat) (op : Operator) (m : ME D) : MS := fun l h => match l[i]? with
  | some (some x) => sBind m (augD i op x) l h
  | _ => .bad
section
variable {g : Gx} {X : Cx} {c : Cs} {k : Nat}
theorem SPost.mono {D : Ends} {M M1 : List Addr} {H H1 : Hp} {σ σ1 : L2.St} {o : SOut} (p : SPost g c D M H σ o) (e : Ext M H M1 H1) : SPost g c D M1 H1 σ1 o := by
  cases o with
  | nx l h => exact fun M' H' σ' x => p M' H' σ' (e.trans x)
  | rt d h => exact fun M' H' v x => p M' H' v (e.trans x)
  | bk l h => exact fun M' H' σ' x => p M' H' σ' (e.trans x)
  | ct l h => exact fun M' H' σ' x => p M' H' σ' (e.trans x)
  | exc e' l h => exact fun M' H' σ' cv d x => p M' H' σ' cv d (e.trans x)
  | bad => exact p
theorem SPost.imp {D D' : Ends} {M : List Addr} {H : Hp} {σ : L2.St} {o : SOut} (p : SPost g c D M H σ o) (h1 : ∀ σ H, D.nx σ H → D'.nx σ H) (h2 : ∀ v H, D.rt v H → D'.rt v H) (h3 : ∀ σ H, D.bk σ H → D'.bk σ H) (h4 : ∀ σ H, D.ct σ H → D'.ct σ H) : SPost g c D' M H σ o := by
  cases o with
  | nx l h => exact fun M' H' σ' x r q => h1 _ _ (p M' H' σ' x r q)
  | rt d h => exact fun M' H' v x r q => h2 _ _ (p M' H' v x r q)
  | bk l h => exact fun M' H' σ' x r q => h3 _ _ (p M' H' σ' x r q)
  | ct l h => exact fun M' H' σ' x r q => h4 _ _ (p M' H' σ' x r q)
  | exc e' l h => exact p
  | bad => exact p
/-- an expression first, then a statement's end -/
theorem rs_bind {β α : Type} {R : RR β α} {D : Ends} {m : ME α} {f : α → MS} {M : List Addr} {H : Hp} {σ : L2.St} {l : Lc} {h : Hh} {Q1 : β → Hp → Prop} (hR : RelH g c.Z M H h) (hL : RL g.K c.Z M H σ l)
    (p : SPost g c D M H σ (sBind m f l h))
    (kk : ∀ M1 H1 h1 x a, Ext M H M1 H1 → RelH g c.Z M1 H1 h1 → RL g.K c.Z M1 H1 σ l → R M1 H1 x a → SPost g c D M1 H1 σ (f a l h1) → Q1 x H1) : rd g c R m σ H Q1 := by
  refine ⟨M, l, h, hR, hL, ?_⟩
  unfold sBind at p
  cases e : m l h with
  | ok d h' =>
    rw [e] at p
    exact fun M1 H1 v x r q => kk M1 H1 h' v d x r (hL.mono x) q (p.mono x)
  | exc e' h' =>
    rw [e] at p
    exact fun M1 H1 cv d x r q => p M1 H1 σ cv d x r (hL.mono x) q
  | bad =>
    rw [e] at p
    exact p
theorem qs_pass {pos : Pos} : QS g X c sNext (.Pass pos) := PS.imp ps_pass fun D σ H ⟨M, l, h, R, L, p⟩ => p M H σ (Ext.refl _ _) R L
theorem qs_break {pos : Pos} : QS g X c sBreak (.Break pos) := PS.imp ps_break fun D σ H ⟨M, l, h, R, L, p⟩ => p M H σ (Ext.refl _ _) R L
theorem qs_cont {pos : Pos} : QS g X c sCont (.Continue pos) := PS.imp ps_continue fun D σ H ⟨M, l, h, R, L, p⟩ => p M H σ (Ext.refl _ _) R L
theorem qss_nil : QSs g X c sNext [] := PSs.imp pss_nil fun D σ H ⟨M, l, h, R, L, p⟩ => p M H σ (Ext.refl _ _) R L
theorem qss_cons {s : Stmt} {r : List Stmt} {a b : MS} (h1 : QS g X c a s) (h2 : QSs g X c b r) : QSs g X c (sSeq a b) (s :: r) := by
  refine PSs.imp (pss_cons h1 h2) fun D σ H q => ?_
  obtain ⟨M, l, h, R, L, p⟩ := q
  refine ⟨M, l, h, R, L, ?_⟩
  unfold sSeq at p
  cases e : a l h with
  | nx l' h' =>
    rw [e] at p
    exact fun M' H' σ' x r q => ⟨M', l', h', r, q, p.mono x⟩
  | rt d h' => rw [e] at p; exact p
  | bk l' h' => rw [e] at p; exact p
  | ct l' h' => rw [e] at p; exact p
  | exc e' l' h' => rw [e] at p; exact p
  | bad => rw [e] at p; exact p
theorem qss_one {s : Stmt} {a : MS} (h1 : QS g X c a s) : QSs g X c a [s] := PSs.imp (pss_one h1) fun D σ H q => q
theorem qs_drop {e : Expr} {m : ME D} {pos : Pos} (h : QE g X c m e) (hs : swapsWith e none pos.line X.env = pure false) : QS g X c (sDrop m) (.Expr e pos) := by
  refine PS.imp (ps_expr h hs) fun D σ H q => ?_
  obtain ⟨M, l, h, R, L, p⟩ := q
  exact rs_bind R L p fun M1 H1 h1 x a e1 R1 L1 r1 p1 => p1 M1 H1 σ (Ext.refl _ _) R1 L1
theorem qs_ret {e : Expr} {m : ME D} {pos : Pos} (h : QE g X c m e) : QS g X c (sRet m) (.Return (some e) pos) := by
  refine PS.imp (ps_ret h) fun D σ H q => ?_
  obtain ⟨M, l, h, R, L, p⟩ := q
  exact rs_bind R L p fun M1 H1 h1 x a e1 R1 L1 r1 p1 => p1 M1 H1 x (Ext.refl _ _) R1 r1
theorem qs_retN {pos : Pos} : QS g X c sRetN (.Return none pos) := PS.imp ps_retN fun D σ H ⟨M, l, h, R, L, p⟩ => p M H .non (Ext.refl _ _) R .non
theorem qs_if {t : Expr} {a b : List Stmt} {mt : ME Bool} {ma mb : MS} {pos : Pos} (ht : QT g X c mt t) (ha : QSs g X c ma a) (hb : QSs g X c mb b) : QS g X c (sIf mt ma mb) (.If t a b pos) := by
  refine PS.imp (ps_if ht ha hb) fun D σ H q => ?_
  obtain ⟨M, l, h, R, L, p⟩ := q
  refine rs_bind R L p fun M1 H1 h1 x a e1 R1 L1 r1 p1 => ?_
  cases r1
  cases x with
  | true => exact ⟨M1, l, h1, R1, L1, p1⟩
  | false => exact ⟨M1, l, h1, R1, L1, p1⟩
/-! ### targets -/
theorem qg_name (C : CxOk g X c k) {i : Nat} {x : Str} {pos : Pos} (hi : c.N[i]? = some x) (hx : Loc c.sc x) (hf : X.fn x = true ∨ c.sc.names.lookup x = some .local) : QG g X c (gNm i) (.Name x pos) := by
  refine PG.imp (pg_name (i := i) (by rw [C.hN]; exact C.nd) (by rw [C.hN]; exact hi) (by rw [C.hsc]; exact hx) (by rw [C.hsc]; exact hf)) fun v σ H Q q => ?_
  obtain ⟨M, l, h, d, R, L, r, p⟩ := q
  exact p M H _ (Ext.refl _ _) R (L.set r)
theorem qgs_nil : QGs g X c gsNil [] := by
  refine PGs.imp pgs_nil fun v σ H Q q => ?_
  obtain ⟨M, l, h, d, R, L, r, p⟩ := q
  cases r with
  | nil => exact ⟨rfl, p M H σ (Ext.refl _ _) R L⟩
  | cons _ _ => exact p.elim
theorem qgs_cons {e : Expr} {es : List Expr} {a : MG} {b : MGs} (h1 : QG g X c a e) (h2 : QGs g X c b es) (hs : (assignEach (e :: es) X.env).map (·.2) = assign e X.env :: (assignEach es X.env).map (·.2)) : QGs g X c (gsCons a b) (e :: es) := by
  refine PGs.imp (pgs_cons h1 h2 hs) fun v σ H Q q => ?_
  obtain ⟨M, l, h, d, R, L, r, p⟩ := q
  cases r with
  | nil => exact p.elim
  | cons r rr =>
    rename_i v0 d0 vs ds
    refine ⟨v0, vs, rfl, M, l, h, d0, R, L, r, ?_⟩
    unfold gsCons at p
    dsimp only at p
    cases e1 : a d0 l h with
    | ok l' h' =>
      rw [e1] at p
      dsimp only at p
      intro M1 H1 σ1 x1 R1 L1
      refine ⟨M1, l', h', ds, R1, L1, rr.mono x1, ?_⟩
      cases e2 : b ds l' h' with
      | ok l'' h'' =>
        rw [e2] at p
        exact fun M' H' σ' x => p M' H' σ' (x1.trans x)
      | exc e' h'' => rw [e2] at p; exact p.elim
      | bad => rw [e2] at p; exact p.elim
    | exc e' h' => rw [e1] at p; exact p.elim
    | bad => rw [e1] at p; exact p.elim
theorem qg_tup (C : CxOk g X c k) (hc : c.calm = true) {es : List Expr} {b : MGs} {kk : Nat} {pos : Pos} {n : Nat} (h : QGs g X c b es) (hn : (assignEach es X.env).length = n) (hst : (assignEach es X.env).findIdx? (·.1) = none) : QG g X c (gTp n b) (.Tuple es kk pos) := by
  refine PG.imp (pg_tup (n := n) (by rw [C.hcalm]; exact hc) h hn hst) fun v σ H Q q => ?_
  obtain ⟨M, l, h, d, R, L, r, p⟩ := q
  cases d with
  | tup xs =>
    cases r with
    | tup t r =>
      unfold gTp at p
      dsimp only at p
      by_cases hl : xs.length = n
      · rw [if_pos hl] at p
        exact ⟨_, _, rfl, by rw [C.hK]; exact t.sqt, by rw [r.length]; exact hl, M, l, h, xs, R, L, r, p⟩
      · rw [if_neg hl] at p; exact p.elim
  | _ => exact p.elim
theorem qg_ix (C : CxOk g X c k) {o i : Expr} {mo mi : ME D} {pos : Pos} (ho : QE g X c mo o) (hi : QE g X c mi i)
    (ha : ∀ v, assign (.Subscript o i pos) X.env v = (do
      let ov ← holding [v] (eval o X.env)
      let iv ← holding [v, ov] (eval i X.env)
      standAt pos
      holding [v, ov, iv] (setItem ov iv v)
      release [v, ov, iv] [])) : QG g X c (gIx mo mi) (.Subscript o i pos) := by
  refine PG.imp (pg_sub ho hi set_list ha) fun v σ H Q q => ?_
  obtain ⟨M, l, h, d, R, L, r, p⟩ := q
  refine rd_bind R L p fun M1 H1 h1 x a e1 R1 L1 r1 p1 => ?_
  refine rd_bind R1 L1 p1 fun M2 H2 h2 y b e2 R2 L2 r2' p2 => ?_
  unfold setD at p2
  cases a with
  | ref rr =>
    cases b with
    | int kk =>
      dsimp only at p2
      cases he : h2[rr]? with
      | none => rw [he] at p2; exact p2.elim
      | some cc =>
        cases cc with
        | lst xs =>
          rw [he] at p2
          dsimp only at p2
          cases hj : ixN xs.length kk with
          | none => rw [hj] at p2; exact p2.elim
          | some j =>
            rw [hj] at p2
            cases r2'
            have r1' := r1.mono e2
            cases r1' with
            | ref m =>
              obtain ⟨vs, hv1, hv2⟩ := R2.cell he m
              refine ⟨_, vs, kk, j, rfl, rfl, hv1, by rw [hv2.length]; exact hj, ?_⟩
              have hm := List.mem_of_getElem? m
              exact p2 M2 _ σ (ext_set hm) (R2.set he m (RDs.set (r.mono (e1.trans e2)) j hv2)) (L2.mono (ext_set hm))
    | _ => exact p2.elim
  | _ => exact p2.elim
theorem qs_asg {e tg : Expr} {m : ME D} {t : MG} {pos : Pos} (h : QE g X c m e) (ht : QG g X c t tg) (hs : swapsWithSole [tg] e pos.line X.env = pure false) (hw : swappedStores [tg] e X.env = pure none) (h1 : (assignEach [tg] X.env).map (·.2) = [assign tg X.env]) :
    QS g X c (sAsg m t) (.Assign [tg] e pos) := by
  refine PS.imp (ps_asg h ht hs hw h1) fun D σ H q => ?_
  obtain ⟨M, l, h, R, L, p⟩ := q
  refine rs_bind R L p fun M1 H1 h1 x a e1 R1 L1 r1 p1 => ?_
  refine ⟨M1, l, h1, a, R1, L1, r1, ?_⟩
  cases e2 : t a l h1 with
  | ok l' h' => rw [e2] at p1; exact p1
  | exc e' h' =>
    rw [e2] at p1
    exact fun M' H' cv d x r q => p1 M' H' σ cv d x r (L1.mono x) q
  | bad => rw [e2] at p1; exact p1
theorem qs_set (C : CxOk g X c k) {i : Nat} {x : Str} {e : Expr} {m : ME D} {pos pos' : Pos} (hi : c.N[i]? = some x) (hx : Loc c.sc x) (hf : X.fn x = true ∨ c.sc.names.lookup x = some .local) (h : QE g X c m e) (hs : swapsWith e (some (.Name x pos')) pos.line X.env = pure false) :
    QS g X c (sAsg m (gNm i)) (.Assign [.Name x pos'] e pos) := by
  refine PS.imp (ps_set (i := i) (by rw [C.hN]; exact C.nd) (by rw [C.hN]; exact hi) (by rw [C.hsc]; exact hx) h hs (by rw [C.hsc]; exact hf)) fun D σ H q => ?_
  obtain ⟨M, l, h, R, L, p⟩ := q
  exact rs_bind R L p fun M1 H1 h1 x a e1 R1 L1 r1 p1 => p1 M1 H1 _ (Ext.refl _ _) R1 (L1.set r1)
theorem qs_par (C : CxOk g X c k) (hc : c.calm = true) {i j : Nat} {x y : Str} {a b : Expr} {ms : ME (List D)} {px py pt pos : Pos} {kt k2 : Nat} {pt2 : Pos} (hi : c.N[i]? = some x) (hj : c.N[j]? = some y) (hij : i ≠ j)
    (hx : c.sc.names.lookup x = some .local) (hy : c.sc.names.lookup y = some .local) (ha : QA g X c ms [a, b])
    (hw : swappedStores [.Tuple [.Name x px, .Name y py] kt pt] (.Tuple [a, b] k2 pt2) X.env = pure (some [x, y]))
    (hs : swapsWithSole [.Tuple [.Name x px, .Name y py] kt pt] (.Tuple [a, b] k2 pt2) pos.line X.env = pure false) : QS g X c (sPar i j ms) (.Assign [.Tuple [.Name x px, .Name y py] kt pt] (.Tuple [a, b] k2 pt2) pos) := by
  refine PS.imp (ps_par (by rw [C.hcalm]; exact hc) (by rw [C.hN]; exact C.nd) (by rw [C.hN]; exact hi) (by rw [C.hN]; exact hj) hij (by rw [C.hsc]; exact hx) (by rw [C.hsc]; exact hy) ha hw hs) fun D σ H q => ?_
  obtain ⟨M, l, h, R, L, p⟩ := q
  refine rs_bind R L p fun M1 H1 h1 x a e1 R1 L1 r1 p1 => ?_
  match a, r1, p1 with
  | [a, b], .cons ra (.cons rb .nil), p => exact ⟨_, _, rfl, p M1 H1 _ (Ext.refl _ _) R1 ((L1.set ra).set rb)⟩
  | [], _, p => exact p.elim
  | [_], _, p => exact p.elim
  | _ :: _ :: _ :: _, _, p => exact p.elim
theorem pip_int {op : Operator} : PIp X op (fun x y H Q => ∃ a b d, x = .int a ∧ y = .int b ∧ augI op a b = some d ∧ Q (.int d) H) := by
  intro pins s σ H x y v u Q I rx ry h
  obtain ⟨a, b, d, rfl, rfl, e, q⟩ := h
  unfold augI at e
  cases op with
  | Add => cases e; exact iop_add pins s σ H _ _ v u Q I rx ry ⟨_, _, rfl, rfl, q⟩
  | Sub => cases e; exact iop_sub pins s σ H _ _ v u Q I rx ry ⟨_, _, rfl, rfl, q⟩
  | Mult =>
    obtain ⟨hl, e⟩ := ite_some e
    cases e
    exact iop_mul pins s σ H _ _ v u Q I rx ry ⟨_, _, rfl, rfl, hl, q⟩
  | FloorDiv =>
    obtain ⟨hl, e⟩ := ite_some e
    cases e
    exact iop_fdivW pins s σ H _ _ v u Q I rx ry ⟨_, _, rfl, rfl, hl, q⟩
  | Mod =>
    obtain ⟨hl, e⟩ := ite_some e
    cases e
    exact iop_mod pins s σ H _ _ v u Q I rx ry ⟨_, _, rfl, rfl, hl, q⟩
  | RShift =>
    obtain ⟨hl, e⟩ := ite_some e
    cases e
    exact iop_shr pins s σ H _ _ v u Q I rx ry ⟨_, _, rfl, rfl, hl, q⟩
  | _ => cases e
theorem qs_aug (C : CxOk g X c k) {i : Nat} {x : Str} {e : Expr} {m : ME D} {op : Operator} {pos pos' : Pos} (hi : c.N[i]? = some x) (hx : Loc c.sc x) (hf : X.fn x = true ∨ c.sc.names.lookup x = some .local) (h : QE g X c m e) :
    QS g X c (sAug i op m) (.AugAssign (.Name x pos') op e pos) := by
  refine PS.imp (ps_aug (i := i) (by rw [C.hN]; exact C.nd) (by rw [C.hN]; exact hi) (by rw [C.hsc]; exact hx) h pip_int (by rw [C.hsc]; exact hf)) fun D σ H q => ?_
  obtain ⟨M, l, h, R, L, p⟩ := q
  unfold sAug at p
  cases e0 : l[i]? with
  | none => rw [e0] at p; exact p.elim
  | some o =>
    cases o with
    | none => rw [e0] at p; exact p.elim
    | some d =>
      rw [e0] at p
      obtain ⟨v, hv, rv⟩ := L.at_ i d e0
      refine ⟨v, hv, ?_⟩
      refine rs_bind R L p fun M1 H1 h1 x a e1 R1 L1 r1 p1 => ?_
      unfold augD at p1
      cases d with
      | int a' =>
        cases a with
        | int b =>
          dsimp only at p1
          cases rv; cases r1
          cases eb : augI op a' b with
          | none => rw [eb] at p1; exact p1.elim
          | some n =>
            rw [eb] at p1
            exact ⟨a', b, n, rfl, rfl, eb, p1 M1 H1 _ (Ext.refl _ _) R1 (L1.set (.int n))⟩
        | _ => exact p1.elim
      | _ => exact p1.elim
end
end WW
/-! 10: loops, comprehensions. -/
namespace WW
open PySem PySem.Spec PyProof.Rows L2
inductive DIt where
  | fix (xs : List D)
  | cell (r : Nat)
  | enm (a : DIt)
  | zip (a b : DIt)
def itAt (it : DIt) (h : Hh) (i : Nat) : Option (Option D) := match it with
  | .fix xs => some xs[i]?
  | .cell r => match h[r]? with
    | some (.lst xs) => some xs[i]?
    | none => none
  | .enm a => (itAt a h i).map fun o => o.map fun d => .tup [.int (i : Nat), d]
  | .zip a b => match itAt a h i, itAt b h i with
    | some (some x), some (some y) => some (some (.tup [x, y]))
    | some none, some _ => some none
    | some (some _), some none => some none
    | _, _ => none
def itLen (it : DIt) (h : Hh) : Nat := match it with
  | .fix xs => xs.length
  | .cell r => match h[r]? with
    | some (.lst xs) => xs.length
    | none => 0
  | .enm a => itLen a h
  | .zip a b => min (itLen a h) (itLen b h)
structure JOk (g : Gx) (Z : Spx) (M0 : List Addr) (H0 : Hp) (it : DIt) (J : It) : Prop where
  go : ∀ M H h (i : Nat) (d : D), Ext M0 H0 M H → RelH g Z M H h → itAt it h i = some (some d) → J.go i H ∧ ∀ x H', J.yld i H x H' → (∀ a o, H a = some o → H' a = some o) ∧ RD g.K Z M H' x d
  stop : ∀ M H h (i : Nat), Ext M0 H0 M H → RelH g Z M H h → itAt it h i = some none → J.stop i H
def IPost (g : Gx) (c : Cs) (RI : It → Hp → Prop) (M : List Addr) (H : Hp) (σ : L2.St) (o : Out DIt) : Prop := match o with
  | .ok it h' => ∀ M' H' J, Ext M H M' H' → RelH g c.Z M' H' h' → JOk g c.Z M' H' it J → RI J H'
  | .exc e h' => ∀ M' H' cv d, Ext M H M' H' → RelH g c.Z M' H' h' → XOk g.CA g.K c.Z M' H' cv d e → c.W cv d σ H'
  | .bad => False
def rI (g : Gx) (c : Cs) (m : ME DIt) : TI := fun σ H R => ∃ M l h, RelH g c.Z M H h ∧ RL g.K c.Z M H σ l ∧ IPost g c R M H σ (m l h)
theorem IPost.mono {g : Gx} {c : Cs} {RI : It → Hp → Prop} {M M1 : List Addr} {H H1 : Hp} {σ : L2.St} {o : Out DIt} (p : IPost g c RI M H σ o) (x : Ext M H M1 H1) : IPost g c RI M1 H1 σ o := by
  cases o with
  | ok it h2 => exact fun M' H' J y => p M' H' J (x.trans y)
  | exc e' h2 => exact fun M' H' cv d y => p M' H' cv d (x.trans y)
  | bad => exact p
abbrev QI (g : Gx) (X : Cx) (c : Cs) (tg : Expr) (m : ME DIt) (e : Expr) : Prop := PI X tg e (rI g c m)
theorem PI.imp {X : Cx} {tg e : Expr} {t t' : TI} (h : PI X tg e t) (w : ∀ σ H R, t' σ H R → t σ H R) : PI X tg e t' := ⟨fun p s σ H R I q => h.run p s σ H R I (w σ H R q)⟩
section
variable {g : Gx} {X : Cx} {c : Cs} {k : Nat} {tg : Expr}
theorem ri_bind {β α : Type} {R : RR β α} {m : ME α} {f : α → ME DIt} {M : List Addr} {H : Hp} {σ : L2.St} {l : Lc} {h : Hh} {Q1 : β → Hp → Prop} {RI : It → Hp → Prop} (hR : RelH g c.Z M H h) (hL : RL g.K c.Z M H σ l)
    (p : IPost g c RI M H σ (mBind m f l h))
    (kk : ∀ M1 H1 h1 x a, Ext M H M1 H1 → RelH g c.Z M1 H1 h1 → RL g.K c.Z M1 H1 σ l → R M1 H1 x a → IPost g c RI M1 H1 σ (f a l h1) → Q1 x H1) : rd g c R m σ H Q1 := by
  refine ⟨M, l, h, hR, hL, ?_⟩
  unfold mBind at p
  cases e : m l h with
  | ok d h' =>
    rw [e] at p
    exact fun M1 H1 v x r q => kk M1 H1 h' v d x r (hL.mono x) q (p.mono x)
  | exc e' h' => rw [e] at p; exact p
  | bad => rw [e] at p; exact p
/-! ### what is walked -/
theorem pi_any {l : Expr} {tl : TE} (hl : PE X l tl) : PI X tg l (fun σ H R => tl σ H fun x H1 => (∃ a xs, x = .ref a ∧ SqL X.K H1 a xs ∧ R (Itl X.K a) H1) ∨ (∃ a xs, x = .ref a ∧ SqT X.K H1 a xs ∧ R (Itt X.K a) H1)) := by
  refine ⟨fun pins s σ H R I h => ?_⟩
  refine thn (hl.run pins s σ H _ I h) fun v s1 ⟨x, H1, I1, r1, q1⟩ => ?_
  have mine : ∀ b, b ∈ [s1.heap.objs.size] → FpOk X pins H1 b := fun b hb => by
    rw [List.mem_singleton.mp hb]
    exact I1.fpOk (Nat.le_refl _) (I1.hok.fresh (Nat.le_refl _))
  have kept : ∀ o, Inv X pins σ H1 { s1 with heap := s1.heap.push o } := fun o => I1.kept (t' := s1.toks) fun b u e => Heap.get?_push_of_some _ e
  rcases q1 with ⟨a, xs, rfl, hq, q⟩ | ⟨a, xs, rfl, hq, q⟩
  · cases r1
    obtain ⟨its, rv, p, hz⟩ := I1.list hq
    exact wpAny_pyIter_list p.isList ⟨s1.heap.objs.size, [s1.heap.objs.size], _, _, H1, rfl, kept _, turn_list a _, ⟨_, Heap.get?_push_size _ rfl, rfl, rfl⟩, mine, q⟩
  · cases r1
    obtain ⟨its, rv, p, hz⟩ := I1.tuple hq
    exact wpAny_pyIter_tuple (show s1.heap.IsTuple a its.toArray from p) ⟨s1.heap.objs.size, [s1.heap.objs.size], _, _, H1, rfl, kept _, turn_tuple a _, ⟨_, Heap.get?_push_size _ rfl, rfl, rfl⟩, mine, q⟩
def iterO (x : D) (h : Hh) : Option DIt := match x with
  | .ref r => (match h[r]? with
    | some _ => some (.cell r)
    | none => none)
  | .tup xs => some (.fix xs)
  | .lst xs => some (.fix xs)
  | .lok xs => some (.fix xs)
  | _ => none
def iterD (x : D) : ME DIt := fun _ h => match iterO x h with
  | some it => .ok it h
  | none => .bad
def mIter (m : ME D) : ME DIt := mBind m iterD
/-- what a sequence's walk sees -/
def SqB (K : PySem.W.Frag) (b : Bool) (H : Hp) (a : Addr) (vs : List V) : Prop := match b with
  | true => SqL K H a vs
  | false => SqT K H a vs
def ItS (g : Gx) (Z : Spx) (M0 : List Addr) (H0 : Hp) (b : Bool) (it : DIt) (a : Addr) : Prop := ∀ M H h (i : Nat) (o : Option D), Ext M0 H0 M H → RelH g Z M H h → itAt it h i = some o →
  ∃ vs, SqB g.K b H a vs ∧ match o with
    | some d => ∃ v, vs[i]? = some v ∧ RD g.K Z M H v d
    | none => vs.length ≤ i
/-- is it a list -/
def isL : D → Bool
  | .tup _ => false
  | _ => true
theorem itS_of {M : List Addr} {H : Hp} {h : Hh} {v : V} {d : D} {it : DIt} {Z : Spx} (R : RelH g Z M H h) (r : RD g.K Z M H v d) (e : iterO d h = some it) : ∃ a vs, v = .ref a ∧ SqB g.K (isL d) H a vs ∧ ItS g Z M H (isL d) it a := by
  unfold iterO at e
  cases d with
  | ref n =>
    dsimp only at e
    cases hc : h[n]? with
    | none => rw [hc] at e; cases e
    | some cc =>
      rw [hc] at e; cases e
      cases cc with
      | lst xs =>
        cases r with
        | ref m =>
          obtain ⟨vs, a1, a2⟩ := R.cell hc m
          refine ⟨_, vs, rfl, .inl (.inl a1), fun M' H' h' i o x R' q => ?_⟩
          rw [itAt] at q
          cases hc' : h'[n]? with
          | none => rw [hc'] at q; cases q
          | some cc' =>
            cases cc' with
            | lst ys =>
              rw [hc'] at q
              obtain ⟨ws, b1, b2⟩ := R'.cell hc' (x.at_ m)
              refine ⟨ws, .inl (.inl b1), ?_⟩
              have q : ys[i]? = o := Option.some.inj q
              subst q
              cases ey : ys[i]? with
              | none => rw [b2.length]; exact List.getElem?_eq_none_iff.mp ey
              | some y => exact b2.get ey
  | tup xs =>
    cases e
    cases r with
    | tup t r =>
      refine ⟨_, _, rfl, t.sqt, fun M' H' h' i o x R' q => ⟨_, (t.mono x).sqt, ?_⟩⟩
      have q : xs[i]? = o := Option.some.inj q
      subst q
      cases ey : xs[i]? with
      | none => rw [r.length]; exact List.getElem?_eq_none_iff.mp ey
      | some y =>
        obtain ⟨v, h1, h2⟩ := r.get ey
        exact ⟨v, h1, h2.mono x⟩
  | lst xs =>
    cases e
    cases r with
    | lst t n r =>
      refine ⟨_, _, rfl, .inl (.inl t), fun M' H' h' i o x R' q => ⟨_, .inl (.inl (x.keep _ _ t n (fun ps => by intro q; cases q))), ?_⟩⟩
      have q : xs[i]? = o := Option.some.inj q
      subst q
      cases ey : xs[i]? with
      | none => rw [r.length]; exact List.getElem?_eq_none_iff.mp ey
      | some y =>
        obtain ⟨v, h1, h2⟩ := r.get ey
        exact ⟨v, h1, h2.mono x⟩
  | lok xs =>
    cases e
    cases r with
    | lok t r =>
      refine ⟨_, _, rfl, t.sql, fun M' H' h' i o x R' q => ⟨_, (t.mono x).sql, ?_⟩⟩
      have q : xs[i]? = o := Option.some.inj q
      subst q
      cases ey : xs[i]? with
      | none => rw [r.length]; exact List.getElem?_eq_none_iff.mp ey
      | some y =>
        obtain ⟨v, h1, h2⟩ := r.get ey
        exact ⟨v, h1, h2.mono x⟩
  | _ => cases e
theorem ItS.mono {M M1 : List Addr} {H H1 : Hp} {b : Bool} {it : DIt} {a : Addr} {Z : Spx} (s : ItS g Z M H b it a) (e : Ext M H M1 H1) : ItS g Z M1 H1 b it a := fun M' H' h i o x => s M' H' h i o (e.trans x)
theorem jok_L {M : List Addr} {H : Hp} {it : DIt} {a : Addr} {Z : Spx} (s : ItS g Z M H true it a) : JOk g Z M H it (Itl g.K a) := by
  refine ⟨fun M' H' h i d e R q => ?_, fun M' H' h i e R q => ?_⟩
  · obtain ⟨vs, hs, v, hv, rv⟩ := s M' H' h i _ e R q
    refine ⟨⟨vs, v, hs, hv⟩, fun x H'' y => ?_⟩
    obtain ⟨rfl, y⟩ := y
    have := y vs hs
    rw [hv] at this
    cases this
    exact ⟨fun _ _ z => z, rv⟩
  · obtain ⟨vs, hs, hl⟩ := s M' H' h i _ e R q
    exact ⟨vs, hs, hl⟩
theorem jok_T {M : List Addr} {H : Hp} {it : DIt} {a : Addr} {Z : Spx} (s : ItS g Z M H false it a) : JOk g Z M H it (Itt g.K a) := by
  refine ⟨fun M' H' h i d e R q => ?_, fun M' H' h i e R q => ?_⟩
  · obtain ⟨vs, hs, v, hv, rv⟩ := s M' H' h i _ e R q
    refine ⟨⟨vs, v, hs, hv⟩, fun x H'' y => ?_⟩
    obtain ⟨rfl, y⟩ := y
    have := y vs hs
    rw [hv] at this
    cases this
    exact ⟨fun _ _ z => z, rv⟩
  · obtain ⟨vs, hs, hl⟩ := s M' H' h i _ e R q
    exact ⟨vs, hs, hl⟩
theorem pair_rd {M : List Addr} {H : Hp} {h : Hh} {x y : V} {d e : D} {T : Addr} {Z : Spx} (R : RelH g Z M H h) (hT : H T = none) (r : RD g.K Z M H x d) (q : RD g.K Z M H y e) : RD g.K Z M (upd H T (.tup [x, y])) (.ref T) (.tup [d, e]) :=
  .tup (.tup upd_same (R.fresh hT)) (.cons (r.mono (Ext.upd hT)) (.cons (q.mono (Ext.upd hT)) .nil))
theorem jok_enm {M : List Addr} {H : Hp} {it : DIt} {a : Addr} {Z : Spx} (s : ItS g Z M H true it a) : JOk g Z M H (.enm it) (Ite g.K a) := by
  refine ⟨fun M' H' h i d e R q => ?_, fun M' H' h i e R q => ?_⟩
  · unfold itAt at q
    obtain ⟨o, q1, q2⟩ := Option.map_eq_some_iff.mp q
    obtain ⟨d', rfl, rfl⟩ := Option.map_eq_some_iff.mp q2
    obtain ⟨vs, hs, v, hv, rv⟩ := s M' H' h i _ e R q1
    refine ⟨⟨vs, v, hs, hv⟩, fun x H'' y => ?_⟩
    obtain ⟨T, x', rfl, hT, rfl, y⟩ := y
    have := y vs hs
    rw [hv] at this
    cases this
    exact ⟨fun b u z => by rw [upd_ne (ne_of_none z hT)]; exact z, pair_rd R hT (.int _) rv⟩
  · unfold itAt at q
    obtain ⟨o, q1, q2⟩ := Option.map_eq_some_iff.mp q
    obtain rfl := Option.map_eq_none_iff.mp q2
    obtain ⟨vs, hs, hl⟩ := s M' H' h i _ e R q1
    exact ⟨vs, hs, hl⟩
theorem zip_at {a b : DIt} {h : Hh} {i : Nat} {o : Option D} (e : itAt (.zip a b) h i = some o) : (∃ x y, itAt a h i = some (some x) ∧ itAt b h i = some (some y) ∧ o = some (.tup [x, y])) ∨
    (o = none ∧ ∃ p q, itAt a h i = some p ∧ itAt b h i = some q ∧ (p = none ∨ q = none)) := by
  rw [itAt] at e
  split at e
  · rename_i x y h1 h2; cases e; exact .inl ⟨x, y, h1, h2, rfl⟩
  · rename_i o' h1 h2; cases e; exact .inr ⟨rfl, _, _, h1, h2, .inl rfl⟩
  · rename_i x h1 h2; cases e; exact .inr ⟨rfl, _, _, h1, h2, .inr rfl⟩
  · cases e
theorem its_any {M : List Addr} {H : Hp} {b : Bool} {it : DIt} {a : Addr} {Z : Spx} (s : ItS g Z M H b it a) {M' H' h} {i : Nat} {o : Option D} (e : Ext M H M' H') (R : RelH g Z M' H' h) (q : itAt it h i = some o) : ∃ vs, SqB g.K b H' a vs ∧ (o = none → vs.length ≤ i) := by
  obtain ⟨vs, hs, h1⟩ := s M' H' h i o e R q
  exact ⟨vs, hs, fun z => by subst z; exact h1⟩
theorem jok_zipL {M : List Addr} {H : Hp} {it it2 : DIt} {a b : Addr} {Z : Spx} (s : ItS g Z M H true it a) (s2 : ItS g Z M H true it2 b) : JOk g Z M H (.zip it it2) (Itz g.K a b) := by
  refine ⟨fun M' H' h i d e R q => ?_, fun M' H' h i e R q => ?_⟩
  · rcases zip_at q with ⟨x, y, h1, h2, e1⟩ | ⟨z, _⟩
    · cases e1
      obtain ⟨vs, hs, v, hv, rv⟩ := s M' H' h i _ e R h1
      obtain ⟨ws, ht, w, hw, rw'⟩ := s2 M' H' h i _ e R h2
      refine ⟨⟨vs, ws, v, w, hs, ht, hv, hw⟩, fun x H'' y => ?_⟩
      obtain ⟨T, x', y', rfl, hT, rfl, y1, y2⟩ := y
      have z1 := y1 vs hs
      rw [hv] at z1
      have z2 := y2 ws ht
      rw [hw] at z2
      cases z1; cases z2
      exact ⟨fun b u z => by rw [upd_ne (ne_of_none z hT)]; exact z, pair_rd R hT rv rw'⟩
    · cases z
  · rcases zip_at q with ⟨x, y, h1, h2, e1⟩ | ⟨_, p, p2, h1, h2, hn⟩
    · cases e1
    · obtain ⟨vs, hs, k1⟩ := its_any s e R h1
      obtain ⟨ws, ht, k2⟩ := its_any s2 e R h2
      exact ⟨vs, ws, hs, ht, hn.elim (fun z => .inl (k1 z)) fun z => .inr (k2 z)⟩
theorem jok_zipT {M : List Addr} {H : Hp} {it it2 : DIt} {a b : Addr} {Z : Spx} (s : ItS g Z M H false it a) (s2 : ItS g Z M H false it2 b) : JOk g Z M H (.zip it it2) (RZ.ItzT g.K a b) := by
  refine ⟨fun M' H' h i d e R q => ?_, fun M' H' h i e R q => ?_⟩
  · rcases zip_at q with ⟨x, y, h1, h2, e1⟩ | ⟨z, _⟩
    · cases e1
      obtain ⟨vs, hs, v, hv, rv⟩ := s M' H' h i _ e R h1
      obtain ⟨ws, ht, w, hw, rw'⟩ := s2 M' H' h i _ e R h2
      refine ⟨⟨vs, ws, v, w, hs, ht, hv, hw⟩, fun x H'' y => ?_⟩
      obtain ⟨T, x', y', rfl, hT, rfl, y1, y2⟩ := y
      have z1 := y1 vs hs
      rw [hv] at z1
      have z2 := y2 ws ht
      rw [hw] at z2
      cases z1; cases z2
      exact ⟨fun b u z => by rw [upd_ne (ne_of_none z hT)]; exact z, pair_rd R hT rv rw'⟩
    · cases z
  · rcases zip_at q with ⟨x, y, h1, h2, e1⟩ | ⟨_, p, p2, h1, h2, hn⟩
    · cases e1
    · obtain ⟨vs, hs, k1⟩ := its_any s e R h1
      obtain ⟨ws, ht, k2⟩ := its_any s2 e R h2
      exact ⟨vs, ws, hs, ht, hn.elim (fun z => .inl (k1 z)) fun z => .inr (k2 z)⟩
theorem qi_any (C : CxOk g X c k) {e : Expr} {m : ME D} (h : QE g X c m e) : QI g X c tg (mIter m) e := by
  refine PI.imp (pi_any h) fun σ H RI q => ?_
  obtain ⟨M, l, hh, R, L, p⟩ := q
  refine ri_bind R L p fun M1 H1 h1 x a e1 R1 L1 r1 p1 => ?_
  unfold iterD at p1
  cases ei : iterO a h1 with
  | none => rw [ei] at p1; exact p1.elim
  | some it =>
    rw [ei] at p1
    obtain ⟨b, vs, rfl, hs, its⟩ := itS_of R1 r1 ei
    have p2 : ∀ J, JOk g c.Z M1 H1 it J → RI J H1 := fun J jk => p1 M1 H1 J (Ext.refl _ _) R1 jk
    generalize isL a = bb at hs its
    cases bb with
    | true => exact .inl ⟨b, vs, rfl, by rw [C.hK]; exact hs, by rw [C.hK]; exact p2 _ (jok_L its)⟩
    | false => exact .inr ⟨b, vs, rfl, by rw [C.hK]; exact hs, by rw [C.hK]; exact p2 _ (jok_T its)⟩
/-! ### zip, enumerate -/
def zipD : List D → ME DIt
  | [x, y] => fun _ h => if isL x = isL y then (match iterO x h, iterO y h with
    | some a, some b => .ok (.zip a b) h
    | _, _ => .bad) else .bad
  | _ => mBad
def mZip (m : ME (List D)) : ME DIt := mBind m zipD
theorem qi_zip (C : CxOk g X c k) {a b : Expr} {elts : List Expr} {kk : Nat} {tpos : Pos} {m : ME (List D)} {p pos : Pos} (hg : c.sc.names.lookup ("zip" : Str) = some .globalImplicit) (hm : g.mg "zip" = none) (h : QA g X c m [a, b])
    (hs : starEach [a, b] X.env = (false, eval a X.env) :: starEach [b] X.env) (hpl : (backTo pos (starEach [b] X.env)).any (·.1) = false) :
    QI g X c (.Tuple elts kk tpos) (mZip m) (.Call (.Name "zip" p) [a, b] [] pos) := by
  have gl : Gl X "zip" := by
    show X.env.scope.names.lookup _ = _
    rw [C.hsc]; exact hg
  refine PI.imp (RZ.pi_zipA gl (by rw [C.hmg]; exact hm) h hs hpl) fun σ H RI q => ?_
  obtain ⟨M, l, hh, R, L, p⟩ := q
  refine ri_bind R L p fun M1 H1 h1 x a e1 R1 L1 r1 p1 => ?_
  unfold zipD at p1
  split at p1
  · rename_i x y
    by_cases hk : isL x = isL y
    · rw [if_pos hk] at p1
      cases e1 : iterO x h1 with
      | none => rw [e1] at p1; exact p1.elim
      | some it =>
        cases e2 : iterO y h1 with
        | none => rw [e1, e2] at p1; exact p1.elim
        | some it2 =>
          rw [e1, e2] at p1
          have p2 : ∀ J, JOk g c.Z M1 H1 (.zip it it2) J → RI J H1 := fun J jk => p1 M1 H1 J (Ext.refl _ _) R1 jk
          cases r1 with
          | cons r t =>
            cases t with
            | cons r' t =>
              cases t
              obtain ⟨a1, v1, rfl, h1, i1⟩ := itS_of R1 r e1
              obtain ⟨a2, v2, rfl, h2, i2⟩ := itS_of R1 r' e2
              rw [← hk] at h2 i2
              generalize isL x = bb at h1 i1 h2 i2
              refine ⟨a1, a2, v1, v2, rfl, ?_⟩
              rw [C.hK]
              cases bb with
              | true => exact .inl ⟨h1, h2, p2 _ (jok_zipL i1 i2)⟩
              | false => exact .inr ⟨h1, h2, p2 _ (jok_zipT i1 i2)⟩
    · rw [if_neg hk] at p1; exact p1.elim
  · exact p1.elim
def enmD : List D → ME DIt
  | [x] => fun _ h => if isL x = true then (match iterO x h with
    | some a => .ok (.enm a) h
    | none => .bad) else .bad
  | _ => mBad
def mEnm (m : ME (List D)) : ME DIt := mBind m enmD
theorem qi_enm (C : CxOk g X c k) {a : Expr} {elts : List Expr} {kk : Nat} {tpos : Pos} {m : ME (List D)} {p pos : Pos} (hg : c.sc.names.lookup ("enumerate" : Str) = some .globalImplicit) (hm : g.mg "enumerate" = none) (h : QA g X c m [a])
    (hs : starEach [a] X.env = [(false, eval a X.env)]) : QI g X c (.Tuple elts kk tpos) (mEnm m) (.Call (.Name "enumerate" p) [a] [] pos) := by
  have gl : Gl X "enumerate" := by
    show X.env.scope.names.lookup _ = _
    rw [C.hsc]; exact hg
  refine PI.imp (pi_enum gl (by rw [C.hmg]; exact hm) h hs) fun σ H RI q => ?_
  obtain ⟨M, l, hh, R, L, p⟩ := q
  refine ri_bind R L p fun M1 H1 h1 x a e1 R1 L1 r1 p1 => ?_
  unfold enmD at p1
  split at p1
  · rename_i x
    by_cases hk : isL x = true
    · rw [if_pos hk] at p1
      cases e1 : iterO x h1 with
      | none => rw [e1] at p1; exact p1.elim
      | some it =>
        rw [e1] at p1
        cases r1 with
        | cons r t =>
          cases t
          obtain ⟨a1, v1, rfl, h1, i1⟩ := itS_of R1 r e1
          rw [hk] at h1 i1
          refine ⟨a1, v1, rfl, by rw [C.hK]; exact h1, ?_⟩
          rw [C.hK]
          exact p1 M1 H1 _ (Ext.refl _ _) R1 (jok_enm i1)
    · rw [if_neg hk] at p1; exact p1.elim
  · exact p1.elim
/-- the ints lo, lo + 1, .. -/
def intsFrom (lo step : Int) (n : Nat) : List D := (List.range n).map fun i => .int (lo + (i : Nat) * step)
theorem intsFrom_get {lo st : Int} {n i : Nat} {d : D} (h : (intsFrom lo st n)[i]? = some d) : i < n ∧ d = .int (lo + (i : Nat) * st) := by
  unfold intsFrom at h
  rw [List.getElem?_map] at h
  by_cases hi : i < n
  · rw [List.getElem?_range hi] at h
    cases h; exact ⟨hi, rfl⟩
  · rw [List.getElem?_eq_none (by simpa using hi)] at h; cases h
theorem intsFrom_len {lo st : Int} {n : Nat} : (intsFrom lo st n).length = n := by simp [intsFrom]
def rngB (i : Int) : Bool := decide (-(2 ^ 62) ≤ i ∧ i < 2 ^ 62)
def range1D : List D → ME DIt
  | [.int j] => fun _ h => if rngB j = true then .ok (.fix (intsFrom 0 1 j.toNat)) h else .bad
  | _ => mBad
def range2D : List D → ME DIt
  | [.int i, .int j] => fun _ h => if rngB i = true ∧ rngB j = true then .ok (.fix (intsFrom i 1 (j - i).toNat)) h else .bad
  | _ => mBad
def rgC (i j c : Int) : Bool := decide (c ≠ 0) && decide (c.natAbs < 1073741824) && Builtin.Range.small i j c
def range3D : List D → ME DIt
  | [.int i, .int j, .int c] => fun _ h => if rgC i j c = true then .ok (.fix (intsFrom i c (Builtin.Range.rangeSize i j c).toNat)) h else .bad
  | _ => mBad
def mRange1 (m : ME (List D)) : ME DIt := mBind m range1D
def mRange2 (m : ME (List D)) : ME DIt := mBind m range2D
def mRange3 (m : ME (List D)) : ME DIt := mBind m range3D
theorem jok_rng {M : List Addr} {H : Hp} {lo : Int} {n : Nat} : JOk g c.Z M H (.fix (intsFrom lo 1 n)) (Itr lo n) := by
  refine ⟨fun M' H' h i d e R q => ?_, fun M' H' h i e R q => ?_⟩
  · obtain ⟨h1, rfl⟩ := intsFrom_get (Option.some.inj q)
    refine ⟨h1, fun x H'' y => ?_⟩
    obtain ⟨rfl, rfl⟩ := y
    exact ⟨fun _ _ z => z, by rw [Int.mul_one]; exact .int _⟩
  · have q : (intsFrom lo 1 n)[i]? = none := Option.some.inj q
    have := List.getElem?_eq_none_iff.mp q
    rw [intsFrom_len] at this
    exact this
theorem jok_rngC {M : List Addr} {H : Hp} {lo st : Int} {n : Nat} : JOk g c.Z M H (.fix (intsFrom lo st n)) (Itc lo st n) := by
  refine ⟨fun M' H' h i d e R q => ?_, fun M' H' h i e R q => ?_⟩
  · obtain ⟨h1, rfl⟩ := intsFrom_get (Option.some.inj q)
    refine ⟨h1, fun x H'' y => ?_⟩
    obtain ⟨rfl, rfl⟩ := y
    exact ⟨fun _ _ z => z, .int _⟩
  · have q : (intsFrom lo st n)[i]? = none := Option.some.inj q
    have := List.getElem?_eq_none_iff.mp q
    rw [intsFrom_len] at this
    exact this
theorem rngB_iff {i : Int} (h : rngB i = true) : -(2 ^ 62) ≤ i ∧ i < 2 ^ 62 := of_decide_eq_true h
theorem qi_range1 (C : CxOk g X c k) {a : Expr} {m : ME (List D)} {p pos : Pos} (hg : c.sc.names.lookup ("range" : Str) = some .globalImplicit) (hm : g.mg "range" = none) (h : QA g X c m [a]) (hs : starEach [a] X.env = [(false, eval a X.env)]) :
    QI g X c tg (mRange1 m) (.Call (.Name "range" p) [a] [] pos) := by
  have gl : Gl X "range" := by
    show X.env.scope.names.lookup _ = _
    rw [C.hsc]; exact hg
  refine PI.imp (pi_range1 gl (by rw [C.hmg]; exact hm) h hs) fun σ H RI q => ?_
  obtain ⟨M, l, hh, R, L, p⟩ := q
  refine ri_bind R L p fun M1 H1 h1 x a e1 R1 L1 r1 p1 => ?_
  unfold range1D at p1
  split at p1
  · rename_i j
    by_cases hj : rngB j = true
    · rw [if_pos hj] at p1
      cases r1 with
      | cons r t =>
        cases t; cases r
        exact ⟨j, rfl, (rngB_iff hj).1, (rngB_iff hj).2, p1 M1 H1 _ (Ext.refl _ _) R1 jok_rng⟩
    · rw [if_neg hj] at p1; exact p1.elim
  · exact p1.elim
theorem qi_range2 (C : CxOk g X c k) {a b : Expr} {m : ME (List D)} {p pos : Pos} (hg : c.sc.names.lookup ("range" : Str) = some .globalImplicit) (hm : g.mg "range" = none) (h : QA g X c m [a, b]) (hs : starEach [a, b] X.env = [(false, eval a X.env), (false, eval b X.env)]) (hs2 : starEach [b] X.env = [(false, eval b X.env)]) :
    QI g X c tg (mRange2 m) (.Call (.Name "range" p) [a, b] [] pos) := by
  have gl : Gl X "range" := by
    show X.env.scope.names.lookup _ = _
    rw [C.hsc]; exact hg
  refine PI.imp (pi_range2 gl (by rw [C.hmg]; exact hm) h hs hs2) fun σ H RI q => ?_
  obtain ⟨M, l, hh, R, L, p⟩ := q
  refine ri_bind R L p fun M1 H1 h1 x a e1 R1 L1 r1 p1 => ?_
  unfold range2D at p1
  split at p1
  · rename_i i j
    by_cases hj : rngB i = true ∧ rngB j = true
    · rw [if_pos hj] at p1
      cases r1 with
      | cons r t =>
        cases t with
        | cons r' t =>
          cases t; cases r; cases r'
          exact ⟨i, j, rfl, ⟨(rngB_iff hj.1).1, (rngB_iff hj.1).2, (rngB_iff hj.2).1, (rngB_iff hj.2).2⟩, p1 M1 H1 _ (Ext.refl _ _) R1 jok_rng⟩
    · rw [if_neg hj] at p1; exact p1.elim
  · exact p1.elim
theorem rangeSize_nn (i j c : Int) : 0 ≤ Builtin.Range.rangeSize i j c := by
  unfold Builtin.Range.rangeSize
  split
  · split
    · have := Int.ediv_nonneg (a := j - i - 1) (b := c) (by omega) (by omega)
      omega
    · omega
  · split
    · have := Int.ediv_nonneg (a := i - j - 1) (b := -c) (by omega) (by omega)
      omega
    · omega
theorem qi_range3 (C : CxOk g X c k) {a b d : Expr} {m : ME (List D)} {p pos : Pos} (hg : c.sc.names.lookup ("range" : Str) = some .globalImplicit) (hm : g.mg "range" = none) (h : QA g X c m [a, b, d]) (hs : starEach [a, b, d] X.env = (false, eval a X.env) :: starEach [b, d] X.env) (hs2 : (backTo pos (starEach [b, d] X.env)).any (·.1) = false) :
    QI g X c tg (mRange3 m) (.Call (.Name "range" p) [a, b, d] [] pos) := by
  have gl : Gl X "range" := by
    show X.env.scope.names.lookup _ = _
    rw [C.hsc]; exact hg
  refine PI.imp (pi_range3 gl (by rw [C.hmg]; exact hm) h hs hs2) fun σ H RI q => ?_
  obtain ⟨M, l, hh, R, L, p⟩ := q
  refine ri_bind R L p fun M1 H1 h1 x a e1 R1 L1 r1 p1 => ?_
  unfold range3D at p1
  split at p1
  · rename_i i j st
    by_cases hj : rgC i j st = true
    · rw [if_pos hj] at p1
      unfold rgC at hj
      simp only [Bool.and_eq_true, decide_eq_true_eq] at hj
      cases r1 with
      | cons r t =>
        cases t with
        | cons r' t =>
          cases t with
          | cons r'' t =>
            cases t; cases r; cases r'; cases r''
            refine ⟨i, j, st, (Builtin.Range.rangeSize i j st).toNat, rfl, ⟨hj.1.1, hj.1.2, hj.2, ?_⟩, p1 M1 H1 _ (Ext.refl _ _) R1 jok_rngC⟩
            exact (Int.toNat_of_nonneg (rangeSize_nn i j st)).symm
    · rw [if_neg hj] at p1; exact p1.elim
  · exact p1.elim
end
end WW
/-! 11: for, while, comprehensions. -/
namespace WW
open PySem PySem.Spec PyProof.Rows L2
/-! ### for -/
def loopF (it : DIt) (tg : MG) (body : MS) : Nat → Nat → MS
  | n, i => fun l h => match itAt it h i with
    | some none => .nx l h
    | some (some d) => (match n with
      | 0 => .bad
      | n + 1 => (match tg d l h with
        | .ok l1 h1 => (match body l1 h1 with
          | .nx l2 h2 => loopF it tg body n (i + 1) l2 h2
          | .ct l2 h2 => loopF it tg body n (i + 1) l2 h2
          | .bk l2 h2 => .nx l2 h2
          | .rt v h2 => .rt v h2
          | .exc e l2 h2 => .exc e l2 h2
          | .bad => .bad)
        | .exc e h1 => .exc e l h1
        | .bad => .bad))
    | none => .bad
def sFor (mi : ME DIt) (tg : MG) (body : MS) : MS := sBind mi fun it l h => loopF it tg body (itLen it h) 0 l h
section
variable {g : Gx} {X : Cx} {c : Cs} {k : Nat}
theorem qs_for (C : CxOk g X c k) (hc : c.calm = true) {tg iter : Expr} {body : List Stmt} {mi : ME DIt} {mt : MG} {mb : MS} {pos : Pos} (hi : QI g X c tg mi iter) (hg : QG g X c mt tg) (hb : QSs g X c mb body)
    (hs : ∀ x, foldedSetIterable iter X.env x = pure x) : QS g X c (sFor mi mt mb) (.For tg iter body [] pos) := by
  refine PS.imp (ps_for C.own (by rw [C.hcalm]; exact hc) hi hg hb hs) fun D σ H q => ?_
  obtain ⟨M, l, h, R, L, p⟩ := q
  refine ⟨M, l, h, R, L, ?_⟩
  unfold sFor sBind at p
  cases e : mi l h with
  | bad => rw [e] at p; exact p
  | exc e' h' =>
    rw [e] at p
    exact fun M1 H1 cv d x r q => p M1 H1 σ cv d x r (L.mono x) q
  | ok it h1 =>
    rw [e] at p
    intro M1 H1 J x1 R1 jk
    refine ⟨fun i m σ H => ∃ M2 l2 h2, Ext M1 H1 M2 H ∧ RelH g c.Z M2 H h2 ∧ RL g.K c.Z M2 H σ l2 ∧ SPost g c D M2 H σ (loopF it mt mb m i l2 h2), ⟨itLen it h1, M1, l, h1, Ext.refl _ _, R1, L.mono x1, p.mono x1⟩, fun i m σ2 H2 w => ?_⟩
    obtain ⟨M2, l2, h2, x2, R2, L2, p2⟩ := w
    unfold loopF at p2
    cases ei : itAt it h2 i with
    | none => rw [ei] at p2; exact p2.elim
    | some o =>
      cases o with
      | none =>
        rw [ei] at p2
        exact .inl ⟨jk.stop M2 H2 h2 i x2 R2 ei, p2 M2 H2 σ2 (Ext.refl _ _) R2 L2⟩
      | some d =>
        rw [ei] at p2
        dsimp only at p2
        obtain ⟨jg, jy⟩ := jk.go M2 H2 h2 i d x2 R2 ei
        cases m with
        | zero => exact p2.elim
        | succ n =>
          dsimp only at p2
          refine .inr ⟨jg, fun σ H => ∃ M2 l2 h2, Ext M1 H1 M2 H ∧ RelH g c.Z M2 H h2 ∧ RL g.K c.Z M2 H σ l2 ∧ SPost g c D M2 H σ (loopF it mt mb n (i + 1) l2 h2), fun σ' H' w => ⟨n, Nat.lt_succ_self n, w⟩, fun x H' y => ?_⟩
          obtain ⟨gr, rx⟩ := jy x H' y
          have x3 := Ext.grow (M := M2) gr
          refine ⟨M2, l2, h2, d, R2.grow gr, L2.mono x3, rx, ?_⟩
          cases et : mt d l2 h2 with
          | bad => rw [et] at p2; exact p2
          | exc e' h3 =>
            rw [et] at p2
            exact fun M' H' cv dd x r q => p2 M' H' σ2 cv dd (x3.trans x) r ((L2.mono x3).mono x) q
          | ok l3 h3 =>
            rw [et] at p2
            dsimp only at p2
            intro M4 H4 σ4 x4 R4 L4
            refine ⟨M4, l3, h3, R4, L4, ?_⟩
            have xx := (x2.trans x3).trans x4
            cases eb : mb l3 h3 with
            | bad => rw [eb] at p2; exact p2
            | nx l5 h5 =>
              rw [eb] at p2
              exact fun M5 H5 σ5 x5 R5 L5 => ⟨M5, l5, h5, xx.trans x5, R5, L5, p2.mono ((x3.trans x4).trans x5)⟩
            | ct l5 h5 =>
              rw [eb] at p2
              exact fun M5 H5 σ5 x5 R5 L5 => ⟨M5, l5, h5, xx.trans x5, R5, L5, p2.mono ((x3.trans x4).trans x5)⟩
            | bk l5 h5 =>
              rw [eb] at p2
              exact fun M5 H5 σ5 x5 R5 L5 => p2 M5 H5 σ5 ((x3.trans x4).trans x5) R5 L5
            | rt v h5 =>
              rw [eb] at p2
              exact fun M5 H5 v x5 R5 r5 => p2 M5 H5 v ((x3.trans x4).trans x5) R5 r5
            | exc e' l5 h5 =>
              rw [eb] at p2
              exact fun M5 H5 σ5 cv dd x5 R5 L5 q5 => p2 M5 H5 σ5 cv dd ((x3.trans x4).trans x5) R5 L5 q5
/-! ### while -/
def loopW (t : ME Bool) (body : MS) : Nat → MS
  | 0 => fun l h => match t l h with
    | .ok true _ => .bad
    | .ok false h1 => .nx l h1
    | .exc e h1 => .exc e l h1
    | .bad => .bad
  | n + 1 => fun l h => match t l h with
    | .ok true h1 => (match body l h1 with
      | .nx l2 h2 => loopW t body n l2 h2
      | .ct l2 h2 => loopW t body n l2 h2
      | .bk l2 h2 => .nx l2 h2
      | .rt v h2 => .rt v h2
      | .exc e l2 h2 => .exc e l2 h2
      | .bad => .bad)
    | .ok false h1 => .nx l h1
    | .exc e h1 => .exc e l h1
    | .bad => .bad
open Classical in
noncomputable def sWhile (t : ME Bool) (body : MS) : MS := fun l h => if q : ∃ n, loopW t body n l h ≠ .bad then loopW t body (Classical.choose q) l h else .bad
theorem loopW_mono {t : ME Bool} {body : MS} : ∀ (n : Nat) (l : Lc) (h : Hh), loopW t body n l h ≠ .bad → loopW t body (n + 1) l h = loopW t body n l h := by
  intro n
  induction n with
  | zero =>
    intro l h q
    simp only [loopW] at q ⊢
    cases e : t l h with
    | ok b h1 =>
      rw [e] at q
      cases b with
      | true => exact absurd rfl q
      | false => rfl
    | exc e' h1 => rfl
    | bad => rfl
  | succ n ih =>
    intro l h q
    rw [loopW] at q ⊢
    conv => rhs; rw [loopW]
    dsimp only at q ⊢
    cases e : t l h with
    | ok b h1 =>
      rw [e] at q
      cases b with
      | true =>
        dsimp only at q ⊢
        cases eb : body l h1 with
        | nx l2 h2 => rw [eb] at q; exact ih l2 h2 q
        | ct l2 h2 => rw [eb] at q; exact ih l2 h2 q
        | _ => rfl
      | false => rfl
    | exc e' h1 => rfl
    | bad => rfl
theorem loopW_le {t : ME Bool} {body : MS} {l : Lc} {h : Hh} {n m : Nat} (hle : n ≤ m) (q : loopW t body n l h ≠ .bad) : loopW t body m l h = loopW t body n l h := by
  induction hle with
  | refl => rfl
  | step hle ih => rw [loopW_mono _ _ _ (by rw [ih]; exact q), ih]
theorem sWhile_of {t : ME Bool} {body : MS} {l : Lc} {h : Hh} (n : Nat) (q : loopW t body n l h ≠ .bad) : sWhile t body l h = loopW t body n l h := by
  unfold sWhile
  have z : ∃ n, loopW t body n l h ≠ .bad := ⟨n, q⟩
  rw [dif_pos z]
  rcases Nat.le_total n (Classical.choose z) with h1 | h1
  · exact loopW_le h1 q
  · exact (loopW_le h1 (Classical.choose_spec z)).symm
theorem sWhile_at {t : ME Bool} {body : MS} {l : Lc} {h : Hh} (q : sWhile t body l h ≠ .bad) : ∃ n, sWhile t body l h = loopW t body n l h := by
  unfold sWhile at q ⊢
  by_cases z : ∃ n, loopW t body n l h ≠ .bad
  · rw [dif_pos z]; exact ⟨_, rfl⟩
  · rw [dif_neg z] at q; exact absurd rfl q
theorem qs_while (C : CxOk g X c k) {t : Expr} {body : List Stmt} {mt : ME Bool} {mb : MS} {pos : Pos} (ht : QT g X c mt t) (hb : QSs g X c mb body) : QS g X c (sWhile mt mb) (.While t body [] pos) := by
  refine PS.imp (ps_while C.own ht hb) fun D σ H q => ?_
  obtain ⟨M, l, h, R, L, p⟩ := q
  have hnb : sWhile mt mb l h ≠ .bad := fun z => by rw [z] at p; exact p
  obtain ⟨n, en⟩ := sWhile_at hnb
  rw [en] at p
  refine ⟨fun m σ H => ∃ M2 l2 h2, RelH g c.Z M2 H h2 ∧ RL g.K c.Z M2 H σ l2 ∧ SPost g c D M2 H σ (loopW mt mb m l2 h2), ⟨n, M, l, h, R, L, p⟩, fun m σ H w => ?_⟩
  obtain ⟨M2, l2, h2, R2, L2, p2⟩ := w
  refine ⟨M2, l2, h2, R2, L2, ?_⟩
  cases e : mt l2 h2 with
  | bad => cases m <;> (simp only [loopW, e] at p2; exact p2)
  | exc e' h3 =>
    have p3 : SPost g c D M2 H σ (.exc e' l2 h3) := by cases m <;> (simp only [loopW, e] at p2; exact p2)
    exact fun M' H' cv d x r q => p3 M' H' σ cv d x r (L2.mono x) q
  | ok b h3 =>
    intro M3 H3 b' x3 R3 rb
    cases rb
    cases b with
    | false =>
      rw [if_neg Bool.false_ne_true]
      have p3 : SPost g c D M2 H σ (.nx l2 h3) := by cases m <;> (simp only [loopW, e] at p2; exact p2)
      exact p3 M3 H3 σ x3 R3 (L2.mono x3)
    | true =>
      rw [if_pos rfl]
      cases m with
      | zero => simp only [loopW, e] at p2; exact p2.elim
      | succ n =>
        rw [loopW] at p2
        dsimp only at p2
        rw [e] at p2
        dsimp only at p2
        refine ⟨fun σ H => ∃ M2 l2 h2, RelH g c.Z M2 H h2 ∧ RL g.K c.Z M2 H σ l2 ∧ SPost g c D M2 H σ (loopW mt mb n l2 h2), fun σ' H' w => ⟨n, Nat.lt_succ_self n, w⟩, M3, l2, h3, R3, L2.mono x3, ?_⟩
        cases eb : mb l2 h3 with
        | bad => rw [eb] at p2; exact p2
        | nx l5 h5 =>
          rw [eb] at p2
          exact fun M5 H5 σ5 x5 R5 L5 => ⟨M5, l5, h5, R5, L5, p2.mono (x3.trans x5)⟩
        | ct l5 h5 =>
          rw [eb] at p2
          exact fun M5 H5 σ5 x5 R5 L5 => ⟨M5, l5, h5, R5, L5, p2.mono (x3.trans x5)⟩
        | bk l5 h5 =>
          rw [eb] at p2
          exact fun M5 H5 σ5 x5 R5 L5 => p2 M5 H5 σ5 (x3.trans x5) R5 L5
        | rt v h5 =>
          rw [eb] at p2
          exact fun M5 H5 v x5 R5 r5 => p2 M5 H5 v (x3.trans x5) R5 r5
        | exc e' l5 h5 =>
          rw [eb] at p2
          exact fun M5 H5 σ5 cv dd x5 R5 L5 q5 => p2 M5 H5 σ5 cv dd (x3.trans x5) R5 L5 q5
end
end WW
/-! 12: list comprehensions. -/
namespace WW
open PySem PySem.Spec PyProof.Rows L2
theorem wipe_get {σ : L2.St} {j : Nat} : ∀ {vs : List Nat}, (wipe σ vs)[j]? = if j ∈ vs ∧ j < σ.length then some none else σ[j]?
  | [] => by simp [wipe]
  | v :: vs => by
    unfold wipe
    by_cases hv : v = j
    · subst hv
      by_cases hl : v < σ.length
      · rw [List.getElem?_set_self (by rw [wipe_length]; exact hl), if_pos ⟨List.mem_cons_self, hl⟩]
      · rw [List.getElem?_eq_none (by rw [List.length_set, wipe_length]; omega), if_neg (fun z => hl z.2), List.getElem?_eq_none (by omega)]
    · rw [List.getElem?_set_ne hv, wipe_get]
      by_cases hm : j ∈ vs ∧ j < σ.length
      · rw [if_pos hm, if_pos ⟨List.mem_cons_of_mem _ hm.1, hm.2⟩]
      · rw [if_neg hm, if_neg (fun z => hm ⟨(List.mem_cons.mp z.1).resolve_left (fun e => hv e.symm), z.2⟩)]
theorem wipe_set {σ : L2.St} {i : Nat} {o : Option V} {vs : List Nat} (h : i ∈ vs) : wipe (σ.set i o) vs = wipe σ vs := by
  apply List.ext_getElem?
  intro j
  rw [wipe_get, wipe_get, List.length_set]
  by_cases hm : j ∈ vs ∧ j < σ.length
  · rw [if_pos hm, if_pos hm]
  · rw [if_neg hm, if_neg hm]
    by_cases hij : i = j
    · subst hij
      have hl : ¬ i < σ.length := fun z => hm ⟨h, z⟩
      rw [List.getElem?_eq_none (by rw [List.length_set]; omega), List.getElem?_eq_none (by omega)]
    · rw [List.getElem?_set_ne hij]
theorem wipe_wipe {σ : L2.St} {vs : List Nat} : wipe (wipe σ vs) vs = wipe σ vs := by
  apply List.ext_getElem?
  intro j
  rw [wipe_get, wipe_get, wipe_length]
  by_cases hm : j ∈ vs ∧ j < σ.length
  · rw [if_pos hm, if_pos hm]
  · rw [if_neg hm]
def wipeL (l : Lc) : List Nat → Lc
  | [] => l
  | v :: vs => (wipeL l vs).set v none
theorem RL.wipe {K : PySem.W.Frag} {Z : Spx} {M : List Addr} {H : Hp} {σ : L2.St} {l : Lc} (r : RL K Z M H σ l) : ∀ vs : List Nat, RL K Z M H (L2.wipe σ vs) (wipeL l vs)
  | [] => r
  | v :: vs => (r.wipe vs).clear
/-! ### targets of a clause: they store the block's own names alone -/
def rgw (g : Gx) (c : Cs) (vs : List Nat) (m : MG) : TG := fun v σ H Q => ∃ M l h d, RelH g c.Z M H h ∧ RL g.K c.Z M H σ l ∧ RD g.K c.Z M H v d ∧ Post g c.Z c.W (fun M' H' σ' l' => RL g.K c.Z M' H' σ' l' ∧ wipe σ' vs = wipe σ vs) M H σ (m d l h) Q
def rgsw (g : Gx) (c : Cs) (vs : List Nat) (m : MGs) : TGs := fun v σ H Q => ∃ M l h d, RelH g c.Z M H h ∧ RL g.K c.Z M H σ l ∧ RDs g.K c.Z M H v d ∧ Post g c.Z c.W (fun M' H' σ' l' => RL g.K c.Z M' H' σ' l' ∧ wipe σ' vs = wipe σ vs) M H σ (m d l h) Q
abbrev QGw (g : Gx) (X : Cx) (c : Cs) (vs : List Nat) (m : MG) (e : Expr) : Prop := PG X e (rgw g c vs m)
abbrev QGsw (g : Gx) (X : Cx) (c : Cs) (vs : List Nat) (m : MGs) (e : List Expr) : Prop := PGs X e (rgsw g c vs m)
section
variable {g : Gx} {X : Cx} {c : Cs} {k : Nat} {vs : List Nat}
theorem qgw_name (C : CxOk g X c k) {i : Nat} {x : Str} {pos : Pos} (hi : c.N[i]? = some x) (hx : Loc c.sc x) (hf : X.fn x = true ∨ c.sc.names.lookup x = some .local) (hv : i ∈ vs) : QGw g X c vs (gNm i) (.Name x pos) := by
  refine PG.imp (pg_name (i := i) (by rw [C.hN]; exact C.nd) (by rw [C.hN]; exact hi) (by rw [C.hsc]; exact hx) (by rw [C.hsc]; exact hf)) fun v σ H Q q => ?_
  obtain ⟨M, l, h, d, R, L, r, p⟩ := q
  exact p M H _ (Ext.refl _ _) R ⟨L.set r, wipe_set hv⟩
theorem qgsw_nil : QGsw g X c vs gsNil [] := by
  refine PGs.imp pgs_nil fun v σ H Q q => ?_
  obtain ⟨M, l, h, d, R, L, r, p⟩ := q
  cases r with
  | nil => exact ⟨rfl, p M H σ (Ext.refl _ _) R ⟨L, rfl⟩⟩
  | cons _ _ => exact p.elim
theorem qgsw_cons {e : Expr} {es : List Expr} {a : MG} {b : MGs} (h1 : QGw g X c vs a e) (h2 : QGsw g X c vs b es) (hs : (assignEach (e :: es) X.env).map (·.2) = assign e X.env :: (assignEach es X.env).map (·.2)) : QGsw g X c vs (gsCons a b) (e :: es) := by
  refine PGs.imp (pgs_cons h1 h2 hs) fun v σ H Q q => ?_
  obtain ⟨M, l, h, d, R, L, r, p⟩ := q
  cases r with
  | nil => exact p.elim
  | cons r rr =>
    rename_i v0 d0 vs0 ds
    refine ⟨v0, vs0, rfl, M, l, h, d0, R, L, r, ?_⟩
    unfold gsCons at p
    dsimp only at p
    cases e1 : a d0 l h with
    | ok l' h' =>
      rw [e1] at p
      dsimp only at p
      intro M1 H1 σ1 x1 R1 L1
      refine ⟨M1, l', h', ds, R1, L1.1, rr.mono x1, ?_⟩
      cases e2 : b ds l' h' with
      | ok l'' h'' =>
        rw [e2] at p
        exact fun M' H' σ' x R' L' => p M' H' σ' (x1.trans x) R' ⟨L'.1, L'.2.trans L1.2⟩
      | exc e' h'' => rw [e2] at p; exact p.elim
      | bad => rw [e2] at p; exact p.elim
    | exc e' h' => rw [e1] at p; exact p.elim
    | bad => rw [e1] at p; exact p.elim
theorem qgw_tup (C : CxOk g X c k) (hc : c.calm = true) {es : List Expr} {b : MGs} {kk : Nat} {pos : Pos} {n : Nat} (h : QGsw g X c vs b es) (hn : (assignEach es X.env).length = n) (hst : (assignEach es X.env).findIdx? (·.1) = none) : QGw g X c vs (gTp n b) (.Tuple es kk pos) := by
  refine PG.imp (pg_tup (n := n) (by rw [C.hcalm]; exact hc) h hn hst) fun v σ H Q q => ?_
  obtain ⟨M, l, h, d, R, L, r, p⟩ := q
  cases d with
  | tup xs =>
    cases r with
    | tup t r =>
      unfold gTp at p
      dsimp only at p
      by_cases hl : xs.length = n
      · rw [if_pos hl] at p
        exact ⟨_, _, rfl, by rw [C.hK]; exact t.sqt, by rw [r.length]; exact hl, M, l, h, xs, R, L, r, p⟩
      · rw [if_neg hl] at p; exact p.elim
  | _ => exact p.elim
/-! ### a clause's tests -/
abbrev QTs (g : Gx) (X : Cx) (c : Cs) (m : ME Bool) (e : List Expr) : Prop := PTs X e (rd g c rB m)
theorem qts_nil : QTs g X c (mRet true) [] := ⟨fun p s σ H Q I q => pts_nil.run p s σ H Q I (by
  obtain ⟨M, l, h, R, L, p⟩ := q
  exact p.ok R rfl)⟩
theorem qts_one {e : Expr} {m : ME Bool} (h : QT g X c m e) : QTs g X c m [e] := pts_one h
end
/-! ### the block -/
abbrev Cs.blk (c : Cs) (scope : Scope) : Cs := { c with sc := relS scope c.sc, W := fun _ _ _ _ => False }
theorem takesF {X : Cx} : Takes X (fun _ _ _ _ => False) := fun _ _ x => by
  obtain ⟨_, _, _, _, _, _, _, _, _, _, _, _, _, _, _, _, z⟩ := x
  exact z.elim
theorem CxOk.blk {g : Gx} {X : Cx} {c : Cs} {k : Nat} (C : CxOk g X c k) (hc : c.calm = true) (scope : Scope) (s : Shared) (H : Hp) (C0 : Addr) (cl : List (Str × Addr)) (fp : List Addr) : CxOk g (X.blk s H scope (compEnvC scope cl C0 X.env) fp) (c.blk scope) k where
  hK := C.hK
  hmg := C.hmg
  hN := C.hN
  nd := C.nd
  hsc := by
    show relabel scope X.env = relS scope c.sc
    rw [← C.hsc]; rfl
  hcalm := C.hcalm
  room := C.room
  units := C.units
  gd := C.gd
  sys := C.sys
  tk := takesF
  own := PassesOwn.never
  nex := C.nex
  pinE := fun a cv d e h => by rw [C.nex hc] at h; cases h
/-! ### the comprehension -/
def compF (it : DIt) (tg : MG) (ts : ME Bool) (e : ME D) (lw : Lc) (r : Nat) : Nat → Nat → Hh → Out Unit
  | n, i, h => match itAt it h i with
    | none => .bad
    | some none => .ok () h
    | some (some d) => (match n with
      | 0 => .bad
      | n + 1 => (match tg d lw h with
        | .ok l1 h1 => (match ts l1 h1 with
          | .ok true h2 => (match e l1 h2 with
            | .ok y h3 => (match h3[r]? with
              | some (.lst acc) => if acc.length < sizeLine then compF it tg ts e lw r n (i + 1) (h3.set r (.lst (acc ++ [y]))) else .bad
              | none => .bad)
            | _ => .bad)
          | .ok false h2 => compF it tg ts e lw r n (i + 1) h2
          | _ => .bad)
        | _ => .bad))
def mLc (mi : ME DIt) (tg : MG) (ts : ME Bool) (e : ME D) (vs : List Nat) : ME Nat := mBind mi fun it l h => match compF it tg ts e (wipeL l vs) h.length (itLen it h) 0 (h ++ [.lst []]) with
  | .ok _ h' => .ok h.length h'
  | _ => .bad
/-- the list stays a cell -/
def mLcM (m : ME Nat) : ME D := mBind m fun r => mC (.ref r)
/-- the list is a tree from now on -/
def popD (r : Nat) : ME D := fun _ h => if h.length = r + 1 then (match h[r]? with
  | some (.lst acc) => if (olds r h && D.lows r acc) = true then .ok (.lst acc) (h.take r) else .bad
  | none => .bad) else .bad
def mLcF (m : ME Nat) : ME D := mBind m popD
section
variable {g : Gx} {X : Cx} {c : Cs} {k : Nat}
abbrev rR (n : Nat) : RR V Nat := fun M _ v r => n ≤ r ∧ ∃ a, v = .ref a ∧ M[r]? = some a
theorem lc_tl {scope : Scope} {vs : List Nat} {mi : ME DIt} {mt : MG} {ts : ME Bool} {me : ME D} {σ : L2.St} {M : List Addr} {H : Hp} {l : Lc} {h : Hh} {Q : VK} (R : RelH g c.Z M H h) (L : RL g.K c.Z M H σ l) (p : Post g c.Z c.W (rR M.length) M H σ (mLc mi mt ts me vs l h) Q) :
    tLc (rI g c mi) (rgw g (c.blk scope) vs mt) (rd g (c.blk scope) rB ts) (rd g (c.blk scope) (rD g (c.blk scope)) me) vs σ H Q := by
  refine ⟨M, l, h, R, L, ?_⟩
  unfold mLc mBind at p
  cases e : mi l h with
  | bad => rw [e] at p; exact p
  | exc e' h' => rw [e] at p; exact p
  | ok it h1 =>
    rw [e] at p
    dsimp only at p
    intro M1 H1 J x1 R1 jk Da hDa
    have fr : Da ∉ M1 := R1.fresh hDa
    have x2 : Ext M1 H1 (M1 ++ [Da]) (upd H1 Da (.lst [])) := ext_push hDa
    have R2 : RelH g c.Z (M1 ++ [Da]) (upd H1 Da (.lst [])) (h1 ++ [.lst []]) := R1.push hDa .nil fr
    cases ec : compF it mt ts me (wipeL l vs) h1.length (itLen it h1) 0 (h1 ++ [.lst []]) with
    | bad => rw [ec] at p; exact p.elim
    | exc _ _ => rw [ec] at p; exact p.elim
    | ok u hf =>
      rw [ec] at p
      refine ⟨fun i m H => ∃ M2 h2, Ext (M1 ++ [Da]) (upd H1 Da (.lst [])) M2 H ∧ RelH g c.Z M2 H h2 ∧ compF it mt ts me (wipeL l vs) h1.length m i h2 = .ok u hf, ⟨itLen it h1, M1 ++ [Da], h1 ++ [.lst []], Ext.refl _ _, R2, ec⟩, fun i m H2 w => ?_⟩
      obtain ⟨M2, h2, y2, R3, e2⟩ := w
      have x3 := x2.trans y2
      have hm : M2[h1.length]? = some Da := y2.at_ (by rw [← R1.len]; simp)
      unfold compF at e2
      cases ei : itAt it h2 i with
      | none => rw [ei] at e2; cases e2
      | some o =>
        cases o with
        | none =>
          rw [ei] at e2
          have e2 : Out.ok () h2 = Out.ok u hf := e2
          cases e2
          refine .inl ⟨jk.stop M2 H2 _ i x3 R3 ei, p M2 H2 _ (x1.trans x3) R3 ⟨?_, Da, rfl, hm⟩⟩
          obtain ⟨N, rfl⟩ := x1.pre
          have := R1.len
          rw [List.length_append] at this
          omega
        | some d =>
          rw [ei] at e2
          dsimp only at e2
          obtain ⟨jg, jy⟩ := jk.go M2 H2 h2 i d x3 R3 ei
          cases m with
          | zero => cases e2
          | succ n =>
            dsimp only at e2
            refine .inr ⟨jg, fun H => ∃ M2 h2, Ext (M1 ++ [Da]) (upd H1 Da (.lst [])) M2 H ∧ RelH g c.Z M2 H h2 ∧ compF it mt ts me (wipeL l vs) h1.length n (i + 1) h2 = .ok u hf, fun H' w => ⟨n, Nat.lt_succ_self n, w⟩, fun x H' y => ?_⟩
            obtain ⟨gr, rx⟩ := jy x H' y
            have y3 := Ext.grow (M := M2) gr
            refine ⟨M2, wipeL l vs, h2, d, R3.grow gr, ((L.mono (x1.trans x3)).mono y3).wipe vs, rx, ?_⟩
            cases et : mt d (wipeL l vs) h2 with
            | bad => rw [et] at e2; cases e2
            | exc e' h3 => rw [et] at e2; cases e2
            | ok l3 h3 =>
              rw [et] at e2
              dsimp only at e2
              intro M4 H4 σ4 x4 R4 L4
              refine ⟨L4.2.trans wipe_wipe, M4, l3, h3, R4, L4.1, ?_⟩
              cases eb : ts l3 h3 with
              | bad => rw [eb] at e2; cases e2
              | exc e' h4 => rw [eb] at e2; cases e2
              | ok b h4 =>
                rw [eb] at e2
                intro M5 H5 b' x5 R5 rb
                cases rb
                cases b with
                | false =>
                  rw [if_neg Bool.false_ne_true]
                  exact ⟨M5, h4, ((y2.trans y3).trans x4).trans x5, R5, e2⟩
                | true =>
                  rw [if_pos rfl]
                  dsimp only at e2
                  refine ⟨M5, l3, h4, R5, L4.1.mono x5, ?_⟩
                  cases ee : me l3 h4 with
                  | bad => rw [ee] at e2; cases e2
                  | exc e' h5 => rw [ee] at e2; cases e2
                  | ok yv h5 =>
                    rw [ee] at e2
                    dsimp only at e2
                    intro M6 H6 v x6 R6 rv
                    cases ea : h5[h1.length]? with
                    | none => rw [ea] at e2; cases e2
                    | some cc =>
                      cases cc with
                      | lst acc =>
                        rw [ea] at e2
                        dsimp only at e2
                        have m6 : M6[h1.length]? = some Da := x6.at_ (x5.at_ (x4.at_ hm))
                        obtain ⟨va, hv1, hv2⟩ := R6.cell ea m6
                        by_cases hl : acc.length < sizeLine
                        · rw [if_pos hl] at e2
                          refine ⟨va, hv1, by rw [hv2.length]; exact hl, M6, _, ((((y2.trans y3).trans x4).trans x5).trans x6).trans (ext_set (List.mem_of_getElem? m6)), R6.set ea m6 (hv2.snoc rv), e2⟩
                        · rw [if_neg hl] at e2; cases e2
theorem lcM {σ : L2.St} {M : List Addr} {H : Hp} {l : Lc} {h : Hh} {Q : VK} {m : ME Nat} (p : Post g c.Z c.W (rD g c) M H σ (mLcM m l h) Q) : Post g c.Z c.W (rR M.length) M H σ (m l h) Q := by
  unfold mLcM mBind at p
  cases e : m l h with
  | bad => rw [e] at p; exact p
  | exc e' h' => rw [e] at p; exact p
  | ok r h1 =>
    rw [e] at p
    intro M1 H1 x x1 R1 r1
    obtain ⟨_, b, rfl, hm⟩ := r1
    exact p M1 H1 _ x1 R1 (.ref hm)
theorem lcF (nex : c.Z.exo = none) {σ : L2.St} {M : List Addr} {H : Hp} {l : Lc} {h : Hh} {Q : VK} {m : ME Nat} (R0 : RelH g c.Z M H h) (p : Post g c.Z c.W (rD g c) M H σ (mLcF m l h) Q) : Post g c.Z c.W (rR M.length) M H σ (m l h) Q := by
  unfold mLcF mBind at p
  cases e : m l h with
  | bad => rw [e] at p; exact p
  | exc e' h' => rw [e] at p; exact p
  | ok r h1 =>
    rw [e] at p
    intro M1 H1 x x1 R1 r1
    obtain ⟨hr, b, rfl, hm⟩ := r1
    have p1 : Post g c.Z c.W (rD g c) M H σ (popD r l h1) Q := p
    unfold popD at p1
    by_cases hl : h1.length = r + 1
    · rw [if_pos hl] at p1
      cases ea : h1[r]? with
      | none => rw [ea] at p1; exact p1.elim
      | some cc =>
        cases cc with
        | lst acc =>
          rw [ea] at p1
          dsimp only at p1
          by_cases ho : (olds r h1 && D.lows r acc) = true
          · rw [if_pos ho] at p1
            obtain ⟨o1, o2⟩ := Bool.and_eq_true_iff.mp ho
            obtain ⟨va, hv1, hv2⟩ := R1.cell ea hm
            refine p1 (M1.take r) H1 _ ?_ (R1.cut o1 (fun a cv d e z => by rw [nex] at z; cases z) fun a M0 H0 z => by
              obtain ⟨N, e0⟩ := (R0.tk a M0 H0 z).pre
              rw [e0, List.length_append] at hr
              omega) (.lst hv1 (fun z => ?_) (hv2.cut R1.nd o2))
            · obtain ⟨N, rfl⟩ := x1.pre
              refine ⟨⟨N.take (r - M.length), by rw [List.take_append, List.take_of_length_le hr]⟩, fun a h n => x1.new a (List.mem_of_mem_take h) n, x1.keep⟩
            · obtain ⟨j, hj, ej⟩ := List.mem_iff_getElem.mp z
              rw [List.length_take] at hj
              have hjM : j < M1.length := by omega
              rw [List.getElem_take] at ej
              have hiM : r < M1.length := (List.getElem?_eq_some_iff.mp hm).1
              have := (List.getElem?_inj hjM R1.nd).mp ((List.getElem?_eq_getElem hjM).trans ((congrArg some ej).trans hm.symm))
              omega
          · rw [if_neg ho] at p1; exact p1.elim
    · rw [if_neg hl] at p1; exact p1.elim
/-- what a comprehension's parts are -/
structure LcOk (g : Gx) (X : Cx) (c : Cs) (tg iter : Expr) (ifs : List Expr) (elt : Expr) (scope : Scope) (own : List (Str × Nat)) (mi : ME DIt) (mt : MG) (ts : ME Bool) (me : ME D) : Prop where
  hi : QI g X c tg mi iter
  ok : BlkOk c.N c.sc scope own
  hg : ∀ X', CxOk g X' (c.blk scope) 0 → X'.fn = (fun x => scope.names.lookup x == some .cell) → QGw g X' (c.blk scope) (own.map (·.2)) mt tg
end
end WW
/-! 13: own exceptions whose __init__ keeps one value, over any built-in base. -/
namespace PySem
namespace LowG
open PySem.W PySem.Calls PyProof.Rows PySem.HandSPX Builtin Builtin.ObjectAttr
def iA (fl : Str) (p1 p2 : Pos) : Arguments := { posonlyargs := [], args := [{ arg := "self", annotation := none, pos := p1 }, { arg := fl, annotation := none, pos := p2 }], vararg := none, kwonlyargs := [], kw_defaults := [], kwarg := none, defaults := [] }
def iB (fl : Str) (q1 q2 q3 q4 : Pos) : List Stmt := [.Assign [.Attribute (.Name "self" q1) fl q2] (.Name fl q3) q4]
def iS (fl : Str) : Scope := { kind := .function, names := [(PySem.Str.ofString "self", .local), (fl, .local)], isGenerator := false, isCoroutine := false, more := [] }
/-- a built-in base -/
structure BaseOk (B newId initId : String) (bmB : List Value) : Prop where
  ex : ExcBaseFacts B newId initId bmB
  st : StoreFacts B bmB "object.__setattr__" "object"
  ne : bmB.isEmpty = false
/-- what the written part says of the class at C and of its __init__, at fI -/
structure Txt (K : Frag) (C fI : Addr) (fl qual newId : Str) (bmB : List Value) (nId : String) : Prop where
  cls : ∃ nm q N bs bm sn sub ab col dd k0 k1 k2 k3 k5, K.lookup C = some (excClassObj nm q C N bs bm true sn sub ab col dd k0 k1 k2 k3 k5 nId) ∧ excTail bmB bm = true
  sa : findIn K (.ref C) "__setattr__" = some (some (.builtin "object.__setattr__"))
  noN : findIn K (.ref C) fl = some none
  iC : findIn K (.ref C) "__init__" = some (some (.ref fI))
  tC : typeIn K (.ref fI) = some (.type "function")
  kC : keepIn K (.ref C) = true
  exC : subIn K (.ref C) (.type "BaseException") = some true
  tyC : typeIn K (.ref C) = some (.type "type")
  fn : ∃ (oc : Value) (od : Option Addr) (doc pm : Value) (an : Option Addr) (cdv ct : Value) (osl : Array (Option Value)) (p1 p2 q1 q2 q3 q4 : Pos),
    K.lookup fI = some ⟨oc, od, .func (fnOf "__init__" qual (iA fl p1 p2) (iB fl q1 q2 q3 q4) (iS fl) .none .none doc pm an cdv ct), osl⟩ ∧ codeIn K cdv qual = true
structure InitEnd (h h' : Heap) (x C dx t1 : Addr) (fl : Str) (v : Value) : Prop where
  keep : ∀ b o, b ≠ x → h.get? b = some o → h'.get? b = some o
  obj : h'.get? x = some { cls := .ref C, dict := some dx, data := .fields #[.ref t1, .none, .none, .none, .bool false, .none] }
  dbig : h.objs.size ≤ dx
  dne : dx ≠ x
  ns : h'.Ns1 dx (fun y => if y = fl then some v else none)
structure OwnMade (h h' : Heap) (e C d : Addr) (fl : Str) (v : Value) : Prop where
  keep : ∀ b o, h.get? b = some o → h'.get? b = some o
  new : h.objs.size ≤ e
  obj : ∃ oe vs, h'.get? e = some oe ∧ oe.cls = .ref C ∧ oe.dict = some d ∧ oe.data = .fields vs ∧ vs[1]? = some .none
  dbig : h.objs.size ≤ d
  dne : d ≠ e
  ns : h'.Ns1 d (fun y => if y = fl then some v else none)
section
variable {prog : Program} {w : World} {A : Around} {E : Value → Shared → Prop} {R : Result → Shared → Prop} {hp : Heap} {g : Array GenState} {d : Drawn} {t : Nat} {os : OsState} {B newId initId : String} {bmB : List Value}
/-- self.name = v on an exception that has no dict yet, whatever its base -/
theorem osaG (BO : BaseOk B newId initId bmB) {K : Frag} {name : Str} {tk : Tok} {v : Value} {x C : Addr} {fv : Array Value} {cd : ClassData}
    (X : K.In hp) (hx : hp.get? x = some { cls := .ref C, data := .fields fv }) (hcd : clsIn K C = some cd) (hm : excTail bmB cd.mro = true) (hh : cd.hasDict = true) (ha : findIn K (.ref C) name = some none)
    (hq : ∀ h' tk' dx, (∀ b o, b ≠ x → hp.get? b = some o → h'.get? b = some o) → hp.objs.size ≤ dx → dx ≠ x → h'.get? x = some { cls := .ref C, dict := some dx, data := .fields fv } →
      h'.Ns1 dx (fun y => if y = name then some v else none) → R (.ok (.ret .none)) ⟨h', g, d, tk', os⟩) :
    codeAny (model prog w) A (.call (.builtin "object.__setattr__") ⟨[.ref x, .str name tk, v], []⟩) R ⟨hp, g, d, t, os⟩ := by
  have I : InstAt hp x { cls := .ref C, data := .fields fv } C none := ⟨hx, rfl, rfl, trivial⟩
  have SF := F.store_object
  have hob : cd.mro.contains (.type "object") = true := (excTail_contains "object" _ hm).trans BO.st.hasOwner
  have ne : cd.mro.isEmpty = false := by
    cases e : cd.mro with
    | nil => rw [e] at hob; cases hob
    | cons _ _ => rfl
  have hxs : x ≠ hp.objs.size := Nat.ne_of_lt (Heap.lt_size hx)
  have sub : Looks (model prog w) hp (isInstance (.ref x) (.type "object")) true := I.type.andThen (looks_mroIn X (by unfold mroIn; rw [hcd, Option.bind_some, if_neg (by rw [ne]; decide), hob]))
  refine codeAny_call_builtin SF.slot.plain SF.entry (@check_slot (model prog w) _ _ ⟨hp, g, d, t, os⟩ "object.__setattr__" "object" "__setattr__" (.ref x) [.str name tk, v] [] _ SF.kind SF.split sub (SF.args (.ref x) (.str name tk) v) ?_)
  have hmr : Looks (model prog w) hp (mroOf (.ref C)) cd.mro := (looks_clsIn X hcd).andThen .now
  have L3 : Looks (model prog w) hp (storeTaker? none) none := .now
  have hcls : Looks (model prog w) hp (classData C) cd := looks_clsIn X hcd
  rw [osa_eq, refuse_eq]
  refine wpAny_bind (wpAny_bind (I.type.at (wpAny_bind (hmr.at ?_))))
  rw [excTail_pass _ (BO.st.passes _) _ hm]
  refine wpAny_pure (wpAny_bind (I.type.at (wpAny_bind ((looks_findIn X ha).at (wpAny_bind (L3.at ?_))))))
  show wpAny _ _ (storeInOwnDict (.ref x) (.ref C) (.str name tk) name v false) _ _ _
  obtain ⟨nm, bs, mro, ns, qn, hd, sn, sb, ab, col, del⟩ := cd
  dsimp only at hh
  subst hh
  unfold storeInOwnDict ownDictForStores
  repeat (first | with_reducible refine store_in_new ?_ ?_ | with_reducible refine wpAny_loadPart_at hx ?_ | with_reducible refine hcls.at ?_ | wp_step)
  · exact ⟨_, #[], _, (Heap.get?_update_ne _ _ _ _ hxs.symm).trans (Heap.get?_push_at rfl rfl), rfl, fun e he => absurd he (by simp), fun _ => rfl⟩
  · intro h' tk' hn' hs
    have hx₁ : (hp.push { cls := .type "dict", data := .dict #[] }).get? x = some { cls := .ref C, data := .fields fv } := Heap.get?_push_of_some _ hx
    refine hq h' tk' hp.objs.size (fun b o hb ho => ?_) (Nat.le_refl _) hxs.symm ?_ hn'
    · exact (hs.2 b (Nat.ne_of_lt (Heap.lt_size ho))).trans ((Heap.get?_update_ne _ _ _ _ hb).trans (Heap.get?_push_of_some _ ho))
    · exact (hs.2 x hxs).trans (Heap.get?_update_self _ hx₁ rfl)
end
/-- a field's name: what is reckoned of it -/
structure FlOk (fl : Str) : Prop where
  bind : ∀ (q : Str) (p1 p2 q1 q2 q3 q4 : Pos) (doc pm : Value) (an : Option Addr) (cdv ct x v : Value), bindArgs (fnOf "__init__" q (iA fl p1 p2) (iB fl q1 q2 q3 q4) (iS fl) .none .none doc pm an cdv ct) ⟨[x, v], []⟩ = pure [(("self" : Str), x), (fl, v)]
  kinds : ∀ x v : Value, (([("self", x), (fl, v)] : List (Str × Value)).all fun y => (iS fl).names.lookup y.1 == some .local || (iS fl).names.lookup y.1 == some .cell) = true
  self : ∀ (q : Str) (L a : Addr) (cd : Value), (envOfC q (iS fl) L a cd).kindOf "self" = some .local
  own : ∀ (q : Str) (L a : Addr) (cd : Value), (envOfC q (iS fl) L a cd).kindOf fl = some .local
  dbg : (fl == ("__debug__" : Str)) = false
  atS : ∀ (q : Str) (L a : Addr) (cd x v : Value), bindL (envOfC q (iS fl) L a cd).kindOf [(("self" : Str), x), (fl, v)] (fun _ => none) "self" = some x
  atF : ∀ (q : Str) (L a : Addr) (cd x v : Value), bindL (envOfC q (iS fl) L a cd).kindOf [(("self" : Str), x), (fl, v)] (fun _ => none) fl = some v
theorem fl_value : FlOk "value" := by
  constructor <;> intros <;> first | rfl | with_unfolding_all rfl | decide
theorem fl_name : FlOk "name" := by
  constructor <;> intros <;> first | rfl | with_unfolding_all rfl | decide
theorem fl_point : FlOk "point" := by
  constructor <;> intros <;> first | rfl | with_unfolding_all rfl | decide
theorem fl_limit : FlOk "limit" := by
  constructor <;> intros <;> first | rfl | with_unfolding_all rfl | decide
theorem fl_trail : FlOk "trail" := by
  constructor <;> intros <;> first | rfl | with_unfolding_all rfl | decide
theorem fl_count : FlOk "count" := by
  constructor <;> intros <;> first | rfl | with_unfolding_all rfl | decide
theorem ldC {M : Model} {s : Shared} {name : Str} {scope : Scope} {L a : Addr} {cd : Value} {m : Str → Option Value} {x : Str} {pos : Pos} {v : Value} {Q : Value → Shared → Prop} {A : Around} {E : Value → Shared → Prop} (hn : s.heap.Ns L m) (hv : m x = some v) (h : Q v s)
    (hk : scope.kind = .function) (hl : (envOfC name scope L a cd).kindOf x = some .local) (hd : (x == ("__debug__" : Str)) = false) :
    wpAny M A (eval (.Name x pos) (envOfC name scope L a cd)) Q E s := wpAny_Name (wpAny_loadName_local hk hl hn hv h) hd
section
variable {prog : Program} {w : World} {A : Around} {E : Value → Shared → Prop} {R : Result → Shared → Prop} {s : Shared} {K : Frag} {mg : Str → Option Value} {C fI : Addr} {B initId : String} {bmB : List Value} {fl qual nI : Str} {newId : String}
theorem init_ok (BO : BaseOk B newId initId bmB) (T : Txt K C fI fl qual nI bmB newId) (FL : FlOk fl) {x t0 : Addr} {v : Value} (X : K.In s.heap) (hlim : s.heap.NoLimit) (hx : s.heap.get? x = some (excO C t0)) (hnx : K.lookup x = none) (hroom : A.depth < recursionLimit)
    (hq : ∀ h' tk dx, InitEnd s.heap h' x C dx t0 fl v → R (.ok (.ret .none)) { s with heap := h', toks := tk }) :
    codeAny (model prog w) A (.call (.ref fI) ⟨[.ref x, v], []⟩) R s := by
  obtain ⟨oc, od, doc, pm, an, cdv, ct, osl, p1, p2, q1, q2, q3, q4, ho, hcd⟩ := T.fn
  obtain ⟨nm, q, N, bs, bm, sn, sub, ab, col, dd, k0, k1, k2, k3, k5, hC, hbm⟩ := T.cls
  have hcl : clsIn K C = some { name := nm, bases := bs, mro := .ref C :: bm, ns := N, qualname := q, hasDict := true, slotNames := sn, subclasses := sub, abstract := ab, collection := col, hasDel := false } := by unfold clsIn; rw [hC] <;> rfl
  refine Att.call_fn (binds := [("self", .ref x), (fl, v)]) X hlim ho hcd hroom (BindsTo.of_eq (FL.bind _ _ _ _ _ _ _ _ _ _ _ _ _ _)) (FL.kinds _ _) (fun s₁ IC => ?_) rfl rfl rfl
  obtain ⟨h₁, tk₁, rfl⟩ := IC.toInCall.same
  have k : ∀ b o, s.heap.get? b = some o → h₁.get? b = some o := IC.toInCall.keep
  have hn := IC.toInCall.ns
  have hxL : s.heap.objs.size ≠ x := Nat.ne_of_gt (Heap.lt_size hx)
  have X₁ : K.In h₁ := X.keeps k
  have hx₁ := k _ _ hx
  show wpAny _ _ (execs _ _) _ _ _
  refine wpAny_execs_cons (plainObj_wpAny_Assign_Attribute ?_)
  refine ldC (v := v) hn (FL.atF _ _ _ _ _ _) (ldC (v := .ref x) hn (FL.atS _ _ _ _ _ _) ?_ rfl (FL.self _ _ _ _) (by decide)) rfl (FL.own _ _ _ _) FL.dbg
  refine set_plain X₁ (ox := excO C t0) (od := none) ⟨hx₁, rfl, rfl, trivial⟩ T.sa ?_
  refine osaG BO X₁ hx₁ hcl (show excTail bmB (.ref C :: bm) = true from hbm) rfl T.noN (fun h₃ tk₃ dx k₃ dn dne hx₃ hn₃ => ?_)
  show wpAny _ _ (execs _ _) _ _ _
  have z : s.heap.objs.size < h₁.objs.size := hn.lt
  exact wpAny_execs_nil (hq h₃ tk₃ dx ⟨fun b o hb e => k₃ b o hb (k b o e), hx₃, Nat.le_of_lt (Nat.lt_of_lt_of_le z dn), dne, hn₃⟩)
theorem one_size (v : Value) : [v].length ≤ sizeLine := by
  rw [sizeLine_eq]
  exact (by decide : 1 ≤ 16777216)
theorem made_ok (BO : BaseOk B newId initId bmB) (T : Txt K C fI fl qual nI bmB newId) (FL : FlOk fl) {v : Value} (X : K.In s.heap) (hlim : s.heap.NoLimit) (hroom : A.depth + 1 < recursionLimit)
    (hq : ∀ h' tk e d, OwnMade s.heap h' e C d fl v → R (.ok (.ret (.ref e))) { s with heap := h', toks := tk }) :
    codeAny (model prog w) A (.call (.ref C) ⟨[v], []⟩) R s := by
  obtain ⟨nm, q, N, bs, bm, sn, sub, ab, col, dd, k0, k1, k2, k3, k5, hC, hbm⟩ := T.cls
  obtain ⟨hp, g, dr, tk, os⟩ := s
  have k : ∀ b o, hp.get? b = some o → ((hp.push (kdv_tup [v])).push (excO C hp.objs.size)).get? b = some o := fun b o e => Heap.get?_push_of_some _ (Heap.get?_push_of_some _ e)
  have hget : ((hp.push (kdv_tup [v])).push (excO C hp.objs.size)).get? (hp.objs.size + 1) = some (excO C hp.objs.size) := by heap_get
  have hnx : K.lookup (hp.objs.size + 1) = none := by
    cases e : K.lookup (hp.objs.size + 1) with
    | none => rfl
    | some o =>
      have z : hp.get? (hp.objs.size + 1) = some o := X _ _ e
      exact absurd (Nat.lt_of_succ_lt (Heap.lt_size z)) (Nat.lt_irrefl _)
  refine call_own BO.ex (fun X => excTail_contains X bm hbm) (X _ _ hC) (looks_findIn X T.iC) (fun self => bind_fn X self T.tC) (one_size v) ?_
  refine init_ok (s := ⟨(hp.push (kdv_tup [v])).push (excO C hp.objs.size), g, dr, tk, os⟩) BO T FL (X.keeps k) (hlim.keeps k) hget hnx ?_ fun h' tk' dx ⟨k', hx, dn, dne, hns⟩ => ?_
  · show A.depth + 1 < recursionLimit
    exact hroom
  · have old : ∀ b o, hp.get? b = some o → h'.get? b = some o := fun b o e => k' b o (Nat.ne_of_lt (Nat.lt_succ_of_lt (Heap.lt_size e))) (k b o e)
    have z : hp.objs.size + 1 + 1 ≤ dx := by
      first
        | (simpa only [Heap.size_push] using dn)
        | exact dn
        | (have q := dn; rw [Heap.size_push, Heap.size_push] at q; exact q)
    exact ⟨rfl, hq h' tk' (hp.objs.size + 1) dx ⟨old, Nat.le_succ _, ⟨_, _, hx, rfl, rfl, rfl, rfl⟩, Nat.le_trans (Nat.le_trans (Nat.le_succ _) (Nat.le_succ _)) z, dne, hns⟩⟩
end
theorem base_IndexError : BaseOk "IndexError" "IndexError.__new__" "IndexError.__init__" [.type "IndexError", .type "LookupError", .type "Exception", .type "BaseException", .type "object"] := ⟨F.excBase_IndexError, F.store_IndexError, rfl⟩
theorem base_LookupError : BaseOk "LookupError" "LookupError.__new__" "LookupError.__init__" [.type "LookupError", .type "Exception", .type "BaseException", .type "object"] := ⟨F.excBase_LookupError, F.store_LookupError, rfl⟩
theorem base_OverflowError : BaseOk "OverflowError" "OverflowError.__new__" "OverflowError.__init__" [.type "OverflowError", .type "ArithmeticError", .type "Exception", .type "BaseException", .type "object"] := ⟨F.excBase_OverflowError, F.store_OverflowError, rfl⟩
theorem base_ArithmeticError : BaseOk "ArithmeticError" "ArithmeticError.__new__" "ArithmeticError.__init__" [.type "ArithmeticError", .type "Exception", .type "BaseException", .type "object"] := ⟨F.excBase_ArithmeticError, F.store_ArithmeticError, rfl⟩
theorem base_RuntimeError : BaseOk "RuntimeError" "RuntimeError.__new__" "RuntimeError.__init__" [.type "RuntimeError", .type "Exception", .type "BaseException", .type "object"] := ⟨F.excBase_RuntimeError, F.store_RuntimeError, rfl⟩
end LowG
end PySem
namespace L2
open PySem PySem.Spec PyProof.Rows
section
variable {X : Cx} {C fI : Addr} {fl qual nI : Str} {B initId newId : String} {bmB : List Value}
theorem relO_one {fl : Str} {v : V} {v' : Value} (r : RelV v v') (f : Str) : RelO (List.lookup f [(fl, v)]) (if f = fl then some v' else none) := by
  by_cases hw : f = fl
  · subst hw
    rw [if_pos rfl]
    have q : List.lookup f [(f, v)] = some v := by simp [List.lookup]
    rw [q]
    exact r
  · rw [if_neg hw]
    have qw : (f == fl) = false := by simpa using hw
    have q2 : List.lookup f [(fl, v)] = none := by simp [List.lookup, qw]
    rw [q2]
    trivial
/-- X(e), X an own exception that keeps one value -/
theorem pmk_keep {x : Str} {a : Expr} {ta : TA} {p pos : Pos} {k : Nat} (BO : PySem.LowG.BaseOk B newId initId bmB) (T : PySem.LowG.Txt X.K C fI fl qual nI bmB newId) (FL : PySem.LowG.FlOk fl) (gC : X.mg x = some (.ref C)) (hr : Room k X.A) (ha : PA X [a] ta) (hg : Gl X x)
    (hdb : (x == ("__debug__" : Str)) = false) (he : starEach (a :: []) X.env = (false, eval a X.env) :: starEach [] X.env) :
    PMk X (.Call (.Name x p) [a] [] pos) (fun σ H Q => ta σ H fun vs H1 => ∃ v, vs = [v] ∧ ∀ d, H1 d = none → Q (.ref C) (some d) (upd H1 d (.xd [(fl, v)]))) := by
  intro pins s σ H Q I h
  refine wpAny_Call_Name_kw (ld_glob I hg gC ?_ hdb)
  refine PySem.W.callWith_K (h₀ := X.base) I.ok.mod.kin T.kC (thn (ha.run pos pins s σ H _ I h) fun us s1 hh => ?_) he (by rfl)
  obtain ⟨vs, H1, I1, r1, v, ev, q1⟩ := hh
  subst ev
  refine ⟨I1.kIn, ?_⟩
  cases r1 with
  | cons rv rn =>
    rename_i v' us'
    cases rn
    show wpAny _ _ (call (.ref C) [v']) _ _ _
    have hlim := I1.nolimit
    obtain ⟨hp, g, dr, tk, os⟩ := s1
    refine wpAny_call (PySem.LowG.made_ok BO T FL I1.kIn hlim (by have := hr.dp; omega) fun h' tk' e d M => ?_)
    show MkP X pins σ Q (.ref e) ⟨h', g, dr, tk', os⟩
    obtain ⟨oe, fv, hoe, hc, hd, hdat, h1⟩ := M.obj
    have hns := M.ns
    obtain ⟨G', g1, g2⟩ := restrict h' fun b => decide (b ≠ e)
    have gk : ∀ b, b ≠ e → G'.get? b = h'.get? b := fun b hb => g1 b (decide_eq_true hb)
    have ge : G'.get? e = none := g2 e (by simp)
    have old : ∀ b o, hp.get? b = some o → G'.get? b = some o := fun b o q => (gk b (Nat.ne_of_lt (Nat.lt_of_lt_of_le (Heap.lt_size q) M.new))).trans (M.keep b o q)
    have ob : ObjOk X.prog X.w (upd H1 d (.xd [(fl, v)])) G' d (.xd [(fl, v)]) :=
      ⟨_, hns.at (fun o q => (gk d M.dne).trans q), fun f => relO_one rv f⟩
    have J : Inv X pins σ (upd H1 d (.xd [(fl, v)])) ⟨G', g, dr, tk', os⟩ := I1.laid (t' := tk') old M.dbig ob
    refine ⟨e, oe, fv, ⟨G', g, dr, tk', os⟩, _, .ref C, some d, rfl, J, fun b o q => ?_, ge, hoe, ⟨hc, hd⟩, hdat, h1, ?_, rfl, I1.bare, raises_own T.exC T.tyC, q1 d (I1.hok.fresh M.dbig)⟩
    · by_cases hb : b = e
      · have q' : G'.get? b = some o := q
        rw [hb, ge] at q'; cases q'
      · exact (gk b hb).symm.trans q
    · rw [upd_ne (Ne.symm M.dne)]
      exact I1.hok.fresh M.new
end
end L2
/-! 14: raise, try, the suites. -/
namespace L2
open PySem PySem.Spec PyProof.Rows
/-- several except clauses, each with or without a name -/
def wManyA (K : PySem.W.Frag) (Wout : WX) (D : Ends) : List (Value × Option Nat × (Addr → Value → Option Addr → TS)) → WX
  | [] => Wout
  | (c, none, ts) :: r => fun cls d σ H => ∃ b, PySem.W.exmOne K cls c = some b ∧ (b = true → ∀ a, H a = none → ts a cls d D σ H) ∧ (b = false → wManyA K Wout D r cls d σ H)
  | (c, some i, ts) :: r => fun cls d σ H => ∃ b, PySem.W.exmOne K cls c = some b ∧
      (b = true → ∀ a, H a = none → ts a cls d { nx := fun σ' H' => D.nx (σ'.set i none) H', rt := D.rt, bk := fun σ' H' => D.bk (σ'.set i none) H', ct := fun σ' H' => D.ct (σ'.set i none) H' } (σ.set i (some (.ref a))) H) ∧ (b = false → wManyA K Wout D r cls d σ H)
inductive HdsA (X : Cx) : List ExceptHandler → List (Value × Option Nat × (Addr → Value → Option Addr → TS)) → Prop
  | nil : HdsA X [] []
  | plain {x : Str} {c : Value} {ts : Addr → Value → Option Addr → TS} {b₀ : Stmt} {suite : List Stmt} {np pos' : Pos} {hds : List ExceptHandler} {l : List (Value × Option Nat × (Addr → Value → Option Addr → TS))} (hc : Names X x c)
      (hsu : ∀ (a : Addr) (oe : Obj) (cls : Value) (d : Option Addr) (pn : List (Addr × Obj)), Zc cls d oe → (∃ vs, oe.data = .fields vs) → PSs (X.suite a ((a, oe) :: pn)) (b₀ :: suite) (ts a cls d)) (r : HdsA X hds l) :
      HdsA X (.ExceptHandler (some (.Name x np)) none (b₀ :: suite) pos' :: hds) ((c, none, ts) :: l)
  | named {x n : Str} {c : Value} {i : Nat} {ts : Addr → Value → Option Addr → TS} {b₀ : Stmt} {suite : List Stmt} {np pos' : Pos} {hds : List ExceptHandler} {l : List (Value × Option Nat × (Addr → Value → Option Addr → TS))} (hc : Names X x c)
      (hi : X.N[i]? = some n) (hln : X.env.kindOf n = some .local)
      (hsu : ∀ (a : Addr) (oe : Obj) (cls : Value) (d : Option Addr) (pn : List (Addr × Obj)), Zc cls d oe → (∃ vs, oe.data = .fields vs) → PSs (X.suite a ((a, oe) :: pn)) (b₀ :: suite) (ts a cls d)) (r : HdsA X hds l) :
      HdsA X (.ExceptHandler (some (.Name x np)) (some n) (b₀ :: suite) pos' :: hds) ((c, some i, ts) :: l)
section
variable {X : Cx} {body : List Stmt} {h₀ : ExceptHandler} {hds : List ExceptHandler} {l : List (Value × Option Nat × (Addr → Value → Option Addr → TS))} {pos : Pos} {tb : WX → TS} {Wout : WX}
theorem ps_try_manyA (hs : X.stack = X.env :: X.outer) (hf : X.env.frame = some X.env.locals) (hN : X.N.Nodup) (tk : Takes X Wout)
    (hb : ∀ (W : WX) (pn : List (Addr × Obj)) (xe : Value → Shared → Prop), Takes (X.tr pn xe) W → PassesOwn (model X.prog X.w) X.A X.env xe → PSs (X.tr pn xe) body (tb W))
    (hh : HdsA X (h₀ :: hds) l) : PS X (.Try body (h₀ :: hds) [] [] pos) (fun D σ H => tb (wManyA X.K Wout D l) D σ H) := by
  refine ⟨fun pins s σ H D I h => ?_⟩
  have ok := I.ok
  have hfr : X.A.frames = some (X.env :: X.outer) := by rw [ok.frames, hs]
  refine wpAny_Try_except ?_
  refine wpAny_mono ((hb (wManyA X.K Wout D l) (X.pn ++ pins) (fun e s₁ => wpAny (model X.prog X.w) X.A (noteFrame e X.env) (fun _ s₂ => wpAny (model X.prog X.w) X.A (setFlight e none) (fun _ s₃ =>
    wpAny (model X.prog X.w) X.A (handleBy e X.env (h₀ :: hds)) (SP X pins D) X.xe s₃) X.xe s₂) X.xe s₁) (fun u s' xx => ?_) PassesOwn.looking).run [] s σ H D (I.toTry _) h) (fun f s1 hsp => ?_) (fun e s1 he => he)
  · obtain ⟨a, B, sI, pins', σ', H', cls, d, rfl, J', nb, up, sky, na, os, ag, w⟩ := xx
    have J : Inv X pins σ' H' sI := J'.ofTry ok
    have sky' : Sky B (X.env :: X.outer) a (Zc cls d) X.env.locals s'.heap := by rw [← hs]; exact sky
    show wpAny (model X.prog X.w) X.A (noteFrame (.ref a) X.env) _ _ _
    refine Sky.land Zc.steady hfr hf sky' fun h3 fl3 up3 => ?_
    have J3 : Inv X pins σ' H' { s' with heap := h3 } := J.landed nb fl3.1 (up.trans up3) os ag
    obtain ⟨oe3, vs3, he3, hz3, hd3⟩ := fl3.there
    have nfr : a ∉ frs (X.env :: X.outer) := fun hm => by
      obtain ⟨_, o', e', hnf⟩ := fl3.2.2.1.mem hm
      rw [he3] at e'; cases e'
      exact hnf _ hd3
    have nL : a ≠ X.env.locals := fun z => nfr (List.mem_filterMap.mpr ⟨X.env, List.mem_cons_self, by rw [hf, z]⟩)
    have nF : a ∉ X.fs := fun hm => by
      obtain ⟨e, he, q⟩ := List.mem_filterMap.mp hm
      exact nfr (List.mem_filterMap.mpr ⟨e, List.mem_cons_of_mem _ he, q⟩)
    have S3 := J3.suite he3 hd3 na nL nF
    have look : ∀ {x : Str} {c : Value} {np : Pos} {Q : Value → Shared → Prop} {E : Value → Shared → Prop}, Names X x c → Q c { s' with heap := h3 } → wpAny (model X.prog X.w) (X.A.mark (some (.ref a))) (eval (.Name x np) X.env) Q E { s' with heap := h3 } := fun {x c np Q E} hc q => by
      obtain ⟨hg, hdbg, hm | ⟨hm, hv, hnn⟩⟩ := hc
      · exact ld_glob (X := X.suite a ((a, oe3) :: (X.pn ++ pins))) S3 hg hm q hdbg
      · exact ld_blt (X := X.suite a ((a, oe3) :: (X.pn ++ pins))) S3 hg hm hv q hnn hdbg
    have LT : PySem.W.Looks (model X.prog X.w) h3 (typeOf (.ref a)) cls := fun A Q E s k q => wpAny_typeOf_ref (k _ _ he3) (by rw [hz3.1]; exact q)
    have go : ∀ {hds' : List ExceptHandler} {l' : List (Value × Option Nat × (Addr → Value → Option Addr → TS))}, HdsA X hds' l' → wManyA X.K Wout D l' cls d σ' H' →
        wpAny (model X.prog X.w) X.A (handleBy (.ref a) X.env hds') (SP X pins D) X.xe { s' with heap := h3 } := by
      intro hds' l' hk
      induction hk with
      | nil =>
        intro w
        refine wpAny_handleBy_nil ?_
        obtain ⟨k1, k2, k3, oe, vs, T, oT, ts', he, hz, hd, h1, hr⟩ := id fl3
        unfold PySem.passOn
        refine wpAny_bind (wpAny_field he hd h1 ?_)
        rw [if_neg (show ¬ ((Value.ref T == Value.none) = true) from by simp)]
        have fin : wpAny (model X.prog X.w) X.A (setFlight (.ref a) X.env.frame) (fun _ s4 => wpAny (model X.prog X.w) X.A (throw (.ref a) : Sem Flow) (SP X pins D) X.xe s4) X.xe { s' with heap := h3 } := by
          rw [hf]
          refine HandSPX.setFlight_upZ fl3 fun h4 hh4 up4 => wpAny_throw (tk _ _ ?_)
          exact ⟨a, B, sI, pins, σ', H', cls, d, rfl, J, nb, (up.trans up3).trans up4, .inr (.inr (by rw [hs]; exact hh4)), na, os, ag, w⟩
        first
          | exact wpAny_bind (wpAny_pure (wpAny_bind fin))
          | exact wpAny_bind fin
      | @plain x c ts b₀ suite np pos' hds2 l2 hc hsu r ih =>
        intro w
        obtain ⟨b, hb1, hyes, hno⟩ := w
        refine wpAny_handleBy_cons (codeAny_handlers_test ?_) (by intro q; cases q)
        refine look hc ((PySem.W.exm_one (M := model X.prog X.w) (J3.kIn) LT hb1).here ?_)
        cases b with
        | true =>
          refine codeAny_handlers_suite ?_
          refine HandSPX.lands_againZ fl3 fun h4 fl4 up4 => ?_
          have J4 : Inv X pins σ' H' { s' with heap := h4 } := J.landed nb fl4.1 ((up.trans up3).trans up4) os ag
          obtain ⟨oe4, vs4, he4, hz4, hd4⟩ := fl4.there
          refine wpAny_mono ((hsu a oe4 cls d (X.pn ++ pins) hz4 ⟨_, hd4⟩).run [] _ _ H' _ (J4.suite he4 hd4 na nL nF) (hyes rfl a na)) (fun f s6 hsp => ?_) (fun _ _ z => False.elim z)
          match f, hsp with
          | .next, ⟨σ6, H6, S6, q6⟩ => exact ⟨_, _, S6.unsuite ok, q6⟩
          | .brk, ⟨σ6, H6, S6, q6⟩ => exact ⟨_, _, S6.unsuite ok, q6⟩
          | .cont, ⟨σ6, H6, S6, q6⟩ => exact ⟨_, _, S6.unsuite ok, q6⟩
          | .ret u, ⟨v6, σ6, H6, S6, r6, q6⟩ => exact ⟨_, _, _, S6.unsuite ok, r6, q6⟩
        | false => exact ih (hno rfl)
      | @named x n c i ts b₀ suite np pos' hds2 l2 hc hi hln hsu r ih =>
        intro w
        obtain ⟨b, hb1, hyes, hno⟩ := w
        refine wpAny_handleBy_cons (codeAny_handlers_test ?_) (by intro q; cases q)
        refine look hc ((PySem.W.exm_one (M := model X.prog X.w) (J3.kIn) LT hb1).here ?_)
        cases b with
        | true =>
          refine codeAny_handlers_suite_as ?_
          refine HandSPX.lands_againZ fl3 fun h4 fl4 up4 => ?_
          have J4 : Inv X pins σ' H' { s' with heap := h4 } := J.landed nb fl4.1 ((up.trans up3).trans up4) os ag
          obtain ⟨oe4, vs4, he4, hz4, hd4⟩ := fl4.there
          have S4 := J4.suite he4 hd4 na nL nF
          refine store_ok (X := X.suite a ((a, oe4) :: (X.pn ++ pins))) (v := .ref a) S4 hN hi (.inl hln) rfl (fun s5 S5 => ?_) (.inr hln)
          refine wpAny_mono ((hsu a oe4 cls d (X.pn ++ pins) hz4 ⟨_, hd4⟩).run [] s5 _ H' _ S5 (hyes rfl a na)) (fun f s6 hsp => ?_) (fun _ _ z => False.elim z)
          have end_ : ∀ {σ6 : St} {H6 : Hp} {Q : Shared → Prop}, Inv (X.suite a ((a, oe4) :: (X.pn ++ pins))) [] σ6 H6 s6 → (∀ s7, Inv X pins (σ6.set i none) H6 s7 → Q s7) →
              wpAny (model X.prog X.w) X.A (do bindName X.env n .none; unbindBehindTheSuite X.env n pos') (fun _ s7 => Q s7) X.xe s6 := fun {σ6 H6 Q} S6 hq => gone_ok (S6.unsuite ok) hN hi hln hq
          match f, hsp with
          | .next, ⟨σ6, H6, S6, q6⟩ => exact end_ S6 fun s7 J7 => ⟨_, _, J7, q6⟩
          | .brk, ⟨σ6, H6, S6, q6⟩ => exact end_ S6 fun s7 J7 => ⟨_, _, J7, q6⟩
          | .cont, ⟨σ6, H6, S6, q6⟩ => exact end_ S6 fun s7 J7 => ⟨_, _, J7, q6⟩
          | .ret u, ⟨v6, σ6, H6, S6, r6, q6⟩ => exact end_ S6 fun s7 J7 => ⟨_, _, _, J7, r6, q6⟩
        | false => exact ih (hno rfl)
    exact go hh w
  · match f, hsp with
    | .next, ⟨σ', H', J', q⟩ => exact wpAny_execs_nil ⟨σ', H', J'.ofTry ok, q⟩
    | .brk, ⟨σ', H', J', q⟩ => exact ⟨σ', H', J'.ofTry ok, q⟩
    | .cont, ⟨σ', H', J', q⟩ => exact ⟨σ', H', J'.ofTry ok, q⟩
    | .ret u, ⟨v, σ', H', J', r, q⟩ => exact ⟨v, σ', H', J'.ofTry ok, r, q⟩
end
end L2
/-! 15: what the text's form says. -/
namespace WW
open PySem PySem.Spec PyProof.Rows L2
def isStar : Expr → Bool
  | .Starred _ _ => true
  | _ => false
def isComp : Expr → Bool
  | .ListComp _ _ _ _ => true
  | .SetComp _ _ _ _ => true
  | .DictComp _ _ _ _ _ => true
  | _ => false
def isSet : Expr → Bool
  | .Set _ _ _ => true
  | _ => false
def isSlice : Expr → Bool
  | .Slice _ _ _ _ => true
  | _ => false
def isName : Expr → Bool
  | .Name _ _ => true
  | _ => false
def isCallE : Expr → Bool
  | .Call _ _ _ _ => true
  | _ => false
theorem star_of {e : Expr} {es : List Expr} {env : PySem.Env} (h : isStar e = false) : starEach (e :: es) env = (false, eval e env) :: starEach es env := by
  cases e <;> first | rfl | cases h
theorem star_one {e : Expr} {env : PySem.Env} (h : isStar e = false) : starEach [e] env = [(false, eval e env)] := star_of h
theorem asg_of {e : Expr} {es : List Expr} {env : PySem.Env} (h : isStar e = false) : assignEach (e :: es) env = (false, assign e env) :: assignEach es env := by
  cases e <;> first | rfl | cases h
theorem swaps_none {e : Expr} {t : Option Expr} {n : Nat} {env : PySem.Env} (h : isComp e = false) : swapsWith e t n env = pure false := by
  cases e <;> first | rfl | cases h
theorem folded_none {e : Expr} {env : PySem.Env} {x : Value} (h : isSet e = false) : foldedSetIterable e env x = pure x := by
  cases e <;> first | rfl | cases h
theorem plain_ix {e : Expr} (h : isSlice e = false) : PlainIx e := by
  intro o i
  cases e <;> first | rfl | cases h
theorem base_of {e : Expr} {n : Str} {env : PySem.Env} (h : isCallE e = false) : attributeBase e n env (eval e env) = eval e env := by
  cases e <;> first | rfl | cases h
theorem asg_sub {o i : Expr} {pos : Pos} {env : PySem.Env} (h : isSlice i = false) : ∀ v, assign (.Subscript o i pos) env v = (do
      let ov ← holding [v] (eval o env)
      let iv ← holding [v, ov] (eval i env)
      standAt pos
      holding [v, ov, iv] (setItem ov iv v)
      release [v, ov, iv] []) := by
  intro v
  cases i <;> first | rfl | cases h
theorem true_of {e : Expr} {env : PySem.Env} : True := trivial
/-- a test that is no not, and, or, comparison -/
def isTestE : Expr → Bool
  | .BoolOp _ _ _ => true
  | .UnaryOp .Not _ _ => true
  | .Compare _ _ _ _ => true
  | .Constant _ _ _ => true
  | .IfExp _ _ _ _ => true
  | .NamedExpr _ _ _ => true
  | _ => false
theorem isTrue_of {e : Expr} {env : PySem.Env} {whole : Sem Value} (h : isTestE e = false) : isTrue e env whole = (do let v ← whole; standAt e.pos; holding [v] (truthy v)) := by
  cases e with
  | UnaryOp op a p => cases op <;> first | rfl | cases h
  | _ => first | rfl | cases h
/-- a tuple's stores, changed about -/
def nmOf (sc : Scope) (line : Nat) : Expr → Option Str
  | .Name id pos => if sc.names.lookup id == some .local && pos.line == line then some id else none
  | _ => none
def nms (sc : Scope) (ts : List Expr) : List Str := ts.filterMap (nmOf sc ((ts.head?.map (·.pos.line)).getD 0))
def swN (sc : Scope) (ts vs : List Expr) : Option (List Str) :=
  if (!(ts.length == 2 || ts.length == 3) || vs.length != ts.length) = true then none else
  if (vs.any isStar) = true then none else
  if ((nms sc ts).length != ts.length || (nms sc ts).eraseDups.length != (nms sc ts).length) = true then none else
  if (vs.all (foldedForSure 8)) = true then none else some (nms sc ts)
theorem sw_of {ts vs : List Expr} {k k2 : Nat} {p p2 : Pos} {env : PySem.Env} (hk : env.scope.kind = .function) (hc : vs.all (constantsAlone 8) = false) : swappedStores [.Tuple ts k p] (.Tuple vs k2 p2) env = pure (swN env.scope ts vs) := by
  have hb : (env.blockKind != .function) = false := by unfold Env.blockKind; rw [hk]; rfl
  have e : swappedStores [.Tuple ts k p] (.Tuple vs k2 p2) env = (if (!(ts.length == 2 || ts.length == 3) || vs.length != ts.length || env.blockKind != .function) = true then pure none else
      if (vs.any isStar) = true then pure none else
      if ((nms env.scope ts).length != ts.length || (nms env.scope ts).eraseDups.length != (nms env.scope ts).length) = true then pure none else
      if (vs.all (foldedForSure 8)) = true then pure none else
      if (vs.all (constantsAlone 8)) = true then (unsupported "assign.tuple-of-constant-expressions:order-of-the-stores" >>= fun (_ : Unit) => pure (some (nms env.scope ts))) else pure (some (nms env.scope ts))) := by
    rfl
  rw [e, hb, hc, Bool.or_false, if_neg (show ¬ (false = true) from Bool.false_ne_true)]
  unfold swN
  split
  · rfl
  · split
    · rfl
    · split
      · rfl
      · split
        · rfl
        · rfl
theorem sw_other {t v : Expr} {env : PySem.Env} (h : ∀ ts k p, t = .Tuple ts k p → ∀ vs k2 p2, v ≠ .Tuple vs k2 p2) (h2 : ∀ ts p, t ≠ .List ts p) : swappedStores [t] v env = pure none := by
  cases t with
  | Tuple ts k p =>
    cases v with
    | Tuple vs k2 p2 => exact absurd rfl (h ts k p rfl vs k2 p2)
    | _ => rfl
  | List ts p => exact absurd rfl (h2 ts p)
  | _ => rfl
end WW
/-! 16: more of expressions. -/
namespace L2
open PySem PySem.Spec PyProof.Rows
/-! ### l.count(x), items of any depth -/
section
variable {X : Cx}
def rCntD (K : PySem.W.Frag) : V → List V → Hp → VK → Prop := fun x xs H Q => ∃ (a : Addr) (y : V) (d : PyData) (ds : List PyData), x = V.ref a ∧ xs = [y] ∧ Dp K H (V.ref a) (.list ds) ∧ Dp K H y d ∧
  SeqAt.shaped (.list ds) = true ∧ SeqAt.shaped d = true ∧ Q (.int (ds.countP fun z => PyData.eqv z d : Nat)) H
theorem mt_countD (hu : X.A.units + 65 < cLine) : MtR X "list.count" (rCntD X.K) := by
  intro pins s σ H x xs v us Q I rx rxs h
  obtain ⟨a, y, d, ds, rfl, rfl, hl, hy, sl, sd, q⟩ := h
  cases rx
  cases rxs with
  | cons ry rt =>
    rename_i uy ut
    cases rt
    obtain ⟨bs, r1⟩ := Dp.reads I d y uy hy ry
    have hxs : PyData.canLayAll0 ds = true := SeqAt.canLay_of_shaped sl
    have hroom : X.A.units + 1 + min (PyData.depthAll ds) d.depth < cLine := room_in_shaped sd hu
    cases hl with
    | lst hs ha =>
      obtain ⟨its, rv, ⟨⟨cls, dd, data, sls⟩, n, ho, hc, hdn, hdt⟩, hlen⟩ := I.list hs
      simp only at hc hdt
      subst hc hdt
      obtain ⟨as, h4⟩ := Dp.readsAll I ds _ its ha rv
      have hmap : its.map (SeqAt.readOf s.heap) = ds := SeqAt.readsAll_map ds its as hxs h4
      refine call_meets PySem.F.slot_list_count ⟨_, ho, rfl⟩ PySem.F.entry_list_count (PySem.F.args_list_count_2 _ _)
        (SeqAt.list_countAt a its.toArray n dd sls uy (fun u => PyData.eqv (SeqAt.readOf s.heap u) d)) ⟨ho, SeqAt.items_eqAt (vs := its.toArray) (show ReadsAll s.heap its.toArray.toList ds as from h4) r1 hxs (SeqAt.canLay_of_shaped sd) hroom, ?_⟩
      have ec : its.toArray.toList.countP (fun u => PyData.eqv (SeqAt.readOf s.heap u) d) = ds.countP fun z => PyData.eqv z d := by
        rw [← hmap, List.countP_map]
        rfl
      rw [ec]
      exact ⟨.int (ds.countP fun z => PyData.eqv z d : Nat), H, I.tok _, ⟨s.toks, rfl⟩, q⟩
end
end L2
namespace WW
open PySem PySem.Spec PyProof.Rows L2
section
variable {g : Gx} {X : Cx} {c : Cs} {k : Nat}
/-! ### a new cell -/
def mNew (m : ME (List D)) : ME D := mBind m fun xs => fun _ h => .ok (.ref h.length) (h ++ [.lst xs])
theorem qe_new {e : Expr} {m : ME (List D)} (h : QL g X c m e) : QE g X c (mNew m) e := by
  refine PE.imp h fun σ H Q q => ?_
  obtain ⟨M, l, hh, R, L, p⟩ := q
  refine rd_bind R L p fun M1 H1 h1 x a e1 R1 L1 r1 p1 => ?_
  exact fun q hq => p1.okx (ext_push hq) (R1.push hq r1 (R1.fresh hq)) (.ref (by rw [← R1.len]; simp))
/-! ### makers of lists -/
def catL (a b : ME D) : ME (List D) := mBind a fun x => mBind b fun y => fun _ h => match vw h x, vw h y with
  | .lst xs, .lst ys => if xs.length + ys.length ≤ sizeLine then .ok (xs ++ ys) h else .bad
  | _, _ => .bad
theorem ql_cat {a b : Expr} {ma mb : ME D} {pos : Pos} (ha : QE g X c ma a) (hb : QE g X c mb b) : QL g X c (catL ma mb) (.BinOp a .Add b pos) := by
  refine PE.imp (pe_op op_cat ha hb) fun σ H Q q => ?_
  obtain ⟨M, l, hh, R, L, p⟩ := q
  refine rd_bind R L p fun M1 H1 h1 x a e1 R1 L1 r1 p1 => ?_
  refine rd_bind R1 L1 p1 fun M2 H2 h2 y b e2 R2 L2 r2' p2 => ?_
  have ra := RW.of R2 (r1.mono e2)
  have rb := RW.of R2 r2'
  generalize vw h2 a = da at ra p2
  generalize vw h2 b = db at rb p2
  cases da with
  | lst xs =>
    cases db with
    | lst ys =>
      dsimp only at p2
      obtain ⟨p, vs, rfl, tp, rp⟩ := ra.lst
      obtain ⟨p', vs', rfl, tp', rp'⟩ := rb.lst
      by_cases hl : xs.length + ys.length ≤ sizeLine
      · rw [if_pos hl] at p2
        exact ⟨p, p', vs, vs', rfl, rfl, tp, tp', by rw [rp.length, rp'.length]; exact hl, p2.ok R2 (rp.append rp')⟩
      · rw [if_neg hl] at p2; exact p2.elim
    | _ => exact p2.elim
  | _ => cases db <;> exact p2.elim
theorem ql_of (C : CxOk g X c k) {e : Expr} {m : ME D} {p pos : Pos} (hg : c.sc.names.lookup ("list" : Str) = some .globalImplicit) (hm : g.mg "list" = none) (h : QE g X c m e) (hs : isStar e = false) :
    QL g X c (mList m) (.Call (.Name "list" p) [e] [] pos) := by
  have gl : Gl X "list" := by
    show X.env.scope.names.lookup _ = _
    rw [C.hsc]; exact hg
  refine PE.imp (pe_callTy (T := "list") call_list_of gl (by rw [C.hmg]; exact hm) (by decide +kernel) (pa_cons h pa_nil (star_of hs)) (by decide) (by decide) (star_of hs) (by rfl)) fun σ H Q q => ?_
  obtain ⟨M, l, hh, R, L, p⟩ := q
  refine rd_bind R L p fun M1 H1 h1 x a e1 R1 L1 r1 p1 => ?_
  have ra := RW.of R1 r1
  generalize vw h1 a = d at ra p1
  cases d with
  | tup xs =>
    obtain ⟨p, vs, rfl, tp, rp⟩ := ra.tup
    exact ⟨p, vs, rfl, .inr (by rw [C.hK]; exact tp.sqt), p1.ok R1 rp⟩
  | lst xs =>
    cases ra.lsl with
    | mk hq rp => exact ⟨_, _, rfl, .inl (by rw [C.hK]; exact hq), p1.ok R1 rp⟩
  | lok xs =>
    cases ra.lsk with
    | mk hq rp => exact ⟨_, _, rfl, .inl (by rw [C.hK]; exact hq), p1.ok R1 rp⟩
  | _ => exact p1.elim
/-- list(range(n)) -/
def rngL : D → Option (List D)
  | .int n => if (decide (0 ≤ n) && decide (n ≤ 1000000)) = true then some (intsFrom 0 1 n.toNat) else none
  | _ => none
def mListR (m : ME D) : ME (List D) := mBind m fun x => mOpt (rngL x)
theorem rds_rng {K : PySem.W.Frag} {Z : Spx} {M : List Addr} {H : Hp} : ∀ (l : List Nat), RDs K Z M H (l.map fun i => V.int (0 + (i : Nat))) (l.map fun i => D.int (0 + (i : Nat) * 1))
  | [] => .nil
  | i :: l => .cons (by show RD K Z M H (V.int (0 + (i : Nat))) (D.int (0 + (i : Nat) * 1)); rw [Int.mul_one]; exact .int _) (rds_rng l)
theorem ql_rng (C : CxOk g X c k) (hc : c.calm = true) {e : Expr} {m : ME D} {p pos rp rpos : Pos} (hg : c.sc.names.lookup ("list" : Str) = some .globalImplicit) (hm : g.mg "list" = none) (hg2 : c.sc.names.lookup ("range" : Str) = some .globalImplicit) (hm2 : g.mg "range" = none)
    (h : QE g X c m e) (hs : isStar e = false) : QL g X c (mListR m) (.Call (.Name "list" p) [.Call (.Name "range" rp) [e] [] rpos] [] pos) := by
  have gl : Gl X "list" := by
    show X.env.scope.names.lookup _ = _
    rw [C.hsc]; exact hg
  have gl2 : Gl X "range" := by
    show X.env.scope.names.lookup _ = _
    rw [C.hsc]; exact hg2
  refine PE.imp (pe_listRg (by rw [C.hcalm]; exact hc) gl (by rw [C.hmg]; exact hm) (prg_1 gl2 (by rw [C.hmg]; exact hm2) h (star_of hs)) (by rfl)) fun σ H Q q => ?_
  obtain ⟨M, l, hh, R, L, p⟩ := q
  refine rd_bind R L p fun M1 H1 h1 x a e1 R1 L1 r1 p1 => ?_
  unfold rngL at p1
  split at p1
  · rename_i n
    by_cases hn : (decide (0 ≤ n) && decide (n ≤ 1000000)) = true
    · rw [if_pos hn] at p1
      obtain ⟨h1, h2⟩ := Bool.and_eq_true_iff.mp hn
      have h1 := of_decide_eq_true h1
      have h2 := of_decide_eq_true h2
      cases r1
      exact ⟨n, rfl, RgOk.of_le (by decide) (by omega) (by decide) h1, p1.ok R1 (by unfold rgV intsFrom; rw [Int.sub_zero]; exact rds_rng _)⟩
    · rw [if_neg hn] at p1; exact p1.elim
  · exact p1.elim
end
end WW
/-! 17: methods, chains, zip, enumerate, lists taken apart. -/
namespace WW
open PySem PySem.Spec PyProof.Rows L2
section
variable {g : Gx} {X : Cx} {c : Cs} {k : Nat} {Z : Spx} {tg : Expr}
/-! ### methods of built-in kinds -/
abbrev MF := D → List D → Hh → Option (D × Hh)
def rm (g : Gx) (Z : Spx) (f : MF) : V → List V → Hp → VK → Prop := fun x vs H Q => ∃ M h a ds d h', RelH g Z M H h ∧ RD g.K Z M H x a ∧ RDs g.K Z M H vs ds ∧ f a ds h = some (d, h') ∧
  ∀ M' H' v, Ext M H M' H' → RelH g Z M' H' h' → RD g.K Z M' H' v d → Q v H'
def tyM (T : String) : D → Bool
  | .lst _ => T == "list"
  | .str _ => T == "str"
  | _ => false
def mMth (T : String) (f : MF) (mo : ME D) (ms : ME (List D)) : ME D := mBind mo fun x => fun l h => if tyM T (vw h x) = true then mBind ms (fun xs _ h => match f x xs h with
  | some (d, h') => .ok d h'
  | none => .bad) l h else .bad
theorem tyV_of {K : PySem.W.Frag} {M : List Addr} {H : Hp} {v : V} {d : D} {T : String} (r : RW K Z M H v d) (h : tyM T d = true) : tyV K T v H := by
  cases d with
  | lst xs =>
    obtain ⟨p, vs, rfl, tp, rp⟩ := r.lst
    exact .inl ⟨eq_of_beq h, vs, .inl (.inl tp)⟩
  | str x =>
    obtain rfl := r.str
    exact eq_of_beq h
  | _ => cases h
theorem qe_mth (C : CxOk g X c k) {T id : String} {name : Str} {f : MF} {o e : Expr} {es : List Expr} {mo : ME D} {ms : ME (List D)} {apos cpos : Pos} (pa : PlainAttrs T) (slot : Slot T name id) (hty : typeOf (.builtin id) = pure (.type "method_descriptor"))
    (hm : MtR X id (rm g c.Z f)) (ho : QE g X c mo o) (ha : QA g X c ms (e :: es)) (hc : isCallE o = false) (hs : isStar e = false) (hpl : (backTo cpos (starEach es X.env)).any (·.1) = false)
    (hfew : ((backTo cpos (starEach (e :: es) X.env)).all (fun x => !x.1) && (backToKw cpos (keywordEach [] X.env)).all (fun x => x.1.isSome)
      && decide ((e :: es).length + ([] : List Keyword).length + (if ([] : List Keyword).isEmpty then 0 else 1) < 30)) = true)
    (hline : (apos.endLine == cpos.line) = true) : QE g X c (mMth T f mo ms) (.Call (.Attribute o name apos) (e :: es) [] cpos) := by
  refine PE.imp (pe_bm pa slot hty hm ho ha (base_of hc) hfew hline (star_of hs) hpl) fun σ H Q q => ?_
  obtain ⟨M, l, hh, R, L, p⟩ := q
  refine rd_bind R L p fun M1 H1 h1 x a e1 R1 L1 r1 p1 => ?_
  by_cases ht : tyM T (vw h1 a) = true
  · rw [if_pos ht] at p1
    refine ⟨by rw [C.hK]; exact tyV_of (.of R1 r1) ht, ?_⟩
    refine rd_bind R1 L1 p1 fun M2 H2 h2 y b e2 R2 L2 r2' p2 => ?_
    cases ef : f a b h2 with
    | none =>
      have p2 : Post g c.Z c.W (rD g c) M2 H2 σ (match f a b h2 with | some (d, h') => .ok d h' | none => .bad) Q := p2
      rw [ef] at p2; exact p2.elim
    | some q =>
      obtain ⟨d, h'⟩ := q
      have p2 : Post g c.Z c.W (rD g c) M2 H2 σ (match f a b h2 with | some (d, h') => .ok d h' | none => .bad) Q := p2
      rw [ef] at p2
      exact ⟨M2, h2, a, b, d, h', R2, r1.mono e2, r2', ef, p2⟩
  · rw [if_neg ht] at p1; exact p1.elim
theorem qe_mth0 (C : CxOk g X c k) {T id : String} {name : Str} {f : MF} {o : Expr} {mo : ME D} {apos cpos : Pos} (pa : PlainAttrs T) (slot : Slot T name id) (hty : typeOf (.builtin id) = pure (.type "method_descriptor"))
    (hm : MtR X id (rm g c.Z f)) (ho : QE g X c mo o) (hc : isCallE o = false) (hline : (apos.endLine == cpos.line) = true) : QE g X c (mMth T f mo mNil) (.Call (.Attribute o name apos) [] [] cpos) := by
  refine PE.imp (pe_bm0 pa slot hty hm ho (base_of hc) hline) fun σ H Q q => ?_
  obtain ⟨M, l, hh, R, L, p⟩ := q
  refine rd_bind R L p fun M1 H1 h1 x a e1 R1 L1 r1 p1 => ?_
  by_cases ht : tyM T (vw h1 a) = true
  · rw [if_pos ht] at p1
    refine ⟨by rw [C.hK]; exact tyV_of (.of R1 r1) ht, ?_⟩
    have p2 : Post g c.Z c.W (rD g c) M1 H1 σ (match f a [] h1 with | some (d, h') => .ok d h' | none => .bad) Q := p1
    cases ef : f a [] h1 with
    | none => rw [ef] at p2; exact p2.elim
    | some q =>
      obtain ⟨d, h'⟩ := q
      rw [ef] at p2
      exact ⟨M1, h1, a, [], d, h', R1, r1, .nil, ef, p2⟩
  · rw [if_neg ht] at p1; exact p1.elim
theorem MtR.cases {id : String} {r : V → List V → Hp → VK → Prop} (h : ∀ x xs H Q, r x xs H Q → ∃ r', MtR X id r' ∧ r' x xs H Q) : MtR X id r := fun p s σ H x xs v us Q I rx rv q => by
  obtain ⟨r', o, q'⟩ := h x xs H Q q
  exact o p s σ H x xs v us Q I rx rv q'
def fApp : MF := fun x xs h => match x, xs with
  | .ref r, [y] => (match h[r]? with
    | some (.lst zs) => if zs.length < sizeLine then some (.non, h.set r (.lst (zs ++ [y]))) else none
    | none => none)
  | _, _ => none
theorem mr_app : MtR X "list.append" (rm g Z fApp) := by
  refine MtR.cases fun x xs H Q q => ?_
  obtain ⟨M, h, a, ds, d, h', R, ra, rs, e, kk⟩ := q
  refine ⟨_, mt_append, ?_⟩
  unfold fApp at e
  split at e
  · rename_i r y
    cases ec : h[r]? with
    | none => rw [ec] at e; cases e
    | some cc =>
      cases cc with
      | lst zs =>
        rw [ec] at e
        obtain ⟨hl, e'⟩ := ite_some e
        cases e'
        cases ra with
        | ref m =>
          obtain ⟨vs, hv1, hv2⟩ := R.cell ec m
          cases rs with
          | cons ry t =>
            cases t
            exact ⟨_, vs, _, rfl, rfl, hv1, by rw [hv2.length]; exact hl, kk M _ _ (ext_set (List.mem_of_getElem? m)) (R.set ec m (hv2.snoc ry)) .non⟩
  · cases e
def fExt : MF := fun x xs h => match x, xs with
  | .ref r, [y] => (match h[r]?, vw h y with
    | some (.lst zs), .lst ws => if zs.length + ws.length ≤ sizeLine then some (.non, h.set r (.lst (zs ++ ws))) else none
    | _, _ => none)
  | _, _ => none
theorem mr_ext : MtR X "list.extend" (rm g Z fExt) := by
  refine MtR.cases fun x xs H Q q => ?_
  obtain ⟨M, h, a, ds, d, h', R, ra, rs, e, kk⟩ := q
  refine ⟨_, mt_extend, ?_⟩
  unfold fExt at e
  split at e
  · rename_i r y
    split at e
    · rename_i zs ws ec ew
      obtain ⟨hl, e'⟩ := ite_some e
      cases e'
      cases ra with
      | ref m =>
        obtain ⟨vs, hv1, hv2⟩ := R.cell ec m
        cases rs with
        | cons ry t =>
          cases t
          have rw' := RW.of R ry
          rw [ew] at rw'
          obtain ⟨p', vs', rfl, tp', rp'⟩ := rw'.lst
          exact ⟨_, p', vs, vs', rfl, rfl, hv1, tp', by rw [hv2.length, rp'.length]; exact hl, kk M _ _ (ext_set (List.mem_of_getElem? m)) (R.set ec m (hv2.append rp')) .non⟩
    · cases e
  · cases e
def fPop : MF := fun x xs h => match x, xs with
  | .ref r, [] => (match h[r]? with
    | some (.lst zs) => (match zs[zs.length - 1]? with
      | some y => some (y, h.set r (.lst zs.dropLast))
      | none => none)
    | none => none)
  | _, _ => none
theorem RDs.dropLast {K : PySem.W.Frag} {M : List Addr} {H : Hp} {vs : List V} {ds : List D} (r : RDs K Z M H vs ds) : RDs K Z M H vs.dropLast ds.dropLast := by
  rw [List.dropLast_eq_take, List.dropLast_eq_take, r.length]
  exact r.take _
theorem mr_pop : MtR X "list.pop" (rm g Z fPop) := by
  refine MtR.cases fun x xs H Q q => ?_
  obtain ⟨M, h, a, ds, d, h', R, ra, rs, e, kk⟩ := q
  refine ⟨_, mt_pop, ?_⟩
  unfold fPop at e
  split at e
  · rename_i r
    cases ec : h[r]? with
    | none => rw [ec] at e; cases e
    | some cc =>
      cases cc with
      | lst zs =>
        rw [ec] at e
        dsimp only at e
        cases ez : zs[zs.length - 1]? with
        | none => rw [ez] at e; cases e
        | some y =>
          rw [ez] at e
          cases e
          cases ra with
          | ref m =>
            obtain ⟨vs, hv1, hv2⟩ := R.cell ec m
            cases rs
            obtain ⟨v, h1, h2⟩ := hv2.get ez
            refine ⟨_, vs, v, rfl, rfl, hv1, by rw [hv2.length]; exact h1, kk M _ _ (ext_set (List.mem_of_getElem? m)) (R.set ec m hv2.dropLast) (h2.mono (ext_set (List.mem_of_getElem? m)))⟩
  · cases e
def fUpper : MF := fun x xs h => match x, xs with
  | .str a, [] => if a.length ≤ 5592405 then some (.str (Txt.upper a), h) else none
  | _, _ => none
theorem mr_upper : MtR X "str.upper" (rm g Z fUpper) := by
  refine MtR.cases fun x xs H Q q => ?_
  obtain ⟨M, h, a, ds, d, h', R, ra, rs, e, kk⟩ := q
  refine ⟨_, mt_upper, ?_⟩
  unfold fUpper at e
  split at e
  · obtain ⟨hl, e'⟩ := ite_some e
    cases e'
    cases ra; cases rs
    exact ⟨_, rfl, rfl, hl, kk M H _ (Ext.refl _ _) R (.str _)⟩
  · cases e
/-- texts of a list -/
def strsD : List D → Option (List Str)
  | [] => some []
  | .str b :: r => (strsD r).map (b :: ·)
  | _ => none
theorem RDs.strs {K : PySem.W.Frag} {M : List Addr} {H : Hp} : ∀ {vs : List V} {ds : List D} {bs : List Str}, RDs K Z M H vs ds → strsD ds = some bs → vs = bs.map V.str
  | _, _, _, .nil, e => by cases e; rfl
  | _, _, bs, .cons (d := d) r t, e => by
    cases d with
    | str b =>
      obtain ⟨bs', e1, rfl⟩ := Option.map_eq_some_iff.mp (show (strsD _).map (b :: ·) = some bs from e)
      cases r
      rw [RDs.strs t e1]; rfl
    | _ => cases e
def joinOk (a : Str) (ys : List Str) : Bool := decide ((ys.map (·.length)).sum + ys.length * a.length ≤ 16777216)
def fJoin : MF := fun x xs h => match x, xs with
  | .str a, [y] => (match vw h y with
    | .lst ds => (match strsD ds with
      | some ys => if joinOk a ys = true then some (.str (Txt.join a ys), h) else none
      | none => none)
    | .tup ds => (match strsD ds with
      | some ys => if joinOk a ys = true then some (.str (Txt.join a ys), h) else none
      | none => none)
    | _ => none)
  | _, _ => none
theorem mr_join (hK : X.K = g.K) : MtR X "str.join" (rm g Z fJoin) := by
  refine MtR.cases fun x xs H Q q => ?_
  obtain ⟨M, h, a, ds, d, h', R, ra, rs, e, kk⟩ := q
  refine ⟨_, mt_join, ?_⟩
  unfold fJoin at e
  split at e
  · rename_i a y
    cases ra
    cases rs with
    | cons ry t =>
      cases t
      have rw' := RW.of R ry
      split at e
      · rename_i ds ew
        rw [ew] at rw'
        cases es : strsD ds with
        | none => rw [es] at e; cases e
        | some ys =>
          rw [es] at e
          obtain ⟨hl, e'⟩ := ite_some e
          cases e'
          obtain ⟨p', vs', rfl, tp', rp'⟩ := rw'.lst
          obtain rfl := rp'.strs es
          exact ⟨a, p', ys, rfl, rfl, .inl (.inl (.inl tp')), of_decide_eq_true hl, kk M H _ (Ext.refl _ _) R (.str _)⟩
      · rename_i ds ew
        rw [ew] at rw'
        cases es : strsD ds with
        | none => rw [es] at e; cases e
        | some ys =>
          rw [es] at e
          obtain ⟨hl, e'⟩ := ite_some e
          cases e'
          obtain ⟨p', vs', rfl, tp', rp'⟩ := rw'.tup
          obtain rfl := rp'.strs es
          exact ⟨a, p', ys, rfl, rfl, .inr (by rw [hK]; exact tp'.sqt), of_decide_eq_true hl, kk M H _ (Ext.refl _ _) R (.str _)⟩
      · cases e
  · cases e
def cntOk (ds : List D) (y : D) : Bool := D.dats ds && y.dat && SeqAt.shaped (.list (D.pys ds)) && SeqAt.shaped y.py
def fCount : MF := fun x xs h => match xs with
  | [y] => (match vw h x with
    | .lst ds => if cntOk ds y = true then some (.int ((D.pys ds).countP fun z => PyData.eqv z y.py : Nat), h) else none
    | _ => none)
  | _ => none
theorem mr_count (hK : X.K = g.K) (hu : X.A.units + 80 < cLine) : MtR X "list.count" (rm g Z fCount) := by
  refine MtR.cases fun x xs H Q q => ?_
  obtain ⟨M, h, a, ds, d, h', R, ra, rs, e, kk⟩ := q
  refine ⟨_, mt_countD (by omega), ?_⟩
  unfold fCount at e
  split at e
  · rename_i y
    cases rs with
    | cons ry t =>
      cases t
      have rw' := RW.of R ra
      split at e
      · rename_i zs ew
        rw [ew] at rw'
        obtain ⟨hl, e'⟩ := ite_some e
        cases e'
        unfold cntOk at hl
        simp only [Bool.and_eq_true] at hl
        have q := rw'.dp (show D.dat (.lst zs) = true by unfold D.dat; exact hl.1.1.1)
        obtain ⟨p, vs, rfl, tp, rp⟩ := rw'.lst
        unfold D.py at q
        rw [hK]
        exact ⟨p, _, y.py, D.pys zs, rfl, rfl, q, (RW.rd ry).dp hl.1.1.2, hl.1.2, hl.2, kk M H _ (Ext.refl _ _) R (.int _)⟩
      · cases e
  · cases e
/-- the first place of an equal one -/
def idxOf (y : PyData) : List PyData → Option Nat
  | [] => none
  | z :: r => if PyData.eqv z y = true then some 0 else (idxOf y r).map (· + 1)
theorem idxOf_some {y : PyData} : ∀ {zs : List PyData} {j : Nat}, idxOf y zs = some j → (∃ z, zs[j]? = some z ∧ PyData.eqv z y = true) ∧ ∀ (m : Nat) (z' : PyData), m < j → zs[m]? = some z' → PyData.eqv z' y = false
  | [], _, h => by cases h
  | z :: r, j, h => by
    unfold idxOf at h
    by_cases hz : PyData.eqv z y = true
    · rw [if_pos hz] at h
      cases h
      exact ⟨⟨z, rfl, hz⟩, fun m z' hm => absurd hm (by omega)⟩
    · rw [if_neg hz] at h
      obtain ⟨i, h1, rfl⟩ := Option.map_eq_some_iff.mp h
      obtain ⟨⟨w, w1, w2⟩, h2⟩ := idxOf_some h1
      refine ⟨⟨w, by simpa using w1, w2⟩, fun m z' hm e => ?_⟩
      cases m with
      | zero => simp at e; subst e; simpa using hz
      | succ m => exact h2 m z' (by omega) (by simpa using e)
def fIndex : MF := fun x xs h => match xs with
  | [y] => (match vw h x with
    | .lst ds => if cntOk ds y = true then (match idxOf y.py (D.pys ds) with
      | some j => some (.int (j : Nat), h)
      | none => none) else none
    | _ => none)
  | _ => none
theorem mr_index (hK : X.K = g.K) (hu : X.A.units + 80 < cLine) : MtR X "list.index" (rm g Z fIndex) := by
  refine MtR.cases fun x xs H Q q => ?_
  obtain ⟨M, h, a, ds, d, h', R, ra, rs, e, kk⟩ := q
  refine ⟨_, mt_indexD (by omega), ?_⟩
  unfold fIndex at e
  split at e
  · rename_i y
    cases rs with
    | cons ry t =>
      cases t
      have rw' := RW.of R ra
      split at e
      · rename_i zs ew
        rw [ew] at rw'
        by_cases hl : cntOk zs y = true
        · rw [if_pos hl] at e
          cases ej : idxOf y.py (D.pys zs) with
          | none => rw [ej] at e; cases e
          | some j =>
            rw [ej] at e
            cases e
            obtain ⟨⟨z, z1, z2⟩, z3⟩ := idxOf_some ej
            unfold cntOk at hl
            simp only [Bool.and_eq_true] at hl
            have q := rw'.dp (show D.dat (.lst zs) = true by unfold D.dat; exact hl.1.1.1)
            obtain ⟨p, vs, rfl, tp, rp⟩ := rw'.lst
            unfold D.py at q
            rw [hK]
            exact ⟨p, _, y.py, D.pys zs, j, z, rfl, rfl, q, (RW.rd ry).dp hl.1.1.2, hl.1.2, hl.2, z1, z2, z3, kk M H _ (Ext.refl _ _) R (.int _)⟩
        · rw [if_neg hl] at e; cases e
      · cases e
  · cases e
end
end WW
/-! 18: chains, targets that are lists, comprehensions as values. -/
namespace WW
open PySem PySem.Spec PyProof.Rows L2
section
variable {g : Gx} {X : Cx} {c : Cs} {k : Nat} {Z : Spx} {tg : Expr}
theorem chain_in {op op' : CmpOp} {ma mb mc : ME D} {σ : L2.St} {H : Hp} {Q : VK} (q : rd g c (rD g c) (mChain op op' ma mb mc) σ H Q) :
    tChain (r2 g c.Z fun x y => (cmpD op x y).map D.bl) (r2 g c.Z fun x y => (cmpD op' x y).map D.bl) (rd g c (rD g c) ma) (rd g c (rD g c) mb) (rd g c (rD g c) mc) σ H Q := by
  obtain ⟨M, l, h, R, L, p⟩ := q
  refine rd_bind R L p fun M1 H1 h1 x a e1 R1 L1 r1 p1 => ?_
  refine rd_bind R1 L1 p1 fun M2 H2 h2 y b e2 R2 L2 r2' p2 => ?_
  have ra := r1.mono e2
  try dsimp only at p2
  cases e : cmpD op (vw h2 a) (vw h2 b) with
  | none => rw [e] at p2; exact p2.elim
  | some t =>
    rw [e] at p2
    refine ⟨M2, h2, vw h2 a, vw h2 b, .bl t, R2, .of R2 ra, .of R2 r2', by dsimp only; rw [e]; rfl, fun M3 H3 v3 x3 R3 r3 => ?_⟩
    cases r3
    refine ⟨t, rfl, ?_⟩
    cases t with
    | false =>
      rw [if_neg Bool.false_ne_true]
      exact p2.okx x3 R3 (.bl false)
    | true =>
      rw [if_pos rfl]
      refine rd_bind R3 (L2.mono x3) (p2.mono x3) fun M4 H4 h4 z dz e4 R4 L4 r4 p4 => ?_
      try dsimp only at p4
      cases e' : cmpD op' (vw h4 b) (vw h4 dz) with
      | none => rw [e'] at p4; exact p4.elim
      | some r =>
        rw [e'] at p4
        exact ⟨M4, h4, vw h4 b, vw h4 dz, .bl r, R4, .of R4 (r2'.mono (x3.trans e4)), .of R4 r4, by dsimp only; rw [e']; rfl, p4⟩
theorem qe_chain (C : CxOk g X c k) {a b d : Expr} {op op' : CmpOp} {ma mb mc : ME D} {pos : Pos} (ha : QE g X c ma a) (hb : QE g X c mb b) (hd : QE g X c mc d) (hm : lastMarks [op, op'] [b, d] = false) :
    QE g X c (mChain op op' ma mb mc) (.Compare a [op, op'] [b, d] pos) :=
  PE.imp (pe_chain (opr_cmp (Z := c.Z) C.hK C.units op) (opr_cmp (Z := c.Z) C.hK C.units op') ha hb hd hm) fun σ H Q q => chain_in q
theorem qt_chain (C : CxOk g X c k) {a b d : Expr} {op op' : CmpOp} {ma mb mc : ME D} {pos : Pos} (ha : QE g X c ma a) (hb : QE g X c mb b) (hd : QE g X c mc d) (hm : lastMarks [op, op'] [b, d] = false) :
    QT g X c (mBlT (mChain op op' ma mb mc)) (.Compare a [op, op'] [b, d] pos) := by
  refine PT.imp (pt_chain (opr_cmp (Z := c.Z) C.hK C.units op) (opr_cmp (Z := c.Z) C.hK C.units op') ha hb hd hm) fun σ H Q q => ?_
  refine chain_in ?_
  obtain ⟨M, l, h, R, L, p⟩ := q
  refine rd_bind R L p fun M1 H1 h1 x a e1 R1 L1 r1 p1 => ?_
  cases a with
  | bl b => cases r1; exact ⟨b, rfl, p1.ok R1 rfl⟩
  | _ => exact p1.elim
/-- a, b, .. = a list of that length -/
def gLs (n : Nat) (a : MGs) : MG := fun d l h => match vw h d with
  | .lst xs => if xs.length = n then a xs l h else .bad
  | _ => .bad
theorem qg_lst (C : CxOk g X c k) (hc : c.calm = true) {es : List Expr} {b : MGs} {kk : Nat} {pos : Pos} {n : Nat} (h : QGs g X c b es) (hn : (assignEach es X.env).length = n) (hst : (assignEach es X.env).findIdx? (·.1) = none) : QG g X c (gLs n b) (.Tuple es kk pos) := by
  refine PG.imp (pg_lst (n := n) (by rw [C.hcalm]; exact hc) h hn hst) fun v σ H Q q => ?_
  obtain ⟨M, l, h, d, R, L, r, p⟩ := q
  unfold gLs at p
  have ra := RW.of R r
  generalize vw h d = dd at ra p
  cases dd with
  | lst xs =>
    dsimp only at p
    by_cases hl : xs.length = n
    · rw [if_pos hl] at p
      cases ra.lsl with
      | mk hs rp => exact ⟨_, _, rfl, by rw [C.hK]; exact hs, by rw [rp.length]; exact hl, M, l, h, xs, R, L, rp, p⟩
    · rw [if_neg hl] at p; exact p.elim
  | _ => exact p.elim
/-- a tuple or a list -/
def gSq (n : Nat) (a : MGs) : MG := fun d l h => match vw h d with
  | .tup xs => if xs.length = n then a xs l h else .bad
  | .lst xs => if xs.length = n then a xs l h else .bad
  | _ => .bad
theorem PG.cases {e : Expr} {t : TG} (h : ∀ v σ H Q, t v σ H Q → ∃ t', PG X e t' ∧ t' v σ H Q) : PG X e t := ⟨fun p s σ H v u Q I r q => by
  obtain ⟨t', o, q'⟩ := h v σ H Q q
  exact o.run p s σ H v u Q I r q'⟩
theorem qg_seq (C : CxOk g X c k) (hc : c.calm = true) {es : List Expr} {b : MGs} {kk : Nat} {pos : Pos} {n : Nat} (h : QGs g X c b es) (hn : (assignEach es X.env).length = n) (hst : (assignEach es X.env).findIdx? (·.1) = none) : QG g X c (gSq n b) (.Tuple es kk pos) := by
  refine PG.cases fun v σ H Q q => ?_
  obtain ⟨M, l, h', d, R, L, r, p⟩ := q
  have p0 := p
  unfold gSq at p
  cases ed : vw h' d with
  | tup xs =>
    have e2 : d = .tup xs := by
      cases d with
      | ref n =>
        unfold vw at ed
        dsimp only at ed
        cases hc : h'[n]? with
        | none => rw [hc] at ed; cases ed
        | some cc => cases cc with | lst ys => rw [hc] at ed; cases ed
      | _ => exact ed
    subst e2
    rw [ed] at p
    exact ⟨_, qg_tup C hc h hn hst, M, l, h', .tup xs, R, L, r, p⟩
  | lst xs =>
    rw [ed] at p
    refine ⟨_, qg_lst C hc h hn hst, M, l, h', d, R, L, r, ?_⟩
    unfold gLs
    rw [ed]
    exact p
  | _ => rw [ed] at p; exact p.elim
theorem qs_par3 (C : CxOk g X c k) (hc : c.calm = true) {i j n : Nat} {x y z : Str} {a b d : Expr} {ms : ME (List D)} {px py pz pt pos : Pos} {kt k2 : Nat} {pt2 : Pos} (hi : c.N[i]? = some x) (hj : c.N[j]? = some y) (hn : c.N[n]? = some z) (hij : i ≠ j) (hin : i ≠ n) (hjn : j ≠ n)
    (hx : c.sc.names.lookup x = some .local) (hy : c.sc.names.lookup y = some .local) (hz : c.sc.names.lookup z = some .local) (ha : QA g X c ms [a, b, d])
    (hw : swappedStores [.Tuple [.Name x px, .Name y py, .Name z pz] kt pt] (.Tuple [a, b, d] k2 pt2) X.env = pure (some [x, y, z]))
    (hs : swapsWithSole [.Tuple [.Name x px, .Name y py, .Name z pz] kt pt] (.Tuple [a, b, d] k2 pt2) pos.line X.env = pure false) : QS g X c (sPar3 i j n ms) (.Assign [.Tuple [.Name x px, .Name y py, .Name z pz] kt pt] (.Tuple [a, b, d] k2 pt2) pos) := by
  refine PS.imp (ps_par3 (by rw [C.hcalm]; exact hc) (by rw [C.hN]; exact C.nd) (by rw [C.hN]; exact hi) (by rw [C.hN]; exact hj) (by rw [C.hN]; exact hn) hij hin hjn (by rw [C.hsc]; exact hx) (by rw [C.hsc]; exact hy) (by rw [C.hsc]; exact hz) ha hw hs) fun D σ H q => ?_
  obtain ⟨M, l, h, R, L, p⟩ := q
  refine rs_bind R L p fun M1 H1 h1 x a e1 R1 L1 r1 p1 => ?_
  match a, r1, p1 with
  | [a, b, d], .cons ra (.cons rb (.cons rc .nil)), p => exact ⟨_, _, _, rfl, p M1 H1 _ (Ext.refl _ _) R1 (((L1.set ra).set rb).set rc)⟩
  | [], _, p => exact p.elim
  | [_], _, p => exact p.elim
  | [_, _], _, p => exact p.elim
  | _ :: _ :: _ :: _ :: _, _, p => exact p.elim
/-! ### comprehensions as values -/
abbrev BlkQ (g : Gx) (X : Cx) (c : Cs) (scope : Scope) (P : Cx → Cs → Prop) : Prop := ∀ (s : Shared) (H : Hp) (C : Addr) (cl : List (Str × Addr)) (fp : List Addr), P (X.blk s H scope (compEnvC scope cl C X.env) fp) (c.blk scope)
section
variable {elt target iter : Expr} {ifs : List Expr} {scope : Scope} {own : List (Str × Nat)} {pos spos py : Pos} {mi : ME DIt} {mt : MG} {ts : ME Bool} {me : ME D} {i : Nat} {y : Str}
theorem pe_lcm (C : CxOk g X c k) (hc : c.calm = true) (hi : QI g X c target mi iter) (ok : BlkOk c.N c.sc scope own) (hg : BlkQ g X c scope fun X c => QGw g X c (own.map (·.2)) mt target) (ht : BlkQ g X c scope fun X c => QTs g X c ts ifs)
    (he : BlkQ g X c scope fun X c => QE g X c me elt) (hs : isSet iter = false) :
    PE X (.ListComp elt [⟨target, iter, ifs, 0⟩] scope pos) (fun σ H Q => ∃ M l h, RelH g c.Z M H h ∧ RL g.K c.Z M H σ l ∧ Post g c.Z c.W (rR M.length) M H σ (mLc mi mt ts me (own.map (·.2)) l h) Q) :=
  PE.imp (pe_lc (own := own) (by rw [C.hcalm]; exact hc) (by rw [C.hN]; exact C.nd) hi (by rw [C.hN, C.hsc]; exact ok) hg ht he (fun x => folded_none hs)) fun σ H Q q => by
    obtain ⟨M, l, h, R, L, p⟩ := q
    exact lc_tl R L p
theorem qe_lcM (C : CxOk g X c k) (hc : c.calm = true) (hi : QI g X c target mi iter) (ok : BlkOk c.N c.sc scope own) (hg : BlkQ g X c scope fun X c => QGw g X c (own.map (·.2)) mt target) (ht : BlkQ g X c scope fun X c => QTs g X c ts ifs)
    (he : BlkQ g X c scope fun X c => QE g X c me elt) (hs : isSet iter = false) : QE g X c (mLcM (mLc mi mt ts me (own.map (·.2)))) (.ListComp elt [⟨target, iter, ifs, 0⟩] scope pos) :=
  PE.imp (pe_lcm C hc hi ok hg ht he hs) fun σ H Q q => by
    obtain ⟨M, l, h, R, L, p⟩ := q
    exact ⟨M, l, h, R, L, lcM p⟩
theorem qe_lcF (C : CxOk g X c k) (hc : c.calm = true) (hi : QI g X c target mi iter) (ok : BlkOk c.N c.sc scope own) (hg : BlkQ g X c scope fun X c => QGw g X c (own.map (·.2)) mt target) (ht : BlkQ g X c scope fun X c => QTs g X c ts ifs)
    (he : BlkQ g X c scope fun X c => QE g X c me elt) (hs : isSet iter = false) : QE g X c (mLcF (mLc mi mt ts me (own.map (·.2)))) (.ListComp elt [⟨target, iter, ifs, 0⟩] scope pos) :=
  PE.imp (pe_lcm C hc hi ok hg ht he hs) fun σ H Q q => by
    obtain ⟨M, l, h, R, L, p⟩ := q
    exact ⟨M, l, h, R, L, lcF (C.nex hc) R p⟩
theorem ps_setLcm (C : CxOk g X c k) (hc : c.calm = true) (hk : X.env.scope.kind = .function) (hy : c.N[i]? = some y) (hyl : c.sc.names.lookup y = some .local) (hl : (py.line == pos.line) = true)
    (ha : (scope.names.any fun (n, k) => n == y && (k == .local || k == .cell)) = false) (hi : QI g X c target mi iter) (ok : BlkOk c.N c.sc scope own) (hg : BlkQ g X c scope fun X c => QGw g X c (own.map (·.2)) mt target) (ht : BlkQ g X c scope fun X c => QTs g X c ts ifs)
    (he : BlkQ g X c scope fun X c => QE g X c me elt) (hs : isSet iter = false) :
    PS X (.Assign [.Name y py] (.ListComp elt [⟨target, iter, ifs, 0⟩] scope pos) spos) (fun D σ H => ∃ M l h, RelH g c.Z M H h ∧ RL g.K c.Z M H σ l ∧ Post g c.Z c.W (rR M.length) M H σ (mLc mi mt ts me (own.map (·.2)) l h) fun v H1 => D.nx (σ.set i (some v)) H1) := by
  refine PS.imp (ps_setLc (i := i) (own := own) (by rw [C.hcalm]; exact hc) (by rw [C.hN]; exact C.nd) (by rw [C.hN]; exact hy) (by rw [C.hsc]; exact hyl) (sw_true hk (by rw [C.hsc]; exact hyl) hl ha) hi (by rw [C.hN, C.hsc]; exact ok) hg ht he (fun x => folded_none hs)) fun D σ H q => ?_
  obtain ⟨M, l, h, R, L, p⟩ := q
  exact lc_tl R L p
theorem set_in {m : ME D} {D : Ends} {M : List Addr} {H : Hp} {σ : L2.St} {l : Lc} {h : Hh} (L : RL g.K c.Z M H σ l) (p : SPost g c D M H σ (sAsg m (gNm i) l h)) : Post g c.Z c.W (rD g c) M H σ (m l h) fun v H1 => D.nx (σ.set i (some v)) H1 := by
  unfold sAsg sBind at p
  cases e : m l h with
  | ok d h' =>
    rw [e] at p
    exact fun M1 H1 v x r q => p M1 H1 _ x r ((L.mono x).set q)
  | exc e' h' =>
    rw [e] at p
    exact fun M1 H1 cv d x r q => p M1 H1 σ cv d x r (L.mono x) q
  | bad => rw [e] at p; exact p
theorem qs_setLcM (C : CxOk g X c k) (hc : c.calm = true) (hk : X.env.scope.kind = .function) (hy : c.N[i]? = some y) (hyl : c.sc.names.lookup y = some .local) (hl : (py.line == pos.line) = true)
    (ha : (scope.names.any fun (n, k) => n == y && (k == .local || k == .cell)) = false) (hi : QI g X c target mi iter) (ok : BlkOk c.N c.sc scope own) (hg : BlkQ g X c scope fun X c => QGw g X c (own.map (·.2)) mt target) (ht : BlkQ g X c scope fun X c => QTs g X c ts ifs)
    (he : BlkQ g X c scope fun X c => QE g X c me elt) (hs : isSet iter = false) : QS g X c (sAsg (mLcM (mLc mi mt ts me (own.map (·.2)))) (gNm i)) (.Assign [.Name y py] (.ListComp elt [⟨target, iter, ifs, 0⟩] scope pos) spos) :=
  PS.imp (ps_setLcm C hc hk hy hyl hl ha hi ok hg ht he hs) fun D σ H q => by
    obtain ⟨M, l, h, R, L, p⟩ := q
    exact ⟨M, l, h, R, L, lcM (set_in L p)⟩
theorem qs_setLcF (C : CxOk g X c k) (hc : c.calm = true) (hk : X.env.scope.kind = .function) (hy : c.N[i]? = some y) (hyl : c.sc.names.lookup y = some .local) (hl : (py.line == pos.line) = true)
    (ha : (scope.names.any fun (n, k) => n == y && (k == .local || k == .cell)) = false) (hi : QI g X c target mi iter) (ok : BlkOk c.N c.sc scope own) (hg : BlkQ g X c scope fun X c => QGw g X c (own.map (·.2)) mt target) (ht : BlkQ g X c scope fun X c => QTs g X c ts ifs)
    (he : BlkQ g X c scope fun X c => QE g X c me elt) (hs : isSet iter = false) : QS g X c (sAsg (mLcF (mLc mi mt ts me (own.map (·.2)))) (gNm i)) (.Assign [.Name y py] (.ListComp elt [⟨target, iter, ifs, 0⟩] scope pos) spos) :=
  PS.imp (ps_setLcm C hc hk hy hyl hl ha hi ok hg ht he hs) fun D σ H q => by
    obtain ⟨M, l, h, R, L, p⟩ := q
    exact ⟨M, l, h, R, L, lcF (C.nex hc) R (set_in L p)⟩
end
end
end WW
/-! 14b: own exceptions: raised, caught, asked of. -/
namespace WW
open PySem PySem.Spec PyProof.Rows L2
/-- an exception class of the text: its name, what it keeps, what stands above it (itself too) -/
structure Xd where
  name : Str
  fld : Option Str
  sup : List Str
structure XcOk (g : Gx) (d : Xd) (C : Addr) : Prop where
  gC : g.mg d.name = some (.ref C)
  cC : g.CA d.name = some C
  hcl : (PySem.W.clsIn g.K C).isSome = true
  ga : PySem.W.findIn g.K (.ref C) "__getattribute__" = some (some (.builtin "BaseException.__getattribute__"))
  gg : PySem.W.findIn g.K (.ref C) "__getattr__" = some none
  exC : PySem.W.subIn g.K (.ref C) (.type "BaseException") = some true
  ha : PySem.W.findIn g.K (.ref C) "__class__" = some (some (.builtin "object.__class__"))
  hm : PySem.W.mroIn g.K C (.type "object") = some true
  hn : PySem.W.specialIn g.K (.builtin "object.__class__") "__get__" = some (some (.builtin "getset_descriptor.__get__"))
  ht : PySem.W.takesIn g.K (.builtin "object.__class__") = some true
  tyC : PySem.W.typeIn g.K (.ref C) = some (.type "type")
  kC : PySem.W.keepIn g.K (.ref C) = true
  own : d.fld = none → ∃ B newId initId bmB, ExcBaseFacts B newId initId bmB ∧ PySem.W.excIn g.K C bmB newId = true
  keep : ∀ f, d.fld = some f → PySem.W.hasDictIn g.K C = true ∧ PySem.W.findIn g.K (.ref C) f = some none ∧ PySem.LowG.FlOk f ∧ ∃ B newId initId bmB fI qual nI, PySem.LowG.BaseOk B newId initId bmB ∧ PySem.LowG.Txt g.K C fI f qual nI bmB newId
/-- the text's exception classes, two by two -/
structure XsOk (g : Gx) (xs : List Xd) : Prop where
  one : ∀ d ∈ xs, ∃ C, XcOk g d C
  two : ∀ d ∈ xs, ∀ y ∈ xs, ∀ C C', g.CA d.name = some C → g.CA y.name = some C' → PySem.W.exmOne g.K (.ref C) (.ref C') = some (d.sup.contains y.name) ∧ PySem.W.kitOne g.K (.ref C) (.ref C') = some (d.sup.contains y.name)
def findX (xs : List Xd) (x : Str) : Option Xd := xs.find? fun d => d.name == x
theorem findX_ok {xs : List Xd} {x : Str} {d : Xd} (h : findX xs x = some d) : d ∈ xs ∧ d.name = x := ⟨List.mem_of_find?_eq_some h, by simpa using List.find?_some h⟩
/-! ### other special objects -/
def Zle (Z Z2 : Spx) : Prop := (∀ q, Z.thk = some q → Z2.thk = some q) ∧ ∀ q, Z.exo = some q → Z2.exo = some q
section
variable {K : PySem.W.Frag} {Z Z2 : Spx} {M : List Addr} {H : Hp} {n : Nat}
mutual
theorem RD.zle (z : Zle Z Z2) : ∀ {v : V} {d : D}, RD K Z M H v d → RD K Z2 M H v d
  | _, _, .non => .non
  | _, _, .bl b => .bl b
  | _, _, .int i => .int i
  | _, _, .str x => .str x
  | _, _, .tup t r => .tup t (RDs.zle z r)
  | _, _, .lst a b r => .lst a b (RDs.zle z r)
  | _, _, .lok t r => .lok t (RDs.zle z r)
  | _, _, .dic a b r => .dic a b (RDk.zle z r)
  | _, _, .ref e => .ref e
  | _, _, .thk h => .thk (z.1 _ h)
  | _, _, .exo h => .exo (z.2 _ h)
theorem RDs.zle (z : Zle Z Z2) : ∀ {vs : List V} {ds : List D}, RDs K Z M H vs ds → RDs K Z2 M H vs ds
  | _, _, .nil => .nil
  | _, _, .cons r t => .cons (RD.zle z r) (RDs.zle z t)
theorem RDk.zle (z : Zle Z Z2) : ∀ {vs : List (Key × V)} {ds : List (Key × D)}, RDk K Z M H vs ds → RDk K Z2 M H vs ds
  | _, _, .nil => .nil
  | _, _, .cons r t => .cons (RD.zle z r) (RDk.zle z t)
end
mutual
theorem RD.zany : ∀ {v : V} {d : D}, RD K Z M H v d → d.low n = true → RD K Z2 M H v d
  | _, _, .non, _ => .non
  | _, _, .bl b, _ => .bl b
  | _, _, .int i, _ => .int i
  | _, _, .str x, _ => .str x
  | _, _, .tup t r, h => .tup t (RDs.zany r (by unfold D.low at h; exact h))
  | _, _, .lst a b r, h => .lst a b (RDs.zany r (by unfold D.low at h; exact h))
  | _, _, .lok t r, h => .lok t (RDs.zany r (by unfold D.low at h; exact h))
  | _, _, .dic a b r, h => .dic a b (RDk.zany r (by unfold D.low at h; exact h))
  | _, _, .ref e, _ => .ref e
  | _, _, .thk _, h => by unfold D.low at h; cases h
  | _, _, .exo _, h => by unfold D.low at h; cases h
theorem RDs.zany : ∀ {vs : List V} {ds : List D}, RDs K Z M H vs ds → D.lows n ds = true → RDs K Z2 M H vs ds
  | _, _, .nil, _ => .nil
  | _, _, .cons r t, h => by
    unfold D.lows at h
    obtain ⟨h1, h2⟩ := Bool.and_eq_true_iff.mp h
    exact .cons (RD.zany r h1) (RDs.zany t h2)
theorem RDk.zany : ∀ {vs : List (Key × V)} {ds : List (Key × D)}, RDk K Z M H vs ds → D.lowk n ds = true → RDk K Z2 M H vs ds
  | _, _, .nil, _ => .nil
  | _, _, .cons r t, h => by
    unfold D.lowk at h
    obtain ⟨h1, h2⟩ := Bool.and_eq_true_iff.mp h
    exact .cons (RD.zany r h1) (RDk.zany t h2)
end
end
section
variable {g : Gx} {Z Z2 : Spx} {M : List Addr} {H : Hp} {h : Hh}
theorem XOk.zle {CA : Str → Option Addr} {K : PySem.W.Frag} {cv : Value} {d : Option Addr} {e : Exn} (x : XOk CA K Z M H cv d e) (z : Zle Z Z2) : XOk CA K Z2 M H cv d e := by
  obtain ⟨c, x⟩ := x
  refine ⟨c, ?_⟩
  cases e' : e.fld with
  | none => rw [e'] at x; exact x
  | some p =>
    obtain ⟨f, y⟩ := p
    rw [e'] at x
    obtain ⟨dd, v, e1, e2, e3, e4⟩ := x
    exact ⟨dd, v, e1, e2, e3, e4.zle z⟩
theorem RelH.zle (R : RelH g Z M H h) (z : Zle Z Z2) (hx : ∀ a cv d e, Z2.exo = some (a, cv, d, e) → XOk g.CA g.K Z2 M H cv d e) (ht : ∀ a M0 H0, Z2.thk = some (a, M0, H0) → Ext M0 H0 M H) : RelH g Z2 M H h := by
  refine ⟨R.len, R.nd, fun r c a h1 h2 => ?_, R.tabs, R.tout, hx, ht⟩
  have q := R.at_ r c a h1 h2
  cases c with
  | lst ds =>
    obtain ⟨vs, e1, e2⟩ := q
    exact ⟨vs, e1, e2.zle z⟩
theorem RelH.zdown {n : Nat} (R : RelH g Z2 M H h) (o : h.all (Cell.low n) = true) (hx : ∀ a cv d e, Z.exo = some (a, cv, d, e) → XOk g.CA g.K Z M H cv d e) (ht : ∀ a M0 H0, Z.thk = some (a, M0, H0) → Ext M0 H0 M H) : RelH g Z M H h := by
  refine ⟨R.len, R.nd, fun r c a h1 h2 => ?_, R.tabs, R.tout, hx, ht⟩
  have q := R.at_ r c a h1 h2
  have lo := List.all_eq_true.mp o c (List.mem_of_getElem? h1)
  cases c with
  | lst ds =>
    obtain ⟨vs, e1, e2⟩ := q
    exact ⟨vs, e1, e2.zany lo⟩
theorem RL.zle {K : PySem.W.Frag} {σ : L2.St} {l : Lc} (L : RL K Z M H σ l) (z : Zle Z Z2) : RL K Z2 M H σ l := ⟨L.len, fun i d h => let ⟨v, h1, h2⟩ := L.at_ i d h; ⟨v, h1, h2.zle z⟩⟩
end
/-! ### raise -/
def sRaise (x : Str) (f : Option Str) (m : ME D) : MS := sBind m fun v l h => .exc ⟨x, f.map fun y => (y, v)⟩ l h
section
variable {g : Gx} {X : Cx} {c : Cs} {k : Nat} {xs : List Xd}
theorem qs_raise (C : CxOk g X c k) (hcalm : c.calm = true) {d : Xd} {A : Addr} (T : XcOk g d A) {e : Expr} {m : ME D} {p pos pos' : Pos} (hg : c.sc.names.lookup d.name = some .globalImplicit) (hdb : (d.name == ("__debug__" : Str)) = false)
    (h : QE g X c m e) (hs : starEach [e] X.env = (false, eval e X.env) :: starEach [] X.env) : QS g X c (sRaise d.name d.fld m) (.Raise (some (.Call (.Name d.name p) [e] [] pos)) none pos') := by
  have gl : Gl X d.name := by
    show X.env.scope.names.lookup d.name = _
    rw [C.hsc]; exact hg
  have kC : PySem.W.keepIn X.K (.ref A) = true := by rw [C.hK]; exact T.kC
  have gC : X.mg d.name = some (.ref A) := by rw [C.hmg]; exact T.gC
  cases ef : d.fld with
  | none =>
    obtain ⟨B, newId, initId, bmB, F, q⟩ := T.own ef
    refine PS.imp (ps_raise (by rw [C.hcalm]; exact hcalm) C.tk (SkE.pmk_own1 F (by rw [C.hK]; exact q) gC kC (raises_own (by rw [C.hK]; exact T.exC) (by rw [C.hK]; exact T.tyC)) gl h hs hdb)) fun D σ H q => ?_
    obtain ⟨M, l, hh, R, L, p⟩ := q
    refine rs_bind R L p fun M1 H1 h1 x a e1 R1 L1 r1 p1 => ?_
    exact p1 M1 H1 σ (.ref A) none (Ext.refl _ _) R1 L1 ⟨⟨A, T.cC, rfl⟩, rfl⟩
  | some f =>
    obtain ⟨hd, hno, FL, B, newId, initId, bmB, fI, qual, nI, BO, TX⟩ := T.keep f ef
    refine PS.imp (ps_raise (by rw [C.hcalm]; exact hcalm) C.tk (pmk_keep BO (by rw [C.hK]; exact TX) FL gC (C.room hcalm) (pa_cons h pa_nil hs) gl hdb hs)) fun D σ H q => ?_
    obtain ⟨M, l, hh, R, L, p⟩ := q
    refine rs_bind R L p fun M1 H1 h1 x a e1 R1 L1 r1 p1 => ?_
    refine ⟨x, rfl, fun dd hdd => ?_⟩
    have ex := Ext.upd (M := M1) (o := HO.xd [(f, x)]) hdd
    exact p1 M1 _ σ (.ref A) (some dd) ex (R1.alloc hdd) (L1.mono ex) ⟨⟨A, T.cC, rfl⟩, dd, x, rfl, upd_same, R1.fresh hdd, r1.mono ex⟩
/-! ### the caught one -/
def mIsX (xs : List Xd) (T : Str) (m : ME D) : ME D := mBind m fun x => fun _ h => match x with
  | .exo cls _ => (match findX xs cls with
    | some d => .ok (.bl (d.sup.contains T)) h
    | none => .bad)
  | _ => .bad
def fldX (xs : List Xd) (f : Str) (x : D) : Option D := match x with
  | .exo cls (some (f', v)) => (match findX xs cls with
    | some d => if d.fld = some f ∧ f' = f then some v else none
    | none => none)
  | _ => none
def mFld (xs : List Xd) (f : Str) (m : ME D) : ME D := mBind m fun x => fun _ h => match fldX xs f x with
  | some v => .ok v h
  | none => .bad
theorem inst_of (C : CxOk g X c k) {pins : List (Addr × Obj)} {σ : L2.St} {H : Hp} {s : Shared} (I : Inv X pins σ H s) {M : List Addr} {h : Hh} (R : RelH g c.Z M H h) {a A : Addr} {cv : Value} {d : Option Addr} {e : Exn} (hz : c.Z.exo = some (a, cv, d, e)) (hA : g.CA e.cls = some A) :
    ∃ oe od, PySem.W.InstAt s.heap a oe A od ∧ cv = .ref A ∧ match e.fld with
      | none => True
      | some (f, y) => ∃ v u o1, RD g.K c.Z M H v y ∧ RelV v u ∧ od = some o1 ∧ PySem.W.lookIn f o1 = some (some u) := by
  obtain ⟨oe, hp, ⟨z1, z2⟩, vs, hv⟩ := C.pinE a cv d e hz
  obtain ⟨⟨A', h1, h2⟩, hx⟩ := R.exo a cv d e hz
  rw [hA] at h1; cases h1
  subst h2
  obtain ⟨hget, _⟩ := I.pin (a, oe) (List.mem_append.mpr (.inl hp))
  cases ef : e.fld with
  | none =>
    rw [ef] at hx
    have hx : d = none := hx
    subst hx
    refine ⟨oe, none, ⟨hget, z1, by unfold PySem.W.notCls; rw [hv] <;> rfl, by rw [z2]; trivial⟩, rfl, trivial⟩
  | some p =>
    obtain ⟨f, y⟩ := p
    rw [ef] at hx
    obtain ⟨dd, v, rfl, e2, e3, e4⟩ := hx
    have ho : ObjOk X.prog X.w H s.heap dd (.xd [(f, v)]) := I.hok dd _ e2
    obtain ⟨mA, hns, hr⟩ := ho
    obtain ⟨od, ho, hl⟩ := lookIn_ns hns
    obtain ⟨u, hu, ru⟩ := RelO.some_of (v := v) (o := mA f) (by
      have q : List.lookup f [(f, v)] = some v := by simp [List.lookup]
      rw [← q]; exact hr f)
    exact ⟨oe, some od, ⟨hget, z1, by unfold PySem.W.notCls; rw [hv] <;> rfl, by rw [z2]; exact ho⟩, rfl, v, u, od, e4, ru, rfl, by rw [hl, hu]⟩
/-- isinstance(e, T), T by its class object -/
theorem call_isX (C : CxOk g X c k) (XS : XsOk g xs) {T : Str} {tv : V} {cv : Value} (ht : ∀ u, RelV tv u → u = cv) (hk : ∀ d ∈ xs, ∀ A, g.CA d.name = some A → PySem.W.kitOne g.K (.ref A) cv = some (d.sup.contains T)) :
    CallR X (.builtin "isinstance") (fun vs H Q => ∃ M h a A cA d e, RelH g c.Z M H h ∧ c.Z.exo = some (a, cA, d, e) ∧ vs = [.ref a, tv] ∧ ∃ dd, findX xs e.cls = some dd ∧ g.CA e.cls = some A ∧ Q (.bl (dd.sup.contains T)) H) := by
  intro pins s σ H vs us Q I r h
  obtain ⟨M, hh, a, A, cA, d, e, R, hz, rfl, dd, hf, hA, q⟩ := h
  obtain ⟨hd, hn⟩ := findX_ok hf
  obtain ⟨A', T1⟩ := XS.one dd hd
  have hA' : A' = A := by
    have z := T1.cC
    rw [hn, hA] at z; exact (Option.some.inj z).symm
  subst hA'
  obtain ⟨oe, od, J, _, _⟩ := inst_of C I R hz hA
  cases r with
  | cons rx rr =>
    cases rr with
    | cons rt rr =>
      cases rr
      cases rx
      have ec := ht _ rt
      subst ec
      have hK := C.hK
      exact PySem.W.kia_one (PySem.W.kitx_exc (by rw [hK]; exact T1.hcl) (by rw [hK]; exact T1.ga) (by rw [hK]; exact T1.gg) (by rw [hK]; exact T1.exC) (by rw [hK]; exact T1.ha) (by rw [hK]; exact T1.hn) (by rw [hK]; exact T1.ht) (by rw [hK]; exact T1.hm)) I.kIn J
        (by rw [hK]; exact hk dd hd _ (by rw [hn]; exact hA)) (fun z => nomatch z) fun tk => ⟨.bl _, H, I.kept (t' := tk) fun _ _ z => z, rfl, q⟩
theorem qe_isX (C : CxOk g X c k) (XS : XsOk g xs) {T : Str} {tv : V} {cv : Value} {e : Expr} {m : ME D} {p p2 pos : Pos} (ht : ∀ u, RelV tv u → u = cv) (hk : ∀ d ∈ xs, ∀ A, g.CA d.name = some A → PySem.W.kitOne g.K (.ref A) cv = some (d.sup.contains T))
    (hT : PE X (.Name T p2) (tC tv)) (hg2 : c.sc.names.lookup ("isinstance" : Str) = some .globalImplicit) (hm2 : g.mg "isinstance" = none) (h : QE g X c m e) (hs : starEach [e, .Name T p2] X.env = (false, eval e X.env) :: starEach [.Name T p2] X.env) :
    QE g X c (mIsX xs T m) (.Call (.Name "isinstance" p) [e, .Name T p2] [] pos) := by
  have gl : Gl X "isinstance" := by
    show X.env.scope.names.lookup _ = _
    rw [C.hsc]; exact hg2
  refine PE.imp (pe_callB (id := "isinstance") (call_isX C XS ht hk) gl (by rw [C.hmg]; exact hm2) (by decide +kernel) (pa_cons h (pa_cons hT pa_nil (by rfl)) hs) (by decide) (by decide) hs (by rfl)) fun σ H Q q => ?_
  obtain ⟨M, l, hh, R, L, p⟩ := q
  refine rd_bind R L p fun M1 H1 h1 y a e1 R1 L1 r1 p1 => ?_
  cases a with
  | exo cls fld =>
    have p1 : Post g c.Z c.W (rD g c) M1 H1 σ (match findX xs cls with | some d => .ok (.bl (d.sup.contains T)) h1 | none => .bad) Q := p1
    cases ef : findX xs cls with
    | none => rw [ef] at p1; exact p1.elim
    | some dd =>
      generalize ey : D.exo cls fld = dy at r1
      cases r1 with
      | @exo a cA d e hz =>
        cases ey
        obtain ⟨⟨A, hA, _⟩, _⟩ := R1.exo _ _ _ _ hz
        have p1 : Post g c.Z c.W (rD g c) M1 H1 σ (match findX xs e.cls with | some d => .ok (.bl (d.sup.contains T)) h1 | none => .bad) Q := p1
        rw [ef] at p1
        exact ⟨M1, h1, a, A, cA, d, e, R1, hz, rfl, dd, ef, hA, p1.ok R1 (RD.bl _)⟩
      | _ => cases ey
  | _ => exact p1.elim
/-- e.f, e the caught one -/
theorem qe_fld (C : CxOk g X c k) (XS : XsOk g xs) {f x : Str} {m : ME D} {p pos : Pos} (h : QE g X c m (.Name x p)) : QE g X c (mFld xs f m) (.Attribute (.Name x p) f pos) := by
  refine ⟨fun pins s σ H Q I q => ?_⟩
  obtain ⟨M, l, hh, R, L, p⟩ := q
  refine attr_of (by rfl) (thn (h.run pins s σ H _ I (rd_bind (Q1 := fun y H1 => ∃ M1 h1 a, RelH g c.Z M1 H1 h1 ∧ RD g.K c.Z M1 H1 y a ∧ Post g c.Z c.W (rD g c) M1 H1 σ (match fldX xs f a with
      | some v => .ok v h1
      | none => .bad) Q) R L p fun M1 H1 h1 y a e1 R1 L1 r1 p1 => ⟨M1, h1, a, R1, r1, p1⟩)) fun u s1 hh => ?_)
  obtain ⟨y, H1, I1, ry, M1, h1, a, R1, r1, p1⟩ := hh
  cases ef : fldX xs f a with
  | none => rw [ef] at p1; exact p1.elim
  | some v =>
    rw [ef] at p1
    unfold fldX at ef
    split at ef
    · rename_i cls f' v'
      cases er : findX xs cls with
      | none => rw [er] at ef; cases ef
      | some dd =>
        rw [er] at ef
        obtain ⟨⟨hf1, rfl⟩, rfl⟩ := ite_some ef
        obtain ⟨hd, hn⟩ := findX_ok er
        generalize ey : D.exo cls (some (f', v')) = dy at r1
        cases r1 with
        | @exo a cA d e hz =>
          obtain ⟨ecls, efld⟩ := e
          cases ey
          obtain ⟨⟨A, hA, _⟩, _⟩ := R1.exo _ _ _ _ hz
          have hA : g.CA ecls = some A := hA
          obtain ⟨oe, od, J, _, vv, uu, o1, rv, ru, rfl, lk⟩ := inst_of C I1 R1 hz hA
          obtain rfl : u = Value.ref a := ry
          obtain ⟨A', T1⟩ := XS.one dd hd
          have hA' : A' = A := by
            have z := T1.cC
            rw [hn, hA] at z; exact (Option.some.inj z).symm
          subst hA'
          obtain ⟨hdc, hno, _⟩ := T1.keep _ hf1
          have hK := C.hK
          exact HandSPX.exc_get I1.kIn J (by rw [hK]; exact T1.ga) (by rw [hK]; exact T1.gg) (by rw [hK]; exact T1.exC) (PySem.W.findObj_own (by rw [hK]; exact hdc) (by rw [hK]; exact hno) rfl lk) (handed_of ru) ⟨vv, H1, I1.tok _, ru, p1.ok R1 rv⟩
        | _ => cases ey
    · cases ef
/-! ### try -/
/-- the suite's own state -/
def zSu (Z : Spx) (a : Addr) (cls : Value) (d : Option Addr) (e : Exn) : Spx := ⟨Z.thk, some (a, cls, d, e)⟩
def cSu (c : Cs) (a : Addr) (cls : Value) (d : Option Addr) (e : Exn) : Cs := ⟨c.N, c.sc, false, zSu c.Z a cls d e, fun _ _ _ _ => False⟩
def lSu (l : Lc) (io : Option Nat) (e : Exn) : Lc := match io with
  | some i => l.set i (some (.exo e.cls e.fld))
  | none => l
/-- a suite's end: a value without the exception -/
def endSu : SOut → SOut
  | .rt v h => if v.low h.length = true ∧ h.all (Cell.low h.length) = true then .rt v h else .bad
  | _ => .bad
abbrev Hdl : Type := Str × Option Nat × MS
def hndl (xs : List Xd) (e : Exn) (l : Lc) (h : Hh) : List Hdl → SOut
  | [] => .exc e l h
  | (y, io, ms) :: r => (match findX xs e.cls with
    | none => .bad
    | some d => if d.sup.contains y = true then endSu (ms (lSu l io e) h) else hndl xs e l h r)
def sTry (xs : List Xd) (m : MS) (hs : List Hdl) : MS := fun l h => match m l h with
  | .exc e l' h' => hndl xs e l' h' hs
  | o => o
inductive HdsQ (g : Gx) (X : Cx) (c : Cs) (xs : List Xd) : List ExceptHandler → List Hdl → Prop
  | nil : HdsQ g X c xs [] []
  | plain {y : Str} {dy : Xd} {ms : MS} {b₀ : Stmt} {suite : List Stmt} {np pos' : Pos} {hds : List ExceptHandler} {l : List Hdl} (hy : dy ∈ xs) (ny : dy.name = y) (gy : Gl X y) (dby : (y == ("__debug__" : Str)) = false)
      (hsu : ∀ (a : Addr) (oe : Obj) (cls : Value) (d : Option Addr) (e : Exn) (pn : List (Addr × Obj)), Zc cls d oe → (∃ vs, oe.data = .fields vs) → QSs g (X.suite a ((a, oe) :: pn)) (cSu c a cls d e) ms (b₀ :: suite)) (r : HdsQ g X c xs hds l) :
      HdsQ g X c xs (.ExceptHandler (some (.Name y np)) none (b₀ :: suite) pos' :: hds) ((y, none, ms) :: l)
  | named {y n : Str} {i : Nat} {dy : Xd} {ms : MS} {b₀ : Stmt} {suite : List Stmt} {np pos' : Pos} {hds : List ExceptHandler} {l : List Hdl} (hy : dy ∈ xs) (ny : dy.name = y) (gy : Gl X y) (dby : (y == ("__debug__" : Str)) = false)
      (hi : X.N[i]? = some n) (hln : X.env.kindOf n = some .local)
      (hsu : ∀ (a : Addr) (oe : Obj) (cls : Value) (d : Option Addr) (e : Exn) (pn : List (Addr × Obj)), Zc cls d oe → (∃ vs, oe.data = .fields vs) → QSs g (X.suite a ((a, oe) :: pn)) (cSu c a cls d e) ms (b₀ :: suite)) (r : HdsQ g X c xs hds l) :
      HdsQ g X c xs (.ExceptHandler (some (.Name y np)) (some n) (b₀ :: suite) pos' :: hds) ((y, some i, ms) :: l)
def tSu (g : Gx) (c : Cs) (ms : MS) : Addr → Value → Option Addr → TS := fun a cls d D σ H => ∃ e, rs g (cSu c a cls d e) ms D σ H
def hdV (g : Gx) (c : Cs) (l : List Hdl) : List (Value × Option Nat × (Addr → Value → Option Addr → TS)) := l.map fun p => ((match g.CA p.1 with
  | some C => Value.ref C
  | none => .none), p.2.1, tSu g c p.2.2)
theorem hdsA_of (C : CxOk g X c k) (XS : XsOk g xs) : ∀ {hds : List ExceptHandler} {l : List Hdl}, HdsQ g X c xs hds l → HdsA X hds (hdV g c l)
  | _, _, .nil => .nil
  | _, _, .plain (y := y) hy ny gy dby hsu r => by
    obtain ⟨A, T⟩ := XS.one _ hy
    have e1 : g.CA y = some A := by rw [← ny]; exact T.cC
    have e2 : X.mg y = some (.ref A) := by rw [C.hmg, ← ny]; exact T.gC
    unfold hdV
    rw [List.map_cons]
    simp only [e1]
    exact .plain ⟨gy, dby, .inl e2⟩ (fun a oe cls d pn hz hf => ⟨fun pp s σ H D I ⟨e, q⟩ => (hsu a oe cls d e pn hz hf).run pp s σ H D I q⟩) (hdsA_of C XS r)
  | _, _, .named (y := y) hy ny gy dby hi hln hsu r => by
    obtain ⟨A, T⟩ := XS.one _ hy
    have e1 : g.CA y = some A := by rw [← ny]; exact T.cC
    have e2 : X.mg y = some (.ref A) := by rw [C.hmg, ← ny]; exact T.gC
    unfold hdV
    rw [List.map_cons]
    simp only [e1]
    exact .named ⟨gy, dby, .inl e2⟩ hi hln (fun a oe cls d pn hz hf => ⟨fun pp s σ H D I ⟨e, q⟩ => (hsu a oe cls d e pn hz hf).run pp s σ H D I q⟩) (hdsA_of C XS r)
theorem hndl_ok (C : CxOk g X c k) (hcalm : c.calm = true) (XS : XsOk g xs) {D : Ends} {M : List Addr} {H : Hp} {σ : L2.St} {e : Exn} {l : Lc} {h : Hh} : ∀ {hds : List ExceptHandler} {hl : List Hdl}, HdsQ g X c xs hds hl → SPost g c D M H σ (hndl xs e l h hl) →
    ∀ M' H' σ' cv d, Ext M H M' H' → RelH g c.Z M' H' h → RL g.K c.Z M' H' σ' l → XOk g.CA g.K c.Z M' H' cv d e → wManyA X.K c.W D (hdV g c hl) cv d σ' H'
  | _, _, .nil, p => fun M' H' σ' cv d x R L q => p M' H' σ' cv d x R L q
  | _, _, .plain (y := y) (dy := dy) (ms := ms) hy ny gy dby hsu r, p => fun M' H' σ' cv d x R L q => by
    unfold hndl at p
    obtain ⟨A, T⟩ := XS.one _ hy
    have e1 : g.CA y = some A := by rw [← ny]; exact T.cC
    cases ed : findX xs e.cls with
    | none => rw [ed] at p; exact p.elim
    | some dd =>
      rw [ed] at p
      dsimp only at p
      obtain ⟨hd, hn⟩ := findX_ok ed
      obtain ⟨⟨A2, hA2, hcv⟩, hfl⟩ := id q
      have two := (XS.two dd hd dy hy A2 A (by rw [hn]; exact hA2) T.cC).1
      rw [ny] at two
      unfold hdV
      rw [List.map_cons]
      simp only [e1]
      refine ⟨dd.sup.contains y, by rw [hcv, C.hK]; exact two, fun hb a na => ?_, fun hb => ?_⟩
      · rw [if_pos hb] at p
        have zl : Zle c.Z (zSu c.Z a cv d e) := ⟨fun _ z => z, fun _ z => by rw [C.nex hcalm] at z; cases z⟩
        have q2 := q.zle zl
        have R2 : RelH g (zSu c.Z a cv d e) M' H' h := R.zle zl (fun a' cv' d' e' z => by
          cases z; exact q2) R.tk
        refine ⟨e, M', l, h, R2, L.zle zl, ?_⟩
        unfold lSu at p
        dsimp only at p
        cases eo : ms l h with
        | rt v h2 =>
          rw [eo] at p
          unfold endSu at p
          dsimp only at p
          by_cases hc : v.low h2.length = true ∧ h2.all (Cell.low h2.length) = true
          · rw [if_pos hc] at p
            exact fun M2 H2 u x2 R2 r2 => p M2 H2 u (x.trans x2) (R2.zdown hc.2 (fun a cv d e z => by rw [C.nex hcalm] at z; cases z) R2.tk) (r2.zany hc.1)
          · rw [if_neg hc] at p; exact p.elim
        | nx _ _ => rw [eo] at p; exact p.elim
        | bk _ _ => rw [eo] at p; exact p.elim
        | ct _ _ => rw [eo] at p; exact p.elim
        | exc _ _ _ => rw [eo] at p; exact p.elim
        | bad => rw [eo] at p; exact p.elim
      · rw [if_neg (by rw [hb]; exact Bool.false_ne_true)] at p
        exact hndl_ok C hcalm XS r p M' H' σ' cv d x R L q
  | _, _, .named (y := y) (i := i) (dy := dy) (ms := ms) hy ny gy dby hi hln hsu r, p => fun M' H' σ' cv d x R L q => by
    unfold hndl at p
    obtain ⟨A, T⟩ := XS.one _ hy
    have e1 : g.CA y = some A := by rw [← ny]; exact T.cC
    cases ed : findX xs e.cls with
    | none => rw [ed] at p; exact p.elim
    | some dd =>
      rw [ed] at p
      dsimp only at p
      obtain ⟨hd, hn⟩ := findX_ok ed
      obtain ⟨⟨A2, hA2, hcv⟩, hfl⟩ := id q
      have two := (XS.two dd hd dy hy A2 A (by rw [hn]; exact hA2) T.cC).1
      rw [ny] at two
      unfold hdV
      rw [List.map_cons]
      simp only [e1]
      refine ⟨dd.sup.contains y, by rw [hcv, C.hK]; exact two, fun hb a na => ?_, fun hb => ?_⟩
      · rw [if_pos hb] at p
        have zl : Zle c.Z (zSu c.Z a cv d e) := ⟨fun _ z => z, fun _ z => by rw [C.nex hcalm] at z; cases z⟩
        have q2 := q.zle zl
        have R2 : RelH g (zSu c.Z a cv d e) M' H' h := R.zle zl (fun a' cv' d' e' z => by
          cases z; exact q2) R.tk
        refine ⟨e, M', lSu l (some i) e, h, R2, (L.zle zl).set (.exo rfl), ?_⟩
        cases eo : ms (lSu l (some i) e) h with
        | rt v h2 =>
          rw [eo] at p
          unfold endSu at p
          dsimp only at p
          by_cases hc : v.low h2.length = true ∧ h2.all (Cell.low h2.length) = true
          · rw [if_pos hc] at p
            exact fun M2 H2 u x2 R2 r2 => p M2 H2 u (x.trans x2) (R2.zdown hc.2 (fun a cv d e z => by rw [C.nex hcalm] at z; cases z) R2.tk) (r2.zany hc.1)
          · rw [if_neg hc] at p; exact p.elim
        | nx _ _ => rw [eo] at p; exact p.elim
        | bk _ _ => rw [eo] at p; exact p.elim
        | ct _ _ => rw [eo] at p; exact p.elim
        | exc _ _ _ => rw [eo] at p; exact p.elim
        | bad => rw [eo] at p; exact p.elim
      · rw [if_neg (by rw [hb]; exact Bool.false_ne_true)] at p
        exact hndl_ok C hcalm XS r p M' H' σ' cv d x R L q
theorem qs_try (C : CxOk g X c k) (hcalm : c.calm = true) (hs : X.stack = X.env :: X.outer) (hf : X.env.frame = some X.env.locals) (XS : XsOk g xs) {m : MS} {body : List Stmt} {h0 : ExceptHandler} {hds : List ExceptHandler} {l0 : Hdl} {hl : List Hdl} {pos : Pos}
    (hb : ∀ (W : WX) (pn : List (Addr × Obj)) (xe : Value → Shared → Prop), Takes (X.tr pn xe) W → PassesOwn (model X.prog X.w) X.A X.env xe → QSs g (X.tr pn xe) { c with W := W } m body)
    (hh : HdsQ g X c xs (h0 :: hds) (l0 :: hl)) : QS g X c (sTry xs m (l0 :: hl)) (.Try body (h0 :: hds) [] [] pos) := by
  refine PS.imp (ps_try_manyA (tb := fun W => rs g { c with W := W } m) hs hf (by rw [C.hN]; exact C.nd) C.tk hb (hdsA_of C XS hh)) fun D σ H q => ?_
  obtain ⟨M, l, h, R, L, p⟩ := q
  refine ⟨M, l, h, R, L, ?_⟩
  unfold sTry at p
  cases e : m l h with
  | exc e' l' h' =>
    rw [e] at p
    exact fun M' H' σ' cv d x R' L' q => hndl_ok C hcalm XS hh p M' H' σ' cv d x R' L' q
  | nx _ _ => rw [e] at p; exact p
  | rt _ _ => rw [e] at p; exact p
  | bk _ _ => rw [e] at p; exact p
  | ct _ _ => rw [e] at p; exact p
  | bad => rw [e] at p; exact p.elim
end
end WW
/-! 14c: lambdas handed to a def. -/
namespace WW
open PySem PySem.Spec PyProof.Rows L2
/-! ### the lambda's own context -/
/-- parameters (plain), captured names, names of the module -/
structure LmS (N : List Str) (sc scope : Scope) (ps : List Str) : Prop where
  kind : scope.kind = .function
  co : scope.isCoroutine = false
  gen : scope.isGenerator = false
  nocell : ∀ y ∈ scope.names, y.2 ≠ .cell
  own : ∀ y ∈ scope.names, y.2 = .local → y.1 ∈ ps
  par : ∀ x ∈ ps, scope.names.lookup x = some .local
  apart : ∀ x ∈ ps, x ∉ N
  nd : ps.Nodup
  free : ∀ y ∈ scope.names, y.2 = .free → sc.names.lookup y.1 = some .cell ∨ sc.names.lookup y.1 = some .free
def lmSB (N : List Str) (sc scope : Scope) (ps : List Str) : Bool :=
  decide (scope.kind = .function) && !scope.isCoroutine && !scope.isGenerator && (ps.all fun x => decide (scope.names.lookup x = some .local) && !N.contains x) && decide ps.Nodup &&
    scope.names.all fun y => !decide (y.2 = .cell) && (!decide (y.2 = .local) || ps.contains y.1) && (!decide (y.2 = .free) || decide (sc.names.lookup y.1 = some .cell) || decide (sc.names.lookup y.1 = some .free))
theorem lmS_by {N : List Str} {sc scope : Scope} {ps : List Str} (h : lmSB N sc scope ps = true) : LmS N sc scope ps := by
  unfold lmSB at h
  simp only [Bool.and_eq_true, Bool.or_eq_true, Bool.not_eq_true', decide_eq_true_eq, decide_eq_false_iff_not, List.all_eq_true] at h
  obtain ⟨⟨⟨⟨⟨h1, h2⟩, h3⟩, h4⟩, h5⟩, h6⟩ := h
  refine ⟨h1, h2, h3, fun y hy => (h6 y hy).1.1, fun y hy e => ?_, fun x hx => (h4 x hx).1, fun x hx q => ?_, h5, fun y hy e => ?_⟩
  · rcases (h6 y hy).1.2 with z | z
    · exact absurd e z
    · simpa using z
  · have := (h4 x hx).2
    rw [List.contains_iff_mem.mpr q] at this
    cases this
  · rcases (h6 y hy).2 with (z | z) | z
    · exact absurd e z
    · exact .inl z
    · exact .inr z
theorem LmS.reach {X : Cx} {N : List Str} {scope : Scope} {ps : List Str} (L : LmS N X.env.scope scope ps) (ok : X.Ok) : ∀ y ∈ scope.names, y.2 = .free → ∃ c, X.env.cells.lookup y.1 = some c := fun y hy e =>
  ok.has _ (L.free y hy e)
def lmCx (X : Cx) (A : Around) (outer : List PySem.Env) (s : Shared) (H : Hp) (E : XK) (scope : Scope) (ps : List Str) (f c' : Addr) : Cx := { LamX.lamCx X A outer s H E scope f c' with N := X.N ++ ps }
theorem zip_rev_lookup {ps : List Str} {us : List Value} {j : Nat} {y : Str} {u : Value} (nd : ps.Nodup) (h1 : ps[j]? = some y) (h2 : us[j]? = some u) : (ps.zip us).reverse.lookup y = some u := by
  have key : ∀ (l : List (Str × Value)), (l.map (·.1)).Nodup → (y, u) ∈ l → l.lookup y = some u := by
    intro l
    induction l with
    | nil => intro _ h; cases h
    | cons p l ih =>
      intro nd h
      obtain ⟨a, b⟩ := p
      rw [List.map_cons, List.nodup_cons] at nd
      rcases List.mem_cons.mp h with q | q
      · cases q; simp [List.lookup]
      · have ne : y ≠ a := fun z => nd.1 (by rw [← z]; exact List.mem_map.mpr ⟨_, q, rfl⟩)
        have : (y == a) = false := by simpa using ne
        simp only [List.lookup, this]
        exact ih nd.2 q
  refine key _ ?_ ?_
  · rw [List.map_reverse]
    refine (List.Perm.nodup_iff (List.reverse_perm _)).mpr (nd.sublist ?_)
    have : ∀ (a : List Str) (b : List Value), ((a.zip b).map (·.1)).Sublist a := by
      intro a
      induction a with
      | nil => intro b; exact List.Sublist.refl _
      | cons x a ih =>
        intro b
        cases b with
        | nil => exact List.nil_sublist _
        | cons z b => exact (ih b).cons₂ x
    exact this _ _
  · rw [List.mem_reverse]
    refine List.mem_of_getElem? (i := j) ?_
    rw [List.getElem?_zip_eq_some]
    exact ⟨h1, h2⟩
section
variable {X : Cx} {pins : List (Addr × Obj)} {σ : L2.St} {H HZ : Hp} {s s1 : Shared}
theorem lm_start {A : Around} {outer : List PySem.Env} {E : XK} {scope : Scope} {ps : List Str} {f c' : Addr} {hq : Heap} {tq : Nat} {us : List Value} {vs : List V} (I : Inv X pins σ H s) (L : LmS X.N X.env.scope scope ps) (env0 : Env0 X.prog X.w X.K X.mg X.base A outer s1 HZ) (noh : A.handled = none)
    (un : Un (frs X.stack) [] H HZ s.heap s1.heap) (rv : Vals vs us) (hl : vs.length = ps.length) (ns : hq.Ns s1.heap.objs.size fun y => (ps.zip us).reverse.lookup y) (keep : ∀ b o, s1.heap.get? b = some o → hq.get? b = some o) :
    Inv (lmCx X A outer s1 HZ E scope ps f c') [] (σ ++ vs.map some) HZ { s1 with heap := hq, toks := tq } := by
  have reach := L.reach I.ok
  have old : ∀ {y c}, (cloFrom X.env.cells scope.names []).lookup y = some c → X.env.cells.lookup y = some c := fun {y c} e => by
    rcases cloFrom_mem (PySem.mem_of_lookup e) with hm | ⟨h1, h2⟩
    · cases hm
    · obtain ⟨c1, hc⟩ := reach _ h1 rfl
      have hc : X.env.cells.lookup y = some c1 := hc
      have e2 : c = c1 := by
        rw [h2, hc] <;> rfl
      rw [e2]; exact hc
  have there : ∀ {y}, scope.names.lookup y = some .free → ∃ c, (cloFrom X.env.cells scope.names []).lookup y = some c := fun {y} hl =>
    mem_lookup (cloFrom_has (cells := X.env.cells) (acc := []) (show (y, NameKind.free) ∈ scope.names from PySem.mem_of_lookup hl))
  have still : ∀ {c : Addr} {v : Option Value}, H c = none → s.heap.IsCell c v → hq.IsCell c v := fun {c v} n ⟨o, ho, hd⟩ =>
    let ⟨sl, q⟩ := un.any ho n (by simp)
    ⟨_, keep _ _ q, hd⟩
  have noA : ∀ b : Addr, b ∉ (lmCx X A outer s1 HZ E scope ps f c').ex := fun b z => absurd (show b ∈ ([] : List Addr) from z) (by simp)
  have hlN : σ.length = X.N.length := I.len
  refine ⟨⟨env0.mod, L.kind, rfl, rfl, Nat.le_refl _, fun y z c e1 e2 => I.ok.inj y z c (old e1) (old e2), fun y hy => ?_, fun y c z _ => ?_, fun _ => noh, Around.frames_deeper env0.frames, .inr ⟨rfl, rfl⟩, fun b z => absurd z (noA b), env0.bs, env0.bsz, fun b _ _ => noA b,
      fun b z => absurd z (noA b), env0.funs, env0.frf⟩,
    rfl, env0.bare, Un.kept keep, ⟨_, ns, fun i y v e1 e2 e3 => ?_⟩, fun y c e => ?_, env0.hok.fresh (Nat.le_refl _), fun y c e => ?_, fun q hq => absurd (show q ∈ ([] : List (Addr × Obj)) ++ [] from hq) (by simp), env0.hok.kept keep, ?_⟩
  · have hy : scope.names.lookup y = some .cell ∨ scope.names.lookup y = some .free := hy
    rcases hy with hy | hy
    · exact absurd rfl (L.nocell _ (PySem.mem_of_lookup hy))
    · exact there hy
  · have z : false = true := z
    cases z
  · have e1 : (X.N ++ ps)[i]? = some y := e1
    have e3 : Vis scope y := e3
    by_cases hi : i < X.N.length
    · rw [List.getElem?_append_left hi] at e1
      rw [List.getElem?_append_left (by rw [hlN]; exact hi)] at e2
      rcases e3 with k | k | k
      · exact absurd (List.mem_of_getElem? e1) (L.apart _ (L.own _ (PySem.mem_of_lookup k) rfl))
      · exact absurd rfl (L.nocell _ (PySem.mem_of_lookup k))
      · obtain ⟨m, hn, hloc⟩ := I.loc
        have hvis : Vis X.env.scope y := (L.free _ (PySem.mem_of_lookup k) rfl).elim (fun k => .inr (.inl k)) (fun k => .inr (.inr k))
        obtain ⟨w', r, q⟩ := hloc i y v e1 e2 hvis
        obtain ⟨c2, h2⟩ := there k
        refine ⟨w', r, .inr ⟨.inr k, c2, h2, ?_⟩⟩
        have c1 := old h2
        rcases q with ⟨k', _⟩ | ⟨_, c3, e', z⟩
        · have k' : X.env.scope.names.lookup y = some .local := k'
          rcases L.free _ (PySem.mem_of_lookup k) rfl with k2 | k2 <;> rw [show X.env.scope.names.lookup y = _ from k2] at k' <;> cases k'
        · rw [c1] at e'
          cases e'
          exact still (I.freeC y _ c1) z
    · rw [List.getElem?_append_right (by omega)] at e1
      rw [List.getElem?_append_right (by omega), hlN, List.getElem?_map] at e2
      cases ev : vs[i - X.N.length]? with
      | none => rw [ev] at e2; cases e2
      | some v' =>
        rw [ev] at e2
        cases e2
        obtain ⟨u, hu, ru⟩ := rv.get ev
        exact ⟨u, ru, .inl ⟨L.par _ (List.mem_of_getElem? e1), zip_rev_lookup L.nd e1 hu⟩⟩
  · obtain ⟨w', z⟩ := I.cell y c (old e)
    exact ⟨w', still (I.freeC y c (old e)) z⟩
  · obtain ⟨v, o, ho, hd⟩ := I.cell y c (old e)
    exact un.free c o ho (I.freeC y c (old e)) (by simp)
  · show (σ ++ vs.map some).length = (X.N ++ ps).length
    rw [List.length_append, List.length_append, List.length_map, hlN, hl]
end
/-! ### the arguments, the lambda last -/
theorem star_app {es : List Expr} {l : Expr} {env : PySem.Env} (h : es.all (fun e => !isStar e) = true) : starEach (es ++ [l]) env = starEach es env ++ starEach [l] env := by
  induction es with
  | nil => rfl
  | cons e es ih =>
    obtain ⟨h1, h2⟩ := Bool.and_eq_true_iff.mp (show (!isStar e && es.all fun e => !isStar e) = true from h)
    have h1 : isStar e = false := by simpa using h1
    rw [List.cons_append, star_of h1, star_of h1, ih h2, List.cons_append]
theorem plain_of {es : List Expr} {env : PySem.Env} {pos : Pos} (h : es.all (fun e => !isStar e) = true) : (backTo pos (starEach es env)).all (fun x => !x.1) = true := by
  induction es with
  | nil => rfl
  | cons e es ih =>
    obtain ⟨h1, h2⟩ := Bool.and_eq_true_iff.mp (show (!isStar e && es.all fun e => !isStar e) = true from h)
    have h1 : isStar e = false := by simpa using h1
    rw [star_of h1]
    exact ih h2
theorem back_app {pos : Pos} {a b : List (Bool × Sem Value)} : backTo pos (a ++ b) = backTo pos a ++ backTo pos b := by
  unfold backTo
  rw [List.map_append]
def lowsOk (ds : List D) (h : Hh) : Bool := D.lows h.length ds && h.all (Cell.low h.length)
def mAll : List (ME D) → ME (List D)
  | [] => mNil
  | m :: ms => mCons m (mAll ms)
inductive QEs (g : Gx) (X : Cx) (c : Cs) : List (ME D) → List Expr → Prop
  | nil : QEs g X c [] []
  | cons {m : ME D} {e : Expr} {ms : List (ME D)} {es : List Expr} : QE g X c m e → QEs g X c ms es → QEs g X c (m :: ms) (e :: es)
/-- what stands ahead of the last argument, then that -/
theorem spl_last {g : Gx} {X : Cx} {c : Cs} {pins : List (Addr × Obj)} {σ : L2.St} {pos : Pos} {y : Sem Value} : ∀ {ms : List (ME D)} {es : List Expr}, QEs g X c ms es → es.all (fun e => !isStar e) = true → ∀ {s : Shared} {H : Hp} {Q1 : List V → Hp → Prop} {Goal : List Value → Shared → Prop}, Inv X pins σ H s →
    rd g c (rDs g c) (mAll ms) σ H Q1 → (∀ s1 H1 vs us, Inv X pins σ H1 s1 → Vals vs us → Q1 vs H1 → wpAny (model X.prog X.w) X.A y (fun u s2 => Goal (us ++ [u]) s2) X.xe s1) →
    wpAny (model X.prog X.w) X.A (spliced (backTo pos (starEach es X.env) ++ [(false, y)])) Goal X.xe s
  | _, _, .nil, _, s, H, Q1, Goal, I, q, k => by
    obtain ⟨M, l, h, R, L, p⟩ := q
    show wpAny _ _ (spliced ((false, y) :: [])) _ _ _
    exact Calls.spliced_cons (wpAny_mono (k s H [] [] I .nil (p.ok R .nil)) (fun u s2 z => Calls.spliced_nil z) fun _ _ x => x)
  | _, _, .cons (m := m) (e := e) (ms := ms) (es := es) he hr, hs, s, H, Q1, Goal, I, q, k => by
    obtain ⟨h1, h2⟩ := Bool.and_eq_true_iff.mp (show (!isStar e && es.all fun e => !isStar e) = true from hs)
    have h1 : isStar e = false := by simpa using h1
    obtain ⟨M, l, h, R, L, p⟩ := q
    rw [star_of h1]
    show wpAny _ _ (spliced ((false, eval e X.env) :: (backTo pos (starEach es X.env) ++ [(false, y)]))) _ _ s
    refine Calls.spliced_cons (thn (he.run pins s σ H (fun v H1 => rd g c (rDs g c) (mAll ms) σ H1 fun vs H2 => Q1 (v :: vs) H2) I ?_) fun u s1 ⟨x, H1, I1, r1, q1⟩ => ?_)
    · refine rd_bind R L p fun M1 H1 h1 x a e1 R1 L1 r1 p1 => ?_
      refine rd_bind R1 L1 p1 fun M2 H2 h2 y b e2 R2 L2 r2 p2 => ?_
      exact p2.ok R2 (.cons (r1.mono e2) r2)
    · exact spl_last hr h2 I1 q1 fun s2 H2 vs us I2 rv q2 => k s2 H2 (x :: vs) (u :: us) I2 (.cons r1 rv) q2
/-- a(e, ..), a the lambda that was handed over -/
def mAct (i : Nat) (tk : List D → Hh → Out D) (ms : ME (List D)) : ME D := fun l h => match l[i]? with
  | some (some .thk) => mBind ms (fun ds _ h1 => if lowsOk ds h1 = true then tk ds h1 else .bad) l h
  | _ => .bad
/-- what the lambda does -/
def lamD (n : Nat) (l : Lc) (mb : ME D) : List D → Hh → Out D := fun ds h => if ds.length = n then mb (l ++ ds.map some) h else .bad
def cLm (c : Cs) (scope : Scope) (ps : List Str) (E : XK) : Cs := ⟨c.N ++ ps, scope, true, Spx.nil, fun cls d _ H => E cls d H⟩
abbrev zLm (f : Addr) (M0 : List Addr) (H0 : Hp) : Spx := ⟨some (f, M0, H0), none⟩
def ActOk (g : Gx) (P : Program) (w : World) (K : PySem.W.Frag) (mg : Str → Option Value) (bh : Heap) (m : Nat) (A : Around) (outer : List PySem.Env) (s : Shared) (H : Hp) (f : Addr) (M0 : List Addr) (tk : List D → Hh → Out D) : Prop :=
  ∀ (Ng : List Str) (qg : Str) (sg : Scope) (fg : Addr) (cdg : Value) (Eg : XK) (pn : List (Addr × Obj)) (xe : Value → Shared → Prop) (c : Cs) (i : Nat) (a : Str) (p1 p2 : Pos) (es : List Expr) (ms : List (ME D)),
    CxOk g ((cxOf (L2.CX P w) P w K mg bh Ng qg sg fg cdg A outer s H Eg).tr pn xe) c (m + 1) → c.calm = true → c.Z = zLm f M0 H → c.N[i]? = some a → Vis c.sc a → (a == ("__debug__" : Str)) = false → (a == ("__classdict__" : Str)) = false →
    QEs g ((cxOf (L2.CX P w) P w K mg bh Ng qg sg fg cdg A outer s H Eg).tr pn xe) c ms es → es.all (fun e => !isStar e) = true →
    QE g ((cxOf (L2.CX P w) P w K mg bh Ng qg sg fg cdg A outer s H Eg).tr pn xe) c (mAct i tk (mAll ms)) (.Call (.Name a p1) es [] p2)
structure LamAt (X : Cx) (s : Shared) (H : Hp) (params : Arguments) (body : Expr) (scope : Scope) (f c' : Addr) : Prop where
  obj : ∃ pm ctv, s.heap.get? f = some (PySem.W.kla_obj "<lambda>" (X.env.qual ++ "<lambda>") params body scope (cloFrom X.env.cells scope.names []) pm c' ctv)
  new : H f = none
  nofr : f ∉ frs X.stack
  code : H c' = some (LamX.CodeO c' (X.env.qual ++ "<lambda>"))
theorem qa_of {g : Gx} {X : Cx} {c : Cs} : ∀ {ms : List (ME D)} {es : List Expr}, QEs g X c ms es → es.all (fun e => !isStar e) = true → QA g X c (mAll ms) es
  | _, _, .nil, _ => qa_nil
  | _, _, .cons (e := e) (es := es) h r, hs => by
    obtain ⟨h1, h2⟩ := Bool.and_eq_true_iff.mp (show (!isStar e && es.all fun e => !isStar e) = true from hs)
    exact qa_cons h (qa_of r h2) (star_of (by simpa using h1))
theorem noStar {es : List Expr} {pos : Pos} {env : PySem.Env} (h : es.all (fun e => !isStar e) = true) : (backTo pos (starEach es env)).any (·.1) = false := by
  have := plain_of (env := env) (pos := pos) h
  cases e : (backTo pos (starEach es env)).any (·.1) with
  | false => rfl
  | true =>
    obtain ⟨x, hx, q⟩ := List.any_eq_true.mp e
    have := List.all_eq_true.mp this x hx
    rw [q] at this; cases this
theorem RL.app {K : PySem.W.Frag} {Z : Spx} {M : List Addr} {H : Hp} {σ : L2.St} {l : Lc} {vs : List V} {ds : List D} (L : RL K Z M H σ l) (r : RDs K Z M H vs ds) : RL K Z M H (σ ++ vs.map some) (l ++ ds.map some) := by
  refine ⟨by rw [List.length_append, List.length_append, List.length_map, List.length_map, L.len, r.length], fun i d e => ?_⟩
  by_cases hi : i < l.length
  · rw [List.getElem?_append_left hi] at e
    obtain ⟨v, h1, h2⟩ := L.at_ i d e
    exact ⟨v, by rw [List.getElem?_append_left (by rw [L.len]; exact hi)]; exact h1, h2⟩
  · rw [List.getElem?_append_right (by omega), List.getElem?_map] at e
    cases ed : ds[i - l.length]? with
    | none => rw [ed] at e; cases e
    | some x =>
      rw [ed] at e
      cases e
      obtain ⟨v, h1, h2⟩ := r.get ed
      exact ⟨v, by rw [List.getElem?_append_right (by rw [L.len]; omega), L.len, List.getElem?_map, h1]; rfl, h2⟩
section
variable {g : Gx} {X : Cx} {pins : List (Addr × Obj)} {σ : L2.St} {H : Hp} {s : Shared} {m : Nat}
theorem act_of {A : Around} {outer : List PySem.Env} (hK : X.K = g.K) (hsk : X.stack = outer) (I : Inv X pins σ H s) {params : Arguments} {body : Expr} {scope : Scope} {ps : List Str} {f c' : Addr} (L : LmS X.N X.env.scope scope ps) (T : LamAt X s H params body scope f c')
    {M0 : List Addr} {h0 : Hh} {l0 : Lc} (R0 : RelH g Spx.nil M0 H h0) (RL0 : RL g.K Spx.nil M0 H σ l0) {c0 : Cs} {mb : ME D}
    (hbind : ∀ (cl : List (Str × Addr)) (pm cv ctv : Value) (us : List Value), us.length = ps.length → bindArgs (PySem.W.kla_fn "<lambda>" (X.env.qual ++ "<lambda>") params body scope cl pm cv ctv) ⟨us, []⟩ = pure (ps.zip us))
    (hbody : ∀ (A : Around) (outer : List PySem.Env) (s2 : Shared) (H2 : Hp) (E : XK), Room m (A.deeper (LamX.lamEnv X scope s2.heap.objs.size f c')) → (A.deeper (LamX.lamEnv X scope s2.heap.objs.size f c')).guards = some [] → (A.deeper (LamX.lamEnv X scope s2.heap.objs.size f c')).units + 80 < cLine →
      QE g (lmCx X A outer s2 H2 E scope ps f c') (cLm c0 scope ps E) mb body) :
    ActOk g X.prog X.w X.K X.mg X.base m A outer s H f M0 (lamD ps.length l0 mb) := by
  intro Ng qg sg fg cdg Eg pn xe c i a p1 p2 es ms C hcalm hz hi hv hdb hcd ha hes
  refine ⟨fun pinsZ sZ σZ HZ Q IZ q => ?_⟩
  obtain ⟨M, l, hh, R, RLc, p⟩ := q
  unfold mAct at p
  have hslot : σZ[i]? = some (some (.ref f)) ∧ Post g c.Z c.W (rD g c) M HZ σZ (mBind (mAll ms) (fun ds _ h1 => if lowsOk ds h1 = true then lamD ps.length l0 mb ds h1 else .bad) l hh) Q := by
    split at p
    · rename_i el
      obtain ⟨v, h1, h2⟩ := RLc.at_ i _ el
      cases h2 with
      | thk z =>
        rw [hz] at z
        cases z
        exact ⟨h1, p⟩
    · exact p.elim
  obtain ⟨hsl, p⟩ := hslot
  obtain ⟨pm, ctv, hobj⟩ := T.obj
  have gl : ∀ (us : List Value) (vs : List V) (s2 : Shared) (H2 : Hp) (M2 : List Addr) (h2 : Hh) (ds : List D), Inv ((cxOf (L2.CX X.prog X.w) X.prog X.w X.K X.mg X.base Ng qg sg fg cdg A outer s H Eg).tr pn xe) pinsZ σZ H2 s2 → Vals vs us → RelH g c.Z M2 H2 h2 → RDs g.K c.Z M2 H2 vs ds →
      Post g c.Z c.W (rD g c) M2 H2 σZ (if lowsOk ds h2 = true then lamD ps.length l0 mb ds h2 else .bad) Q → PySem.W.FnAt f s2.heap ∧ wpAny (model X.prog X.w) ((cxOf (L2.CX X.prog X.w) X.prog X.w X.K X.mg X.base Ng qg sg fg cdg A outer s H Eg).tr pn xe).A (call (.ref f) us)
        (EP ((cxOf (L2.CX X.prog X.w) X.prog X.w X.K X.mg X.base Ng qg sg fg cdg A outer s H Eg).tr pn xe) pinsZ σZ Q) ((cxOf (L2.CX X.prog X.w) X.prog X.w X.K X.mg X.base Ng qg sg fg cdg A outer s H Eg).tr pn xe).xe s2 := by
    intro us vs s2 H2 M2 h2 ds I2 rv R2 rds p2
    by_cases hlo : lowsOk ds h2 = true
    rotate_left
    · rw [if_neg hlo] at p2; exact p2.elim
    rw [if_pos hlo] at p2
    unfold lamD at p2
    by_cases hl : ds.length = ps.length
    rotate_left
    · rw [if_neg hl] at p2; exact p2.elim
    rw [if_pos hl] at p2
    obtain ⟨lo1, lo2⟩ := Bool.and_eq_true_iff.mp hlo
    have ex : Ext M0 H M2 H2 := R2.tk f M0 H (by rw [hz])
    have un : Un (frs X.stack) [] H H2 s.heap s2.heap := by rw [hsk]; exact I2.base
    have of2 := un.keep f _ hobj T.new T.nofr (by simp)
    have cM : c' ∉ M0 := fun hm => by
      obtain ⟨r, hr, e⟩ := List.mem_iff_getElem.mp hm
      have hr' : r < h0.length := by rw [← R0.len]; exact hr
      have z := R0.at_ r h0[r] c' (List.getElem?_eq_getElem hr') (by rw [List.getElem?_eq_getElem hr, e])
      cases q : h0[r] with
      | lst ds =>
        rw [q] at z
        obtain ⟨vs, z, _⟩ := z
        rw [T.code] at z
        have z := Option.some.inj z
        unfold LamX.CodeO at z
        cases z
    have hc := ex.keep _ _ T.code cM LamX.codeO_ne
    obtain ⟨⟨oc, vc, t, hoc, hdc, hvc⟩, _, _⟩ := I2.hok c' _ hc
    have hr := C.room hcalm
    refine ⟨⟨_, _, _, _, of2⟩, ?_⟩
    have rc : codeAny (model X.prog X.w) (A.deeper (envOfC qg sg s.heap.objs.size fg cdg)) (.call (.ref f) ⟨us, []⟩) (CR (L2.CX X.prog X.w) (envOfC qg sg s.heap.objs.size fg cdg :: outer) X.prog X.w H2 s2 Q (WE c.W σZ)) s2 := by
      refine PySem.W.kla_callFunE hr.depth of2 rfl L.co L.gen rfl ⟨c', oc, vc, t, rfl, hoc, hdc, hvc⟩ ?_
      rw [hbind _ _ _ _ us (by rw [← rv.length, rds.length, hl])]
      have hps : ∀ y ∈ ps.zip us, scope.names.lookup y.1 = some .local := fun ⟨n, v⟩ hy => L.par n (List.of_mem_zip hy).1
      refine wpAny_pure (wpAny_newFunctionEnv L.nocell hps (fun hq hns hsb => ⟨I2.nolimit.fresh _ hsb, ?_⟩) L.kind)
      show codeAny _ _ (.expr body (LamX.lamEnv X scope s2.heap.objs.size f c')) _ _
      have keep : ∀ b o, s2.heap.get? b = some o → hq.get? b = some o := fun b o e => hsb.extBut b o (Nat.ne_of_lt (Heap.lt_size e)) (Heap.get?_push_of_some _ e)
      have J := lm_start (f := f) (c' := c') (E := WE c.W σZ) (tq := s2.toks + (ps.zip us).length) I L I2.env0 hr.hd un rv (by rw [rds.length, hl]) hns keep
      have hr2 := hr.deeper (LamX.lamEnv X scope s2.heap.objs.size f c')
      refine PySem.W.kla_codeExpr (wpAny_mono ((hbody _ _ s2 H2 (WE c.W σZ) hr2 C.gd (by have := hr2.un; omega)).run [] _ _ H2 Q J ?_) (fun v s' hq => ?_) fun e s' hq => hq)
      · refine ⟨M2, l0 ++ ds.map some, h2, R2.zdown lo2 (fun a cv d e z => by cases z) (fun a M0 H0 z => by cases z), (RL0.mono ex).app (rds.zany lo1), ?_⟩
        have zl : Zle Spx.nil c.Z := ⟨fun _ z => (by cases z), fun _ z => (by cases z)⟩
        have tkk : ∀ {M' H'}, Ext M2 H2 M' H' → ∀ a M1 H1, c.Z.thk = some (a, M1, H1) → Ext M1 H1 M' H' := fun x a M1 H1 z => (R2.tk a M1 H1 z).trans x
        have exx : ∀ {M' : List Addr} {H' : Hp}, ∀ a cv d e, c.Z.exo = some (a, cv, d, e) → XOk g.CA g.K c.Z M' H' cv d e := fun a cv d e z => by rw [hz] at z; cases z
        generalize mb (l0 ++ ds.map some) h2 = o at p2
        cases o with
        | ok d h3 => exact fun M' H' v x R' r => p2 M' H' v x (R'.zle zl exx (tkk x)) (r.zle zl)
        | exc e h3 => exact fun M' H' cv d x R' q => p2 M' H' cv d x (R'.zle zl exx (tkk x)) (q.zle zl)
        | bad => exact p2
      · obtain ⟨w', H', J', rv', q⟩ := hq
        exact ⟨w', H', J'.os, J'.bare, J'.base, J'.hok, rv', q⟩
    refine wpAny_call (codeAny_mono rc fun r s' hq => ?_)
    cases r with
    | error e => exact passAt C.tk σZ pinsZ H2 s2 e s' I2 hq
    | ok fl =>
      cases fl with
      | ret u => exact I2.after hq
      | next => exact False.elim hq
      | brk => exact False.elim hq
      | cont => exact False.elim hq
  refine wpAny_Call_Name_kw (thn ((pe_var (pos := p1) (i := i) (by rw [C.hN]; exact hi) (by rw [C.hsc]; exact hv) hdb hcd).run pinsZ sZ σZ HZ (fun v H1 => v = .ref f ∧ H1 = HZ) IZ ⟨.ref f, hsl, rfl, rfl⟩) fun u s1 ⟨v, H1, I1, r1, q1⟩ => ?_)
  obtain ⟨ev, eH⟩ := q1
  subst ev
  rw [eH] at I1
  obtain rfl : u = Value.ref f := r1
  have fna : ∀ s3, Inv ((cxOf (L2.CX X.prog X.w) X.prog X.w X.K X.mg X.base Ng qg sg fg cdg A outer s H Eg).tr pn xe) pinsZ σZ HZ s3 → PySem.W.FnAt f s3.heap := fun s3 I3 => by
    have un : Un (frs X.stack) [] H HZ s.heap s3.heap := by rw [hsk]; exact I3.base
    exact ⟨_, _, _, _, un.keep f _ hobj T.new T.nofr (by simp)⟩
  have step := rd_bind (Q1 := fun vs H1 => ∃ M2 h2 ds, RelH g c.Z M2 H1 h2 ∧ RDs g.K c.Z M2 H1 vs ds ∧ Post g c.Z c.W (rD g c) M2 H1 σZ (if lowsOk ds h2 = true then lamD ps.length l0 mb ds h2 else .bad) Q) (R := rDs g c) R RLc p fun M1 H1 h1 x a e1 R1 L1 r1 p1 => ⟨M1, h1, a, R1, r1, p1⟩
  cases ha with
  | nil =>
    obtain ⟨M1, l1, hh1, R1, L1, p1⟩ := step
    obtain ⟨M2, h2, ds, R2, rds, p2⟩ := p1.ok R1 .nil
    exact PySem.W.callWith_F0 (fna s1 I1) (gl [] [] s1 HZ M2 h2 ds I1 .nil R2 rds p2).2
  | @cons m e ms es he hr =>
    obtain ⟨h1, h2⟩ := Bool.and_eq_true_iff.mp (show (!isStar e && es.all fun e => !isStar e) = true from hes)
    have hqa := qa_of (.cons he hr) hes
    exact PySem.W.callWith_F (fna s1 I1) (thn (hqa.run p2 pinsZ s1 σZ HZ _ I1 step) fun us s2 ⟨vs, H2, I2, rv, M2, h2, ds, R2, rds, p2⟩ => gl us vs s2 H2 M2 h2 ds I2 rv R2 rds p2) (star_of (by simpa using h1)) (noStar h2)
end
theorem RelH.extN {g : Gx} {Z : Spx} {M : List Addr} {H H' : Hp} {h : Hh} (R : RelH g Z M H h) (eN : LamX.ExtN H H') (T' : LamX.Tabs g.T H') : Ext M H M H' ∧ RelH g Z M H' h := by
  have ex : Ext M H M H' := ⟨⟨[], by simp⟩, fun a h n => absurd h n, fun a o h _ t => eN a o h t⟩
  refine ⟨ex, R.len, R.nd, fun r c a h1 h2 => ?_, T', R.tout, fun a cv d e z => (R.exo a cv d e z).mono ex, fun a M0 H0 z => (R.tk a M0 H0 z).trans ex⟩
  have q := R.at_ r c a h1 h2
  cases c with
  | lst ds =>
    obtain ⟨vs, e1, e2⟩ := q
    exact ⟨vs, eN _ _ e1 (fun ps z => by cases z), e2.mono ex⟩
def GvT (g : Gx) (P : Program) (w : World) (bh : Heap) (m : Nat) (fg : Addr) (F : (List D → Hh → Out D) → List D → Hh → Out D) : Prop :=
  ∀ (A : Around) (outer : List PySem.Env) (s : Shared) (H : Hp) (us : List Value) (vs : List V) (f : Addr) (Q : VK) (E : XK) (M0 : List Addr) (h : Hh) (ds : List D) (tk : List D → Hh → Out D),
    Room (m + 2) A → A.guards = some [] → Env0 P w g.K g.mg bh A outer s H → Vals vs us → RelH g Spx.nil M0 H h → RDs g.K Spx.nil M0 H vs ds → ActOk g P w g.K g.mg bh m A outer s H f M0 tk →
    (match F tk ds h with
      | .ok d h' => ∀ M' H' v, Ext M0 H M' H' → RelH g (zLm f M0 H) M' H' h' → RD g.K (zLm f M0 H) M' H' v d → Q v H'
      | .exc e h' => ∀ M' H' cv d, Ext M0 H M' H' → RelH g (zLm f M0 H) M' H' h' → XOk g.CA g.K (zLm f M0 H) M' H' cv d e → E cv d H'
      | .bad => False) →
    codeAny (model P w) A (.call (.ref fg) ⟨us ++ [.ref f], []⟩) (CR (L2.CX P w) outer P w H s Q E) s
/-- x(e, .., lambda ..: body) -/
def mLam (F : (List D → Hh → Out D) → List D → Hh → Out D) (n : Nat) (ms : ME (List D)) (mb : ME D) : ME D := mBind ms fun ds l h => match F (lamD n l mb) ds h with
  | .ok d h2 => if lowsOk [d] h2 = true then .ok d h2 else .bad
  | _ => .bad
/-- the def's code object has its table among those that are tracked -/
def TabAt (g : Gx) (bh : Heap) (X : Cx) : Prop := ∃ cA P, X.env.code = .ref cA ∧ LamX.TabB bh g.mg cA P ∧ (P, X.env.qual ++ "<lambda>") ∈ g.T ∧ ∀ p ∈ g.T, p.1 = P → p.2 = X.env.qual ++ "<lambda>"
/-- a call out of a def that holds a lambda -/
def mCallC (F : List D → Hh → Out D) (ms : ME (List D)) : ME D := mBind ms fun ds _ h => if lowsOk ds h = true then F ds h else .bad
theorem qe_callC {g : Gx} {X : Cx} {c : Cs} {k : Nat} (C : CxOk g X c k) (hcalm : c.calm = true) {f : Addr} {x : Str} {p pos : Pos} {e : Expr} {es : List Expr} {F : List D → Hh → Out D} {ms : ME (List D)} (hF : FnG X.prog X.w X.K X.mg X.base k f (spE g F))
    (hg : c.sc.names.lookup x = some .globalImplicit) (hm : g.mg x = some (.ref f)) (hk : PySem.W.keepIn g.K (.ref f) = true)
    (ha : QA g X c ms (e :: es)) (hdb : (x == ("__debug__" : Str)) = false) (he : starEach (e :: es) X.env = (false, eval e X.env) :: starEach es X.env) (hpl : (backTo pos (starEach es X.env)).any (·.1) = false) :
    QE g X c (mCallC F ms) (.Call (.Name x p) (e :: es) [] pos) := by
  have gl : Gl X x := by
    show X.env.scope.names.lookup x = _
    rw [C.hsc]; exact hg
  refine PE.imp (pe_g (E := fun σ => WE c.W σ) hF (C.room hcalm) C.gd gl (by rw [C.hmg]; exact hm) (by rw [C.hK]; exact hk) (fun σ => passAt C.tk σ) ha hdb he hpl) fun σ H Q q => ?_
  obtain ⟨M, l, hh, R, L, p⟩ := q
  refine rd_bind R L p fun M1 H1 h1 vs ds x1 R1 L1 rds p1 => ?_
  by_cases hlo : lowsOk ds h1 = true
  · rw [if_pos hlo] at p1
    obtain ⟨lo1, lo2⟩ := Bool.and_eq_true_iff.mp hlo
    refine ⟨M1, h1, ds, R1.zdown lo2 (fun a cv d e z => (by cases z)) (fun a M0 H0 z => (by cases z)), rds.zany lo1, ?_⟩
    have zl : Zle Spx.nil c.Z := ⟨fun _ z => (by cases z), fun _ z => (by cases z)⟩
    have tkk : ∀ {M' H'}, Ext M1 H1 M' H' → ∀ a M2 H2, c.Z.thk = some (a, M2, H2) → Ext M2 H2 M' H' := fun x a M2 H2 z => (R1.tk a M2 H2 z).trans x
    have exx : ∀ {M' : List Addr} {H' : Hp}, ∀ a cv d e, c.Z.exo = some (a, cv, d, e) → XOk g.CA g.K c.Z M' H' cv d e := fun a cv d e z => by rw [C.nex hcalm] at z; cases z
    cases eo : F ds h1 with
    | bad => rw [eo] at p1; exact p1
    | ok d h' => rw [eo] at p1; exact fun M' H' v x R' r => p1 M' H' v x (R'.zle zl exx (tkk x)) (r.zle zl)
    | exc e' h' => rw [eo] at p1; exact fun M' H' cv d x R' q => p1 M' H' cv d x (R'.zle zl exx (tkk x)) (q.zle zl)
  · rw [if_neg hlo] at p1; exact p1.elim
section
variable {g : Gx} {X : Cx} {c : Cs} {m : Nat}
theorem qe_lam (C : CxOk g X c (m + 2)) (hcalm : c.calm = true) (hz : c.Z = Spx.nil) {x : Str} {fg : Addr} {F : (List D → Hh → Out D) → List D → Hh → Out D} {ms : List (ME D)} {es : List Expr} {mb : ME D} {params : Arguments} {body : Expr} {scope : Scope} {ps : List Str} {p lpos pos : Pos}
    (hF : GvT g X.prog X.w X.base m fg F) (hg : c.sc.names.lookup x = some .globalImplicit) (hm : g.mg x = some (.ref fg)) (hk : PySem.W.keepIn g.K (.ref fg) = true) (hdb : (x == ("__debug__" : Str)) = false)
    (ha : QEs g X c ms es) (hes : es.all (fun e => !isStar e) = true) (tb : TabAt g X.base X) (L : LmS c.N c.sc scope ps) (hdef : defaultsOf params X.env = ([], []))
    (hbind : ∀ (q : Str) (cl : List (Str × Addr)) (pm cv ctv : Value) (us : List Value), us.length = ps.length → bindArgs (PySem.W.kla_fn "<lambda>" q params body scope cl pm cv ctv) ⟨us, []⟩ = pure (ps.zip us))
    (hbody : ∀ (A : Around) (outer : List PySem.Env) (s2 : Shared) (H2 : Hp) (E : XK) (f c' : Addr), Room m (A.deeper (LamX.lamEnv X scope s2.heap.objs.size f c')) → (A.deeper (LamX.lamEnv X scope s2.heap.objs.size f c')).guards = some [] → (A.deeper (LamX.lamEnv X scope s2.heap.objs.size f c')).units + 80 < cLine →
      QE g (lmCx X A outer s2 H2 E scope ps f c') (cLm c scope ps E) mb body) :
    QE g X c (mLam F ps.length (mAll ms) mb) (.Call (.Name x p) (es ++ [.Lambda params body scope lpos]) [] pos) := by
  refine ⟨fun pins s σ H Q I q => ?_⟩
  obtain ⟨M, l, hh, R, RLc, p⟩ := q
  have gl : Gl X x := by
    show X.env.scope.names.lookup x = _
    rw [C.hsc]; exact hg
  obtain ⟨cA, P, hcode, TB, hmT, hu⟩ := tb
  have hK := C.hK
  have hmg := C.hmg
  have LX : LmS X.N X.env.scope scope ps := by rw [C.hN, C.hsc]; exact L
  have core : wpAny (model X.prog X.w) X.A (spliced (backTo pos (starEach (es ++ [.Lambda params body scope lpos]) X.env))) (fun vs s1 => X.K.In s1.heap ∧ wpAny (model X.prog X.w) X.A (call (.ref fg) vs) (EP X pins σ Q) X.xe s1) X.xe s := by
    rw [star_app hes, back_app]
    show wpAny _ _ (spliced (backTo pos (starEach es X.env) ++ [(false, eval (.Lambda params body scope lpos) X.env)])) _ _ _
    refine spl_last ha hes I (rd_bind (Q1 := fun vs H1 => ∃ M1 h1 ds, RelH g c.Z M1 H1 h1 ∧ RL g.K c.Z M1 H1 σ l ∧ RDs g.K c.Z M1 H1 vs ds ∧ Post g c.Z c.W (rD g c) M1 H1 σ (match F (lamD ps.length l mb) ds h1 with
      | .ok d h2 => if lowsOk [d] h2 = true then .ok d h2 else .bad
      | _ => .bad) Q) R RLc p fun M1 H1 h1 x a e1 R1 L1 r1 p1 => ⟨M1, h1, a, R1, L1, r1, p1⟩) fun s1 H1 vs us I1 rv ⟨M1, h1, ds, R1, L1, rds, p1⟩ => ?_
    refine LamX.lam_make2 I1 (by rw [hmg]; exact TB) hcode hmT hu R1.tabs hdef (LX.reach I1.ok) fun f c' pm ctv H2 s2 I2 eN T2 hf hfn hfr hco => ?_
    rw [hz] at R1 L1 rds
    obtain ⟨ex, R2⟩ := R1.extN eN T2
    refine ⟨I2.kIn, ?_⟩
    have act := act_of (A := X.A) (m := m) (c0 := c) hK rfl I2 LX ⟨⟨pm, ctv, hf⟩, hfn, hfr, hco⟩ R2 (L1.mono ex) (mb := mb) (fun cl pm cv ctv us => hbind _ cl pm cv ctv us) (fun A outer s2 H2 E => hbody A outer s2 H2 E f c')
    have e0 := I2.env0
    rw [hK, hmg] at act e0
    have hrun := hF X.A X.stack s2 H2 us vs f Q (WE c.W σ) M1 h1 ds (lamD ps.length l mb) (C.room hcalm) C.gd e0 rv R2 (rds.mono ex) act ?_
    · refine wpAny_call (codeAny_mono hrun fun r s' hq => ?_)
      cases r with
      | error e => exact passAt C.tk σ pins H2 s2 e s' I2 hq
      | ok fl =>
        cases fl with
        | ret u => exact I2.after hq
        | next => exact False.elim hq
        | brk => exact False.elim hq
        | cont => exact False.elim hq
    · rw [hz] at p1
      cases eo : F (lamD ps.length l mb) ds h1 with
      | bad => rw [eo] at p1; exact p1
      | exc e h' => rw [eo] at p1; exact p1.elim
      | ok d h' =>
        rw [eo] at p1
        dsimp only at p1
        by_cases hlo : lowsOk [d] h' = true
        · rw [if_pos hlo] at p1
          obtain ⟨lo1, lo2⟩ := Bool.and_eq_true_iff.mp hlo
          have lo1 : d.low h'.length = true := by
            unfold D.lows at lo1
            exact (Bool.and_eq_true_iff.mp lo1).1
          intro M' H' v x R' r
          refine p1 M' H' v (ex.trans x) (R'.zdown lo2 (fun a cv d e z => (by cases z)) fun a M0 H0 z => (by cases z)) ?_
          show RD g.K c.Z M' H' v d
          rw [hz]
          exact r.zany lo1
        · rw [if_neg hlo] at p1; exact p1.elim
  refine wpAny_Call_Name_kw (ld_glob I gl (by rw [hmg]; exact hm) ?_ hdb)
  cases es with
  | nil => exact PySem.W.callWith_K (h₀ := X.base) I.ok.mod.kin (by rw [hK]; exact hk) core (by rfl) (by rfl)
  | cons e es =>
    obtain ⟨h1, h2⟩ := Bool.and_eq_true_iff.mp (show (!isStar e && es.all fun e => !isStar e) = true from hes)
    refine PySem.W.callWith_K (h₀ := X.base) I.ok.mod.kin (by rw [hK]; exact hk) core (star_of (by simpa using h1)) (noStar ?_)
    show ((es ++ [Expr.Lambda params body scope lpos]).all fun e => !isStar e) = true
    rw [List.all_append, h2]
    rfl
end
end WW
set_option maxHeartbeats 4000000
/-! 19: the evaluator: the text, read as what it does. -/
namespace WW
open PySem PySem.Spec PyProof.Rows L2
/-- what the module's names stand for -/
structure Gt where
  free : List Str
  nums : List (Str × Int)
  defs : List Str
  call : Str → List D → Hh → Out D
  callL : Str → List D → Hh → Out D
  callT : Str → (List D → Hh → Out D) → List D → Hh → Out D
  xs : List Xd
  deep : Bool
/-- where in the text one stands -/
structure Ec where
  N : List Str
  sc : Scope
  top : Bool
  calm : Bool
  keep : Bool
  mu : List Str
  act : Option (Nat × (List D → Hh → Out D)) := none
  thk : Bool := false
  lam : Bool := false
  tb : Bool := false
def slotAux (x : Str) : List Str → Nat → Option Nat
  | [], _ => none
  | y :: r, i => if y == x then some i else slotAux x r (i + 1)
def slot (N : List Str) (x : Str) : Option Nat := slotAux x N 0
theorem slotAux_ok {x : Str} : ∀ {N : List Str} {k i : Nat}, slotAux x N k = some i → k ≤ i ∧ N[i - k]? = some x
  | [], _, _, h => by cases h
  | y :: r, k, i, h => by
    unfold slotAux at h
    split at h
    · rename_i e
      cases h
      rw [eq_of_beq e]
      exact ⟨Nat.le_refl _, by simp⟩
    · obtain ⟨h1, h2⟩ := slotAux_ok h
      refine ⟨by omega, ?_⟩
      have : i - k = (i - (k + 1)) + 1 := by omega
      rw [this, List.getElem?_cons_succ]
      exact h2
theorem slot_ok {N : List Str} {x : Str} {i : Nat} (h : slot N x = some i) : N[i]? = some x := by
  have := (slotAux_ok h).2
  simpa using this
structure Ev where
  e : Ec → Expr → ME D
  a : Ec → List Expr → ME (List D)
  t : Ec → Expr → ME Bool
  w : Ec → BoolOp → List Expr → ME Bool
  o : Ec → Option Expr → ME (Option Int)
  l : Ec → Expr → ME (List D)
  i : Ec → Expr → Expr → ME DIt
  g : Ec → Expr → MG
  gs : Ec → List Expr → MGs
  gw : Ec → List Nat → Expr → MG
  gsw : Ec → List Nat → List Expr → MGs
  s : Ec → Stmt → MS
  ss : Ec → List Stmt → MS
def sBad : MS := fun _ _ => .bad
def gBad : MG := fun _ _ _ => .bad
def gsBad : MGs := fun _ _ _ => .bad
def Ev.bad : Ev := ⟨fun _ _ => mBad, fun _ _ => mBad, fun _ _ => mBad, fun _ _ _ => mBad, fun _ _ => mBad, fun _ _ => mBad, fun _ _ _ => mBad, fun _ _ => gBad, fun _ _ => gsBad, fun _ _ _ => gBad, fun _ _ _ => gsBad, fun _ _ => sBad, fun _ _ => sBad⟩
/-- is it a name of the module or a built-in -/
def isGl (q : Ec) (x : Str) : Bool := decide (q.sc.names.lookup x = some .globalImplicit) && !(x == ("__debug__" : Str)) && !(x == ("__name__" : Str))
def isFree (G : Gt) (q : Ec) (x : Str) : Bool := isGl q x && G.free.contains x
def isVis (q : Ec) (x : Str) : Bool := (decide (q.sc.names.lookup x = some .local) || decide (q.sc.names.lookup x = some .cell) || decide (q.sc.names.lookup x = some .free)) && !(x == ("__debug__" : Str)) && !(x == ("__classdict__" : Str))
def isLoc (q : Ec) (x : Str) : Bool := decide (q.sc.names.lookup x = some .local) || (q.top && decide (q.sc.names.lookup x = some .cell))
def ownOf (N : List Str) (scope : Scope) : List (Str × Nat) := scope.names.filterMap fun p => if p.2 == .local || p.2 == .cell then (slot N p.1).map fun i => (p.1, i) else none
def Ec.blk (q : Ec) (scope : Scope) : Ec := { q with sc := relS scope q.sc, top := false, act := none, tb := false }
/-- in a lambda's body -/
def Ec.lamC (q : Ec) (scope : Scope) (ps : List Str) : Ec := ⟨q.N ++ ps, scope, false, true, false, [], none, false, true, false⟩
/-- in an except clause's suite -/
def Ec.suite (q : Ec) : Ec := { q with calm := false, act := none, tb := false }
def splitLam : List Expr → Option (List Expr × Arguments × Expr × Scope × Pos)
  | [] => none
  | [.Lambda ps b sc p] => some ([], ps, b, sc, p)
  | e :: es => match splitLam es with
    | some (l, r) => some (e :: l, r)
    | none => none
def lamPs : Arguments → Option (List Str)
  | ⟨[], [], none, [], [], none, []⟩ => some []
  | ⟨[], [⟨a, none, _⟩], none, [], [], none, []⟩ => if a = ("value" : Str) then some ["value"] else none
  | _ => none
/-- built-in exception classes that are asked of -/
def excBp : List (Str × String) := [("ValueError", "ValueError"), ("KeyError", "KeyError"), ("IndexError", "IndexError"), ("LookupError", "LookupError"), ("OverflowError", "OverflowError"), ("ArithmeticError", "ArithmeticError"), ("RuntimeError", "RuntimeError")]
def excBs : List Str := excBp.map (·.1)
/-- a block that may be gone through -/
def blkB (q : Ec) (scope : Scope) (iter : Expr) : Bool := q.calm && blkC q.N q.sc scope (ownOf q.N scope) && !isSet iter
def evName (G : Gt) (q : Ec) (x : Str) : ME D :=
  if isVis q x = true then (match slot q.N x with
    | some i => mVar i
    | none => mBad)
  else if isGl q x = true then (match G.nums.lookup x with
    | some i => mC (.int i)
    | none => mBad)
  else mBad
def evConst : Const → ME D
  | .none => mC .non
  | .bool b => mC (.bl b)
  | .int i => mC (.int i)
  | .str x => mC (.str x)
  | _ => mBad
def mDic0 : ME D := mC (.dic [])
/-- a built-in function of one argument -/
def bi1 (q : Ec) (x : Str) : Option (List D → Option D) :=
  if x == ("len" : Str) then some fLen
  else if x == ("tuple" : Str) then some fTup
  else if x == ("int" : Str) then some fInt
  else if x == ("abs" : Str) then some fAbs
  else if x == ("str" : Str) then some fStr
  else if x == ("repr" : Str) then some fRepr
  else if q.calm = true then
    if x == ("all" : Str) then some fAll
    else if x == ("any" : Str) then some fAny
    else if x == ("sum" : Str) then some fSum
    else none
  else none
def bi2 (q : Ec) (x : Str) : Option (List D → Option D) :=
  if q.calm = true then
    if x == ("max" : Str) then some fMax
    else if x == ("min" : Str) then some fMin
    else none
  else none
def kindOfS (x : Str) : Option String :=
  if x == ("int" : Str) then some "int" else if x == ("bool" : Str) then some "bool" else if x == ("str" : Str) then some "str" else if x == ("tuple" : Str) then some "tuple"
  else if x == ("list" : Str) then some "list" else if x == ("dict" : Str) then some "dict" else none
def evDef (G : Gt) (q : Ec) (x : Str) (es : List Expr) (ms : ME (List D)) : ME D := if q.calm = true then (if q.lam = true then (if q.thk = true then mBad else mCall (G.callL x) ms)
    else if q.thk = true then (if es.all (fun e => !isStar e) = true then mCallC (G.call x) ms else mBad) else mCall (G.call x) ms) else mBad
def evLam (G : Gt) (v : Ev) (q : Ec) (x : Str) (es : List Expr) (params : Arguments) (body : Expr) (scope : Scope) : ME D :=
  if G.deep = true ∧ G.defs.contains x = true ∧ q.calm = true ∧ q.tb = true ∧ q.lam = false ∧ q.thk = false ∧ es.all (fun e => !isStar e) = true then (match lamPs params with
    | some ps => if lmSB q.N q.sc scope ps = true then mLam (G.callT x) ps.length (mAll (es.map (v.e q))) (v.e (q.lamC scope ps) body) else mBad
    | none => mBad)
  else mBad
def evAct (v : Ev) (q : Ec) (x : Str) (args : List Expr) : ME D := if isVis q x = true then (match q.act with
    | some (i, tk) => if slot q.N x = some i ∧ q.calm = true ∧ args.all (fun e => !isStar e) = true then mAct i tk (mAll (args.map (v.e q))) else mBad
    | none => mBad) else mBad
def evIsI (G : Gt) (v : Ev) (q : Ec) (e : Expr) (T : Str) : ME D := match kindOfS T with
  | some k => if isFree G q T = true then mIsT k (v.e q e) else mBad
  | none => if isGl q T = true ∧ (findX G.xs T).isSome = true then mIsX G.xs T (v.e q e)
    else if isFree G q T = true ∧ excBs.contains T = true then mIsX G.xs T (v.e q e) else mBad
/-- list(e) -/
def evList (G : Gt) (v : Ev) (q : Ec) : Expr → ME (List D)
  | .Call (.Name r rp) [a] [] p => if isFree G q r = true ∧ isStar a = false ∧ q.calm = true ∧ r = "range" then mListR (v.e q a) else mList (v.e q (.Call (.Name r rp) [a] [] p))
  | e => mList (v.e q e)
def evCall (G : Gt) (v : Ev) (q : Ec) (x : Str) (args : List Expr) : ME D :=
  if isGl q x = true then
    (match splitLam args with
    | some (es, params, body, scope, _) => evLam G v q x es params body scope
    | none => (match args with
    | e :: es =>
      if isStar e = true then mBad
      else if G.defs.contains x = true then evDef G q x es (v.a q (e :: es))
      else if G.free.contains x = true then (match es with
        | [] => (match bi1 q x with
          | some f => mBi f (v.a q [e])
          | none => if x == ("list" : Str) then mFz (evList G v q e) else mBad)
        | [e2] =>
          if isStar e2 = true then mBad
          else if x == ("isinstance" : Str) then (match e2 with
            | .Name T _ => evIsI G v q e T
            | _ => mBad)
          else (match bi2 q x with
            | some f => mBi f (v.a q [e, e2])
            | none => mBad)
        | _ => mBad)
      else mBad
    | [] => if G.defs.contains x = true ∧ q.calm = true ∧ q.thk = false ∧ q.lam = false then mCall (G.call x) mNil else mBad))
  else evAct v q x args
def evMeth (v : Ev) (q : Ec) (o : Expr) (name : Str) (args : List Expr) : ME D :=
  if isCallE o = true then mBad else (match args with
    | [] => if name == ("pop" : Str) then mMth "list" fPop (v.e q o) mNil else if name == ("upper" : Str) then mMth "str" fUpper (v.e q o) mNil else mBad
    | [e] => if isStar e = true then mBad
      else if name == ("append" : Str) then mMth "list" fApp (v.e q o) (v.a q [e])
      else if name == ("extend" : Str) then mMth "list" fExt (v.e q o) (v.a q [e])
      else if name == ("count" : Str) then mMth "list" fCount (v.e q o) (v.a q [e])
      else if name == ("index" : Str) then mMth "list" fIndex (v.e q o) (v.a q [e])
      else if name == ("join" : Str) then mMth "str" fJoin (v.e q o) (v.a q [e])
      else mBad
    | _ => mBad)
def evSub (v : Ev) (q : Ec) (a : Expr) : Expr → ME D
  | .Slice none none (some (.UnaryOp .USub (.Constant (.int 1) _ _) _)) _ => mRev (v.e q a)
  | .Slice lo hi none _ => mSl (v.e q a) (v.o q lo) (v.o q hi)
  | i => if isSlice i = true then mBad else mIx (v.e q a) (v.e q i)
/-- a comprehension of one clause, as a new list -/
def evLc (v : Ev) (q : Ec) (elt : Expr) (gens : List Comprehension) (scope : Scope) : ME Nat := match gens with
  | [⟨tg, iter, ifs, 0⟩] => if blkB q scope iter = true then
      mLc (v.i q tg iter) (v.gw (q.blk scope) ((ownOf q.N scope).map (·.2)) tg) (match ifs with
        | [] => mRet true
        | [e] => v.t (q.blk scope) e
        | _ => mBad) (v.e (q.blk scope) elt) ((ownOf q.N scope).map (·.2))
    else mBad
  | _ => mBad
def stepE (G : Gt) (v : Ev) (q : Ec) : Expr → ME D
  | .Name x _ => evName G q x
  | .Constant c _ _ => evConst c
  | .BinOp a op b _ => mBin op (v.e q a) (v.e q b)
  | .UnaryOp .USub a _ => mNeg (v.e q a)
  | .UnaryOp .Not a _ => mNotV (v.e q a)
  | .BoolOp _ [a] _ => v.e q a
  | .BoolOp .And (a :: b :: r) p => mAndV (v.e q a) (v.e q (.BoolOp .And (b :: r) p))
  | .BoolOp .Or (a :: b :: r) p => mOrV (v.e q a) (v.e q (.BoolOp .Or (b :: r) p))
  | .IfExp t a b _ => mIfE (v.t q t) (v.e q a) (v.e q b)
  | .Compare a [op] [b] _ => if behindInMarks op b = true then mBad else mCmp op (v.e q a) (v.e q b)
  | .Compare a [op, op'] [b, d] _ => if lastMarks [op, op'] [b, d] = true then mBad else mChain op op' (v.e q a) (v.e q b) (v.e q d)
  | .Tuple es _ _ => mTup (v.a q es)
  | .List es _ => mFz (mLst (v.a q es))
  | .Dict [] [] _ => mDic0
  | .Dict [some (.Constant (.int k) _ _)] [.Constant (.int i) _ _] _ => mC (.dic [(.inl k, .int i)])
  | .ListComp elt gens scope _ => mLcF (evLc v q elt gens scope)
  | .Subscript a i _ => evSub v q a i
  | .Call (.Name x _) args [] _ => evCall G v q x args
  | .Call (.Attribute o name ap) args [] cp => if (ap.endLine == cp.line) = true then evMeth v q o name args else mBad
  | .Attribute (.Name x p) f _ => mFld G.xs f (v.e q (.Name x p))
  | _ => mBad
def stepA (v : Ev) (q : Ec) : List Expr → ME (List D)
  | [] => mNil
  | e :: es => if isStar e = true then mBad else mCons (v.e q e) (v.a q es)
def stepW (v : Ev) (q : Ec) : BoolOp → List Expr → ME Bool
  | _, [a] => v.t q a
  | .And, a :: b :: r => mAndT (v.t q a) (v.w q .And (b :: r))
  | .Or, a :: b :: r => mOrT (v.t q a) (v.w q .Or (b :: r))
  | _, [] => mBad
def stepT (v : Ev) (q : Ec) : Expr → ME Bool
  | .UnaryOp .Not a _ => mNotT (v.t q a)
  | .BoolOp op es _ => v.w q op es
  | .Compare a [op] [b] _ => if behindInMarks op b = true then mBad else mBlT (mCmp op (v.e q a) (v.e q b))
  | .Compare a [op, op'] [b, d] _ => if lastMarks [op, op'] [b, d] = true then mBad else mBlT (mChain op op' (v.e q a) (v.e q b) (v.e q d))
  | e => if isTestE e = true then mBad else mTru (v.e q e)
def stepO (v : Ev) (q : Ec) : Option Expr → ME (Option Int)
  | none => mNoP
  | some e => mP (v.e q e)
def stepL (G : Gt) (v : Ev) (q : Ec) : Expr → ME (List D)
  | .List es _ => mLst (v.a q es)
  | .BinOp a .Add b _ => catL (v.e q a) (v.e q b)
  | .Call (.Name x _) [e] [] _ => if isStar e = true then mBad else if x == ("list" : Str) then (if isFree G q x = true then evList G v q e else mBad) else mBad
  | _ => mBad
/-- a list that is changed later: a cell -/
def evM (v : Ev) (q : Ec) : Expr → ME D
  | .ListComp elt gens scope _ => mLcM (evLc v q elt gens scope)
  | .List es p => mNew (v.l q (.List es p))
  | .BinOp a .Add b p => mNew (v.l q (.BinOp a .Add b p))
  | .Call (.Name x np) [e] [] p => if x == ("list" : Str) then mNew (v.l q (.Call (.Name x np) [e] [] p)) else v.e q (.Call (.Name x np) [e] [] p)
  | e => v.e q e
def stepI (G : Gt) (v : Ev) (q : Ec) (tg : Expr) : Expr → ME DIt
  | .Call (.Name x np) [a] [] p =>
    if isFree G q x = true ∧ isStar a = false ∧ x = "range" then mRange1 (v.a q [a])
    else if isFree G q x = true ∧ isStar a = false ∧ x = "enumerate" then (match tg with
      | .Tuple _ _ _ => mEnm (v.a q [a])
      | _ => mBad)
    else mIter (v.e q (.Call (.Name x np) [a] [] p))
  | .Call (.Name x np) [a, b] [] p =>
    if isFree G q x = true ∧ isStar a = false ∧ isStar b = false ∧ x = "range" then mRange2 (v.a q [a, b])
    else if isFree G q x = true ∧ isStar a = false ∧ isStar b = false ∧ x = "zip" then (match tg with
      | .Tuple _ _ _ => mZip (v.a q [a, b])
      | _ => mBad)
    else mIter (v.e q (.Call (.Name x np) [a, b] [] p))
  | .Call (.Name x np) [a, b, d] [] p =>
    if isFree G q x = true ∧ isStar a = false ∧ isStar b = false ∧ isStar d = false ∧ x = "range" then mRange3 (v.a q [a, b, d])
    else mIter (v.e q (.Call (.Name x np) [a, b, d] [] p))
  | e => mIter (v.e q e)
def stepG (v : Ev) (q : Ec) : Expr → MG
  | .Name x _ => if isLoc q x = true then (match slot q.N x with
    | some i => gNm i
    | none => gBad) else gBad
  | .Tuple ts _ _ => if (q.calm && ts.all fun t => !isStar t) = true then gSq ts.length (v.gs q ts) else gBad
  | .Subscript o i _ => if isSlice i = true then gBad else gIx (v.e q o) (v.e q i)
  | _ => gBad
def stepGs (v : Ev) (q : Ec) : List Expr → MGs
  | [] => gsNil
  | t :: ts => if isStar t = true then gsBad else gsCons (v.g q t) (v.gs q ts)
def stepGw (v : Ev) (q : Ec) (vs : List Nat) : Expr → MG
  | .Name x _ => if isLoc q x = true then (match slot q.N x with
    | some i => if i ∈ vs then gNm i else gBad
    | none => gBad) else gBad
  | .Tuple ts _ _ => if (q.calm && ts.all fun t => !isStar t) = true then gTp ts.length (v.gsw q vs ts) else gBad
  | _ => gBad
def stepGsw (v : Ev) (q : Ec) (vs : List Nat) : List Expr → MGs
  | [] => gsNil
  | t :: ts => if isStar t = true then gsBad else gsCons (v.gw q vs t) (v.gsw q vs ts)
def mkE (v : Ev) (q : Ec) (x : Str) (e : Expr) : ME D := if q.mu.contains x = true then evM v q e else v.e q e
def mkA (v : Ev) (q : Ec) : List Str → List Expr → ME (List D)
  | [], [] => mNil
  | x :: xs, e :: es => if isStar e = true then mBad else mCons (mkE v q x e) (mkA v q xs es)
  | _, _ => mBad
/-- a comprehension's list goes ahead of the let-go -/
def swLc (q : Ec) (x : Str) (py pos : Pos) (scope : Scope) : Bool := decide (q.sc.names.lookup x = some .local) && (py.line == pos.line) && !(scope.names.any fun (n, k) => n == x && (k == .local || k == .cell))
def evSet (v : Ev) (q : Ec) (x : Str) (py : Pos) (e : Expr) : MS :=
  if isLoc q x = true then (match slot q.N x with
    | some i => (match e with
      | .ListComp elt gens scope pos => if swLc q x py pos scope = true then sAsg (if q.mu.contains x = true then mLcM (evLc v q elt gens scope) else mLcF (evLc v q elt gens scope)) (gNm i)
        else if q.sc.names.lookup x = some .local then sBad else sAsg (if q.mu.contains x = true then mLcM (evLc v q elt gens scope) else mLcF (evLc v q elt gens scope)) (gNm i)
      | e => if isComp e = true then sBad else sAsg (mkE v q x e) (gNm i))
    | none => sBad)
  else sBad
def tupOk (vs : List Expr) : Bool := vs.all (foldedForSure 8) || !vs.all (constantsAlone 8)
def evPar (v : Ev) (q : Ec) : List Expr → List Expr → List Str → MS
  | [.Name x _, .Name y _], [a, b], nm => (match slot q.N x, slot q.N y with
    | some i, some j => if i ≠ j ∧ nm = [x, y] ∧ q.sc.names.lookup x = some .local ∧ q.sc.names.lookup y = some .local then sPar i j (mkA v q [x, y] [a, b]) else sBad
    | _, _ => sBad)
  | [.Name x _, .Name y _, .Name z _], [a, b, d], nm => (match slot q.N x, slot q.N y, slot q.N z with
    | some i, some j, some n => if i ≠ j ∧ i ≠ n ∧ j ≠ n ∧ nm = [x, y, z] ∧ q.sc.names.lookup x = some .local ∧ q.sc.names.lookup y = some .local ∧ q.sc.names.lookup z = some .local then sPar3 i j n (mkA v q [x, y, z] [a, b, d]) else sBad
    | _, _, _ => sBad)
  | _, _, _ => sBad
def isTupE : Expr → Bool
  | .Tuple _ _ _ => true
  | _ => false
def evHds (G : Gt) (v : Ev) (q : Ec) : List ExceptHandler → Option (List Hdl)
  | [] => some []
  | .ExceptHandler (some (.Name y _)) none (b :: suite) _ :: r => if isGl q y = true ∧ (findX G.xs y).isSome = true then (match evHds G v q r with
      | some l => some ((y, none, v.ss q.suite (b :: suite)) :: l)
      | none => none) else none
  | .ExceptHandler (some (.Name y _)) (some n) (b :: suite) _ :: r => if isGl q y = true ∧ (findX G.xs y).isSome = true ∧ q.sc.names.lookup n = some .local then (match slot q.N n with
      | some i => (match evHds G v q r with
        | some l => some ((y, some i, v.ss q.suite (b :: suite)) :: l)
        | none => none)
      | none => none) else none
  | _ => none
def evTry (G : Gt) (v : Ev) (q : Ec) (body : List Stmt) (hds : List ExceptHandler) : MS := if q.calm = true ∧ q.top = true then (match evHds G v q hds with
    | some (l0 :: hl) => sTry G.xs (v.ss q body) (l0 :: hl)
    | _ => sBad) else sBad
def evRaise (G : Gt) (v : Ev) (q : Ec) (x : Str) (e : Expr) : MS := if isGl q x = true ∧ q.calm = true ∧ isStar e = false then (match findX G.xs x with
    | some d => sRaise x d.fld (v.e q e)
    | none => sBad) else sBad
noncomputable def stepS (G : Gt) (v : Ev) (q : Ec) : Stmt → MS
  | .Pass _ => sNext
  | .Break _ => sBreak
  | .Continue _ => sCont
  | .Expr e _ => if isComp e = true then sBad else sDrop (v.e q e)
  | .Return none _ => sRetN
  | .Return (some e) _ => sRet (if q.keep = true then evM v q e else v.e q e)
  | .If t a b _ => sIf (v.t q t) (v.ss q a) (v.ss q b)
  | .Assign [.Name x py] e _ => evSet v q x py e
  | .Assign [.Tuple ts k p] (.Tuple vs _ _) _ => if (q.calm && tupOk vs) = true then (match swN q.sc ts vs with
    | some nm => evPar v q ts vs nm
    | none => sAsg (mTup (v.a q vs)) (v.g q (.Tuple ts k p))) else sBad
  | .Assign [.Tuple ts k p] e _ => if isTupE e = true then sBad else sAsg (v.e q e) (v.g q (.Tuple ts k p))
  | .Assign [.Subscript o i p] e _ => sAsg (v.e q e) (v.g q (.Subscript o i p))
  | .AugAssign (.Name x _) op e _ => if isLoc q x = true then (match slot q.N x with
    | some i => sAug i op (v.e q e)
    | none => sBad) else sBad
  | .For tg iter body [] _ => if (q.calm && !isSet iter) = true then sFor (v.i q tg iter) (v.g q tg) (v.ss q body) else sBad
  | .While t body [] _ => sWhile (v.t q t) (v.ss q body)
  | .Raise (some (.Call (.Name x _) [e] [] _)) none _ => evRaise G v q x e
  | .Try body (h0 :: hds) [] [] _ => evTry G v q body (h0 :: hds)
  | _ => sBad
def stepSs (v : Ev) (q : Ec) : List Stmt → MS
  | [] => sNext
  | [s] => v.s q s
  | s :: r => sSeq (v.s q s) (v.ss q r)
noncomputable def Ev.step (G : Gt) (v : Ev) : Ev where
  e := stepE G v
  a := stepA v
  t := stepT v
  w := stepW v
  o := stepO v
  l := stepL G v
  i := stepI G v
  g := stepG v
  gs := stepGs v
  gw := stepGw v
  gsw := stepGsw v
  s := stepS G v
  ss := stepSs v
noncomputable def ev (G : Gt) : Nat → Ev
  | 0 => Ev.bad
  | n + 1 => Ev.step G (ev G n)
end WW
/-! 20: the evaluator is right: expressions. -/
namespace WW
open PySem PySem.Spec PyProof.Rows L2
structure XX (g : Gx) (Pg : Program) (wd : World) (bh : Heap) (k : Nat) (X : Cx) (c : Cs) (q : Ec) : Prop where
  C : CxOk g X c (if q.lam = true then k - 2 else k)
  N : c.N = q.N
  sc : c.sc = q.sc
  cal : q.calm = true → c.calm = true
  fnt : q.top = true → ∀ x, X.fn x = true
  kind : X.env.scope.kind = .function
  eP : X.prog = Pg
  ew : X.w = wd
  eb : X.base = bh
  thk : q.thk = false → c.Z.thk = none
  tb : q.tb = true → TabAt g bh X
  stk : q.top = true → X.stack = X.env :: X.outer ∧ X.env.frame = some X.env.locals
  act : ∀ i tk, q.act = some (i, tk) → q.lam = false ∧ ∀ (W : WX) (pn : List (Addr × Obj)) (xe : Value → Shared → Prop) (a : Str) (p1 p2 : Pos) (es : List Expr) (ms : List (ME D)), CxOk g (X.tr pn xe) { c with W := W } k → c.calm = true → c.N[i]? = some a → Vis c.sc a → (a == ("__debug__" : Str)) = false → (a == ("__classdict__" : Str)) = false →
    QEs g (X.tr pn xe) { c with W := W } ms es → es.all (fun e => !isStar e) = true → QE g (X.tr pn xe) { c with W := W } (mAct i tk (mAll ms)) (.Call (.Name a p1) es [] p2)
structure GOk (g : Gx) (Pg : Program) (wd : World) (bh : Heap) (k : Nat) (G : Gt) : Prop where
  free : ∀ x ∈ G.free, g.mg x = none
  nums : ∀ x i, G.nums.lookup x = some i → ∃ t, g.mg x = some (.int i t)
  defs : ∀ x ∈ G.defs, ∃ f, g.mg x = some (.ref f) ∧ PySem.W.keepIn g.K (.ref f) = true ∧ FnG Pg wd g.K g.mg bh k f (spE g (G.call x))
  defsL : ∀ x ∈ G.defs, ∃ f, g.mg x = some (.ref f) ∧ PySem.W.keepIn g.K (.ref f) = true ∧ FnG Pg wd g.K g.mg bh (k - 2) f (spE g (G.callL x))
  defsT : G.deep = true → ∃ m, k = m + 2 ∧ ∀ x ∈ G.defs, ∃ f, g.mg x = some (.ref f) ∧ PySem.W.keepIn g.K (.ref f) = true ∧ GvT g Pg wd bh m f (G.callT x)
  xok : XsOk g G.xs
  xb : ∀ T ∈ excBp, ∀ d ∈ G.xs, ∀ A, g.CA d.name = some A → PySem.W.kitOne g.K (.ref A) (.type T.2) = some (d.sup.contains T.1)
structure Snd (g : Gx) (Pg : Program) (wd : World) (bh : Heap) (k : Nat) (v : Ev) : Prop where
  e : ∀ X c q x, XX g Pg wd bh k X c q → QE g X c (v.e q x) x
  a : ∀ X c q x, XX g Pg wd bh k X c q → QA g X c (v.a q x) x
  t : ∀ X c q x, XX g Pg wd bh k X c q → QT g X c (v.t q x) x
  w : ∀ X c q op es p, XX g Pg wd bh k X c q → QW g X c (v.w q op es) (.BoolOp op es p)
  o : ∀ X c q x, XX g Pg wd bh k X c q → QO g X c (v.o q x) x
  l : ∀ X c q x, XX g Pg wd bh k X c q → QL g X c (v.l q x) x
  i : ∀ X c q tg x, XX g Pg wd bh k X c q → QI g X c tg (v.i q tg x) x
  tg : ∀ X c q x, XX g Pg wd bh k X c q → QG g X c (v.g q x) x
  gs : ∀ X c q x, XX g Pg wd bh k X c q → QGs g X c (v.gs q x) x
  gw : ∀ X c q vs x, XX g Pg wd bh k X c q → QGw g X c vs (v.gw q vs x) x
  gsw : ∀ X c q vs x, XX g Pg wd bh k X c q → QGsw g X c vs (v.gsw q vs x) x
  s : ∀ X c q x, XX g Pg wd bh k X c q → QS g X c (v.s q x) x
  ss : ∀ X c q x, XX g Pg wd bh k X c q → QSs g X c (v.ss q x) x
section
variable {g : Gx} {X : Cx} {c : Cs} {k : Nat}
theorem rd_bad {β α : Type} {R : RR β α} {σ : L2.St} {H : Hp} {Q : β → Hp → Prop} (h : rd g c R mBad σ H Q) : False := by
  obtain ⟨_, _, _, _, _, p⟩ := h
  exact p
theorem rs_bad {D : Ends} {σ : L2.St} {H : Hp} (h : rs g c sBad D σ H) : False := by
  obtain ⟨_, _, _, _, _, p⟩ := h
  exact p
theorem qe_bad {e : Expr} : QE g X c mBad e := ⟨fun _ _ _ _ _ _ q => (rd_bad q).elim⟩
theorem qa_bad {e : List Expr} : QA g X c mBad e := ⟨fun _ _ _ _ _ _ _ q => (rd_bad q).elim⟩
theorem qt_bad {e : Expr} : QT g X c mBad e := ⟨fun _ _ _ _ _ _ q => (rd_bad q).elim⟩
theorem qw_bad {e : Expr} : QW g X c mBad e := ⟨fun _ _ _ _ _ _ _ q => (rd_bad q).elim⟩
theorem qo_bad {e : Option Expr} : QO g X c mBad e := ⟨fun _ _ _ _ _ _ q => (rd_bad q).elim⟩
theorem ql_bad {e : Expr} : QL g X c mBad e := ⟨fun _ _ _ _ _ _ q => (rd_bad q).elim⟩
theorem qts_bad {e : List Expr} : QTs g X c mBad e := ⟨fun _ _ _ _ _ _ q => (rd_bad q).elim⟩
theorem qi_bad {tg e : Expr} : QI g X c tg mBad e := ⟨fun _ _ _ _ _ _ q => by obtain ⟨_, _, _, _, _, p⟩ := q; exact p.elim⟩
theorem qg_bad {e : Expr} : QG g X c gBad e := ⟨fun _ _ _ _ _ _ _ _ _ q => by obtain ⟨_, _, _, _, _, _, _, p⟩ := q; exact p.elim⟩
theorem qgs_bad {e : List Expr} : QGs g X c gsBad e := ⟨fun _ _ _ _ _ _ _ _ _ q => by obtain ⟨_, _, _, _, _, _, _, p⟩ := q; exact p.elim⟩
theorem qgw_bad {vs : List Nat} {e : Expr} : QGw g X c vs gBad e := ⟨fun _ _ _ _ _ _ _ _ _ q => by obtain ⟨_, _, _, _, _, _, _, p⟩ := q; exact p.elim⟩
theorem qgsw_bad {vs : List Nat} {e : List Expr} : QGsw g X c vs gsBad e := ⟨fun _ _ _ _ _ _ _ _ _ q => by obtain ⟨_, _, _, _, _, _, _, p⟩ := q; exact p.elim⟩
theorem qs_bad {s : Stmt} : QS g X c sBad s := ⟨fun _ _ _ _ _ _ q => (rs_bad q).elim⟩
theorem qss_bad {s : List Stmt} : QSs g X c sBad s := ⟨fun _ _ _ _ _ _ q => (rs_bad q).elim⟩
theorem snd_bad {Pg : Program} {wd : World} {bh : Heap} : Snd g Pg wd bh k Ev.bad :=
  ⟨fun _ _ _ _ _ => qe_bad, fun _ _ _ _ _ => qa_bad, fun _ _ _ _ _ => qt_bad, fun _ _ _ _ _ _ _ => qw_bad, fun _ _ _ _ _ => qo_bad, fun _ _ _ _ _ => ql_bad, fun _ _ _ _ _ _ => qi_bad,
    fun _ _ _ _ _ => qg_bad, fun _ _ _ _ _ => qgs_bad, fun _ _ _ _ _ _ => qgw_bad, fun _ _ _ _ _ _ => qgsw_bad, fun _ _ _ _ _ => qs_bad, fun _ _ _ _ _ => qss_bad⟩
theorem qe_dic0 {p : Pos} : QE g X c mDic0 (.Dict [] [] p) := by
  refine PE.imp pe_dnewK fun σ H Q q => ?_
  obtain ⟨M, l, hh, R, L, p⟩ := q
  exact fun q hq => p.okx (Ext.upd hq) (R.alloc hq) (.dic upd_same (R.fresh hq) .nil)
theorem upd2 {H : Hp} {a : Addr} {o o' : HO} : upd (upd H a o) a o' = upd H a o' := by
  funext b
  by_cases hb : b = a
  · rw [hb, upd_same, upd_same]
  · rw [upd_ne hb, upd_ne hb, upd_ne hb]
theorem qe_dic1 {k0 i : Int} {j1 j2 : Nat} {p p1 p2 : Pos} : QE g X c (mC (.dic [(.inl k0, .int i)])) (.Dict [some (.Constant (.int k0) j1 p1)] [.Constant (.int i) j2 p2] p) := by
  refine PE.imp (pe_disp (pps_cons (pe_int (i := k0)) (pe_int (i := i)) pps_nil) rfl rfl (by simp) (by simp)) fun σ H Q q => ?_
  obtain ⟨M, l, hh, R, L, pp⟩ := q
  intro q hq
  refine ⟨upd_same, [(.inl k0, .int i)], rfl, by simp, ?_⟩
  rw [upd2]
  exact pp.okx (Ext.upd hq) (R.alloc hq) (.dic upd_same (R.fresh hq) (.cons (.int i) .nil))
end
section
variable {g : Gx} {Pg : Program} {wd : World} {bh : Heap} {k : Nat} {X : Cx} {c : Cs} {q : Ec} {G : Gt} {v : Ev}
theorem gl_of {x : Str} (h : isGl q x = true) : q.sc.names.lookup x = some .globalImplicit ∧ (x == ("__debug__" : Str)) = false ∧ x ≠ ("__name__" : Str) := by
  unfold isGl at h
  obtain ⟨h1, h3⟩ := Bool.and_eq_true_iff.mp h
  obtain ⟨h1, h2⟩ := Bool.and_eq_true_iff.mp h1
  refine ⟨of_decide_eq_true h1, ?_, fun e => ?_⟩
  · revert h2; generalize (x == ("__debug__" : Str)) = b; intro h2; cases b; rfl; cases h2
  · have : (x == ("__name__" : Str)) = true := beq_iff_eq.mpr e
    rw [this] at h3; cases h3
theorem free_of (O : GOk g Pg wd bh k G) {x : Str} (h : isFree G q x = true) : isGl q x = true ∧ g.mg x = none := by
  unfold isFree at h
  obtain ⟨h1, h2⟩ := Bool.and_eq_true_iff.mp h
  exact ⟨h1, O.free x (by simpa using h2)⟩
theorem vis_of {x : Str} (h : isVis q x = true) : Vis q.sc x ∧ (x == ("__debug__" : Str)) = false ∧ (x == ("__classdict__" : Str)) = false := by
  unfold isVis at h
  obtain ⟨h1, h3⟩ := Bool.and_eq_true_iff.mp h
  obtain ⟨h1, h2⟩ := Bool.and_eq_true_iff.mp h1
  refine ⟨?_, ?_, ?_⟩
  · rcases Bool.or_eq_true_iff.mp h1 with h1 | h1
    · rcases Bool.or_eq_true_iff.mp h1 with h1 | h1
      · exact .inl (of_decide_eq_true h1)
      · exact .inr (.inl (of_decide_eq_true h1))
    · exact .inr (.inr (of_decide_eq_true h1))
  · revert h2; generalize (x == ("__debug__" : Str)) = b; intro h2; cases b; rfl; cases h2
  · revert h3; generalize (x == ("__classdict__" : Str)) = b; intro h2; cases b; rfl; cases h2
theorem loc_of (A : XX g Pg wd bh k X c q) {x : Str} (h : isLoc q x = true) : Loc c.sc x ∧ (X.fn x = true ∨ c.sc.names.lookup x = some .local) := by
  unfold isLoc at h
  rw [A.sc]
  rcases Bool.or_eq_true_iff.mp h with h | h
  · exact ⟨.inl (of_decide_eq_true h), .inr (of_decide_eq_true h)⟩
  · obtain ⟨h1, h2⟩ := Bool.and_eq_true_iff.mp h
    exact ⟨.inr (of_decide_eq_true h2), .inl (A.fnt h1 x)⟩
theorem Glx (A : XX g Pg wd bh k X c q) {x : Str} (h : isGl q x = true) : Gl X x := by
  show X.env.scope.names.lookup x = _
  rw [A.C.hsc, A.sc]
  exact (gl_of h).1
theorem snd_name (O : GOk g Pg wd bh k G) (A : XX g Pg wd bh k X c q) {x : Str} {p : Pos} : QE g X c (evName G q x) (.Name x p) := by
  unfold evName
  by_cases h : isVis q x = true
  · rw [if_pos h]
    obtain ⟨h1, h2, h3⟩ := vis_of h
    cases e : slot q.N x with
    | none => exact qe_bad
    | some i => exact qe_var A.C (by rw [A.N]; exact slot_ok e) (by rw [A.sc]; exact h1) h2 h3
  · rw [if_neg h]
    by_cases h4 : isGl q x = true
    · rw [if_pos h4]
      cases e : G.nums.lookup x with
      | none => exact qe_bad
      | some i =>
        obtain ⟨t, ht⟩ := O.nums x i e
        exact qe_c (pe_glob (v := .int i) (Glx A h4) (by rw [A.C.hmg]; exact ht) ⟨t, rfl⟩ (gl_of h4).2.1) fun M H => .int i
    · rw [if_neg h4]; exact qe_bad
theorem snd_const {cc : Const} {j : Nat} {p : Pos} : QE g X c (evConst cc) (.Constant cc j p) := by
  cases cc with
  | none => exact qe_c pe_non fun _ _ => .non
  | bool b => exact qe_c pe_bl fun _ _ => .bl b
  | int i => exact qe_c pe_int fun _ _ => .int i
  | str x => exact qe_c pe_str fun _ _ => .str x
  | _ => exact qe_bad
theorem XX.blk (A : XX g Pg wd bh k X c q) (hc : c.calm = true) {scope : Scope} (hk : scope.kind = .function) (s : Shared) (H : Hp) (C0 : Addr) (cl : List (Str × Addr)) (fp : List Addr) :
    XX g Pg wd bh k (X.blk s H scope (compEnvC scope cl C0 X.env) fp) (c.blk scope) (q.blk scope) where
  C := A.C.blk hc scope s H C0 cl fp
  N := A.N
  sc := by show relS scope c.sc = relS scope q.sc; rw [A.sc]
  cal := A.cal
  fnt := fun h => by cases h
  kind := hk
  eP := A.eP
  ew := A.ew
  eb := A.eb
  thk := A.thk
  tb := fun h => by cases h
  stk := fun h => by cases h
  act := fun i tk h => by cases h
theorem starB {es : List Expr} {pos : Pos} {env : PySem.Env} (h : es.all (fun e => !isStar e) = true) : (backTo pos (starEach es env)).any (·.1) = false := by
  induction es with
  | nil => rfl
  | cons e es ih =>
    obtain ⟨h1, h2⟩ := Bool.and_eq_true_iff.mp (show (!isStar e && es.all fun e => !isStar e) = true from h)
    rw [star_of (by simpa using h1)]
    show (false || (backTo pos (starEach es env)).any (·.1)) = false
    rw [ih h2]; rfl
theorem snd_bi1 (O : GOk g Pg wd bh k G) (A : XX g Pg wd bh k X c q) (S : Snd g Pg wd bh k v) {x : Str} {e : Expr} {f : List D → Option D} {np p : Pos} (hf : isFree G q x = true) (hs : isStar e = false) (h : bi1 q x = some f) : QE g X c (mBi f (v.a q [e])) (.Call (.Name x np) [e] [] p) := by
  obtain ⟨h1, h2⟩ := free_of O hf
  obtain ⟨g1, g2, g3⟩ := gl_of h1
  have gl := Glx A h1
  have hm : X.mg x = none := by rw [A.C.hmg]; exact h2
  have ha := S.a X c q [e] A
  unfold bi1 at h
  split at h
  · rename_i hx; obtain rfl := eq_of_beq hx; cases h
    exact qe_bi (pe_callB (id := "len") (cr_len A.C.hK) gl hm (by decide +kernel) ha g3 g2 (star_of hs) (by rfl))
  split at h
  · rename_i hx; obtain rfl := eq_of_beq hx; cases h
    exact qe_bi (pe_callTy (T := "tuple") (cr_tup A.C.hK) gl hm (by decide +kernel) ha g3 g2 (star_of hs) (by rfl))
  split at h
  · rename_i hx; obtain rfl := eq_of_beq hx; cases h
    exact qe_bi (pe_callTy (T := "int") cr_int gl hm (by decide +kernel) ha g3 g2 (star_of hs) (by rfl))
  split at h
  · rename_i hx; obtain rfl := eq_of_beq hx; cases h
    exact qe_bi (pe_callB (id := "abs") cr_abs gl hm (by decide +kernel) ha g3 g2 (star_of hs) (by rfl))
  split at h
  · rename_i hx; obtain rfl := eq_of_beq hx; cases h
    exact qe_bi (pe_callTy (T := "str") cr_str gl hm (by decide +kernel) ha g3 g2 (star_of hs) (by rfl))
  split at h
  · rename_i hx; obtain rfl := eq_of_beq hx; cases h
    exact qe_bi (pe_callB (id := "repr") (cr_repr A.C.hK A.C.sys A.C.gd A.C.units) gl hm (by decide +kernel) ha g3 g2 (star_of hs) (by rfl))
  split at h
  · rename_i hc
    have hc' : X.calm = true := by rw [A.C.hcalm]; exact A.cal hc
    split at h
    · rename_i hx; obtain rfl := eq_of_beq hx; cases h
      exact qe_bi (pe_callB (id := "all") (cr_allD A.C.hK hc') gl hm (by decide +kernel) ha g3 g2 (star_of hs) (by rfl))
    split at h
    · rename_i hx; obtain rfl := eq_of_beq hx; cases h
      exact qe_bi (pe_callB (id := "any") (cr_anyD A.C.hK hc') gl hm (by decide +kernel) ha g3 g2 (star_of hs) (by rfl))
    split at h
    · rename_i hx; obtain rfl := eq_of_beq hx; cases h
      exact qe_bi (pe_callB (id := "sum") (cr_sumD A.C.hK hc') gl hm (by decide +kernel) ha g3 g2 (star_of hs) (by rfl))
    · cases h
  · cases h
theorem snd_bi2 (O : GOk g Pg wd bh k G) (A : XX g Pg wd bh k X c q) (S : Snd g Pg wd bh k v) {x : Str} {e e2 : Expr} {f : List D → Option D} {np p : Pos} (hf : isFree G q x = true) (hs : isStar e = false) (hs2 : isStar e2 = false) (h : bi2 q x = some f) :
    QE g X c (mBi f (v.a q [e, e2])) (.Call (.Name x np) [e, e2] [] p) := by
  obtain ⟨h1, h2⟩ := free_of O hf
  obtain ⟨g1, g2, g3⟩ := gl_of h1
  have gl := Glx A h1
  have hm : X.mg x = none := by rw [A.C.hmg]; exact h2
  have ha := S.a X c q [e, e2] A
  have hb : (backTo p (starEach [e2] X.env)).any (·.1) = false := starB (by simp [hs2])
  unfold bi2 at h
  split at h
  · rename_i hc
    have hc' : X.calm = true := by rw [A.C.hcalm]; exact A.cal hc
    split at h
    · rename_i hx; obtain rfl := eq_of_beq hx; cases h
      exact qe_bi (pe_callB (id := "max") (cr_max hc') gl hm (by decide +kernel) ha g3 g2 (star_of hs) hb)
    split at h
    · rename_i hx; obtain rfl := eq_of_beq hx; cases h
      exact qe_bi (pe_callB (id := "min") (cr_min hc') gl hm (by decide +kernel) ha g3 g2 (star_of hs) hb)
    · cases h
  · cases h
theorem kindS_ok {T : Str} {t : String} (h : kindOfS T = some t) : t ∈ kinds ∧ bootBuiltins T = some (.type t) := by
  unfold kindOfS at h
  repeat (first
    | (split at h
       rename_i hx
       first
         | (obtain rfl := eq_of_beq hx; cases h; exact ⟨by decide, by decide +kernel⟩)
         | skip)
    | cases h)
end
end WW
/-! 21: the evaluator is right: calls, blocks, steps. -/
namespace WW
open PySem PySem.Spec PyProof.Rows L2
section
variable {g : Gx} {Pg : Program} {wd : World} {bh : Heap} {k : Nat} {X : Cx} {c : Cs} {q : Ec} {G : Gt} {v : Ev}
theorem zn (A : XX g Pg wd bh k X c q) (hc : q.calm = true) (ht : q.thk = false) : c.Z = Spx.nil := by
  have h1 := A.thk ht
  have h2 := A.C.nex (A.cal hc)
  cases e : c.Z with
  | mk a b =>
    rw [e] at h1 h2
    have h1 : a = none := h1
    have h2 : b = none := h2
    rw [h1, h2]
theorem qe_call0 {k : Nat} (C : CxOk g X c k) (hcalm : c.calm = true) (hz : c.Z = Spx.nil) {f : Addr} {x : Str} {p pos : Pos} {F : List D → Hh → Out D} (hF : FnG X.prog X.w X.K X.mg X.base k f (spE g F))
    (hg : c.sc.names.lookup x = some .globalImplicit) (hm : g.mg x = some (.ref f)) (hk : PySem.W.keepIn g.K (.ref f) = true) (hdb : (x == ("__debug__" : Str)) = false) : QE g X c (mCall F mNil) (.Call (.Name x p) [] [] pos) := by
  have gl : Gl X x := by
    show X.env.scope.names.lookup x = _
    rw [C.hsc]; exact hg
  refine ⟨fun pins s σ H Q I q => ?_⟩
  obtain ⟨M, l, h, R, L, p⟩ := call_in hz q
  have p := p.ok R .nil
  refine wpAny_Call_Name_kw (ld_glob I gl (by rw [C.hmg]; exact hm) ?_ hdb)
  exact PySem.W.callWith_K0 I.kIn (by rw [C.hK]; exact hk) (run_g (us := []) hF (C.room hcalm) C.gd (passAt C.tk σ) I .nil p)
theorem lvl {q : Ec} {k : Nat} (C : CxOk g X c (if q.lam = true then k - 2 else k)) (h : q.lam = false) : CxOk g X c k := by
  rw [if_neg (by rw [h]; exact Bool.false_ne_true)] at C; exact C
theorem lvl2 {q : Ec} {k : Nat} (C : CxOk g X c (if q.lam = true then k - 2 else k)) (h : q.lam = true) : CxOk g X c (k - 2) := by
  rw [if_pos h] at C; exact C
theorem snd_def (O : GOk g Pg wd bh k G) (A : XX g Pg wd bh k X c q) {x : Str} {e : Expr} {es : List Expr} {ms : ME (List D)} {np p : Pos} (hg : isGl q x = true) (hs : isStar e = false) (hd : G.defs.contains x = true) (ha : QA g X c ms (e :: es)) :
    QE g X c (evDef G q x es ms) (.Call (.Name x np) (e :: es) [] p) := by
  unfold evDef
  by_cases hc : q.calm = true
  · rw [if_pos hc]
    have hcx := A.C
    by_cases hl : q.lam = true
    · rw [if_pos hl]
      have C := lvl2 hcx hl
      by_cases ht : q.thk = true
      · rw [if_pos ht]; exact qe_bad
      · rw [if_neg ht]
        have hz := zn A hc (by simpa using ht)
        obtain ⟨f, h1, h2, h3⟩ := O.defsL x (by simpa using hd)
        have h3 : FnG X.prog X.w X.K X.mg X.base (k - 2) f (spE g (G.callL x)) := by rw [A.eP, A.ew, A.eb, C.hK, C.hmg]; exact h3
        exact qe_call C (A.cal hc) hz h3 (by rw [A.sc]; exact (gl_of hg).1) h1 h2 ha (gl_of hg).2.1 (star_of hs)
    · rw [if_neg hl]
      have C := lvl hcx (by simpa using hl)
      obtain ⟨f, h1, h2, h3⟩ := O.defs x (by simpa using hd)
      have h3 : FnG X.prog X.w X.K X.mg X.base k f (spE g (G.call x)) := by rw [A.eP, A.ew, A.eb, C.hK, C.hmg]; exact h3
      by_cases ht : q.thk = true
      · rw [if_pos ht]
        split
        · rename_i hst
          exact qe_callC C (A.cal hc) h3 (by rw [A.sc]; exact (gl_of hg).1) h1 h2 ha (gl_of hg).2.1 (star_of hs) (starB hst)
        · exact qe_bad
      · rw [if_neg ht]
        exact qe_call C (A.cal hc) (zn A hc (by simpa using ht)) h3 (by rw [A.sc]; exact (gl_of hg).1) h1 h2 ha (gl_of hg).2.1 (star_of hs)
  · rw [if_neg hc]; exact qe_bad
theorem split_ok : ∀ {args : List Expr} {es : List Expr} {ps : Arguments} {b : Expr} {sc : Scope} {p : Pos}, splitLam args = some (es, ps, b, sc, p) → args = es ++ [.Lambda ps b sc p]
  | [], _, _, _, _, _, h => by cases h
  | e :: r, es, ps, b, sc, p, h => by
    unfold splitLam at h
    split at h
    · cases h
    · rename_i h0
      cases h0; cases h; rfl
    · rename_i e' es' hne h0
      cases h0
      cases er : splitLam r with
      | none => rw [er] at h; cases h
      | some z =>
        rw [er] at h
        obtain ⟨l, r1, r2, r3, r4⟩ := z
        cases h
        rw [split_ok er]; rfl
theorem qes_of (A : XX g Pg wd bh k X c q) (S : Snd g Pg wd bh k v) : ∀ es : List Expr, QEs g X c (es.map (v.e q)) es
  | [] => .nil
  | e :: es => .cons (S.e X c q e A) (qes_of A S es)
theorem lam_bind {params : Arguments} {ps : List Str} (h : lamPs params = some ps) : (∀ env : PySem.Env, defaultsOf params env = ([], [])) ∧ ∀ (body : Expr) (scope : Scope) (q : Str) (cl : List (Str × Addr)) (pm cv ctv : Value) (us : List Value), us.length = ps.length → bindArgs (PySem.W.kla_fn "<lambda>" q params body scope cl pm cv ctv) ⟨us, []⟩ = pure (ps.zip us) := by
  unfold lamPs at h
  split at h
  · cases h
    refine ⟨fun env => rfl, fun body scope q cl pm cv ctv us hl => ?_⟩
    match us, hl with
    | [], _ => rfl
  · obtain ⟨rfl, rfl⟩ := ite_some h
    refine ⟨fun env => rfl, fun body scope q cl pm cv ctv us hl => ?_⟩
    match us, hl with
    | [u], _ => rfl
  · cases h
theorem snd_lam (O : GOk g Pg wd bh k G) (A : XX g Pg wd bh k X c q) (S : Snd g Pg wd bh k v) {x : Str} {es : List Expr} {params : Arguments} {body : Expr} {scope : Scope} {lp np p : Pos} (hg : isGl q x = true) :
    QE g X c (evLam G v q x es params body scope) (.Call (.Name x np) (es ++ [.Lambda params body scope lp]) [] p) := by
  unfold evLam
  split
  · rename_i h
    obtain ⟨hdp, hd, hc, htb, hl, ht, hes⟩ := h
    split
    · rename_i ps hps
      split
      · rename_i hL
        have L := lmS_by hL
        have hz := zn A hc ht
        have C := lvl A.C hl
        obtain ⟨m, rfl, hT⟩ := O.defsT hdp
        · obtain ⟨fg, h1, h2, h3⟩ := hT x (by simpa using hd)
          obtain ⟨d1, d2⟩ := lam_bind hps
          refine qe_lam C (A.cal hc) hz (by rw [A.eP, A.ew, A.eb]; exact h3) (by rw [A.sc]; exact (gl_of hg).1) h1 h2 (gl_of hg).2.1 (qes_of A S es) hes (by rw [A.eb]; exact A.tb htb) (by rw [A.N, A.sc]; exact L) (d1 _) (d2 body scope) ?_
          intro A1 outer s2 H2 E f c' hr hgd hun
          refine S.e _ _ _ _ ⟨?_, ?_, rfl, fun _ => rfl, fun h => (by cases h), L.kind, A.eP, A.ew, A.eb, fun _ => rfl, fun h => (by cases h), fun h => (by cases h), fun i tk h => (by cases h)⟩
          · have LX : LmS X.N X.env.scope scope ps := by rw [C.hN, C.hsc, A.N, A.sc]; exact L
            refine ⟨C.hK, C.hmg, ?_, ?_, rfl, rfl, fun _ => hr, hun, hgd, C.sys, takes_of rfl rfl rfl rfl, passes_of rfl, fun _ => rfl, fun a cv d e z => (by cases z)⟩
            · show X.N ++ ps = c.N ++ ps
              rw [C.hN]
            · show (c.N ++ ps).Nodup
              rw [List.nodup_append]
              refine ⟨C.nd, L.nd, fun a ha b hb' e => ?_⟩
              subst e
              exact L.apart _ hb' (by rw [← A.N]; exact ha)
          · show c.N ++ ps = q.N ++ ps
            rw [A.N]
      · exact qe_bad
    · exact qe_bad
  · exact qe_bad
theorem snd_act (A : XX g Pg wd bh k X c q) (S : Snd g Pg wd bh k v) {x : Str} {args : List Expr} {np p : Pos} : QE g X c (evAct v q x args) (.Call (.Name x np) args [] p) := by
  unfold evAct
  split
  · rename_i hv
    split
    · rename_i i tk ha
      split
      · rename_i h
        obtain ⟨h1, h2, h3⟩ := h
        obtain ⟨hl, act⟩ := A.act i tk ha
        obtain ⟨v1, v2, v3⟩ := vis_of hv
        exact act c.W X.pn X.xe x np p args (args.map (v.e q)) (lvl A.C hl) (A.cal h2) (by rw [A.N]; exact slot_ok h1) (by rw [A.sc]; exact v1) v2 v3 (qes_of A S args) h3
      · exact qe_bad
    · exact qe_bad
  · exact qe_bad
theorem snd_isI (O : GOk g Pg wd bh k G) (A : XX g Pg wd bh k X c q) (S : Snd g Pg wd bh k v) {e : Expr} {T : Str} {np tp p : Pos} (hg : isGl q "isinstance" = true) (hm : g.mg "isinstance" = none) (hs : isStar e = false) :
    QE g X c (evIsI G v q e T) (.Call (.Name "isinstance" np) [e, .Name T tp] [] p) := by
  unfold evIsI
  split
  · rename_i t hk
    by_cases hT : isFree G q T = true
    · rw [if_pos hT]
      obtain ⟨t1, t2⟩ := kindS_ok hk
      obtain ⟨u1, u2⟩ := free_of O hT
      obtain ⟨v1, v2, v3⟩ := gl_of u1
      exact qe_isT A.C t1 t2 (by rw [A.sc]; exact v1) u2 (by rw [A.sc]; exact (gl_of hg).1) hm (S.e X c q e A) (star_of hs) v3 v2
    · rw [if_neg hT]; exact qe_bad
  · split
    · rename_i h
      obtain ⟨hgT, hx⟩ := h
      obtain ⟨d, hd⟩ := Option.isSome_iff_exists.mp hx
      obtain ⟨hd1, hn⟩ := findX_ok hd
      obtain ⟨CA, TC⟩ := O.xok.one d hd1
      refine qe_isX A.C O.xok (tv := .ref CA) (cv := .ref CA) (fun u r => r) (fun d' hd' A' hA' => ?_) (pe_glob (v := .ref CA) (Glx A hgT) (by rw [A.C.hmg, ← hn]; exact TC.gC) rfl (gl_of hgT).2.1) (by rw [A.sc]; exact (gl_of hg).1) hm (S.e X c q e A) (star_of hs)
      have := (O.xok.two d' hd' d hd1 A' CA hA' TC.cC).2
      rw [hn] at this; exact this
    · split
      · rename_i h
        obtain ⟨hT, hb⟩ := h
        obtain ⟨u1, u2⟩ := free_of O hT
        obtain ⟨v1, v2, v3⟩ := gl_of u1
        obtain ⟨pp, hp, rfl⟩ := List.mem_map.mp (show T ∈ excBp.map (·.1) by simpa [excBs] using hb)
        have hbt : bootBuiltins pp.1 = some (.type pp.2) := of_decide_eq_true (List.all_eq_true.mp (show (excBp.all fun p => decide (bootBuiltins p.1 = some (.type p.2))) = true by decide +kernel) pp hp)
        exact qe_isX A.C O.xok (tv := .ty pp.2) (cv := .type pp.2) (fun u r => r) (O.xb pp hp) (pe_bltn (v := .ty pp.2) (Glx A u1) (by rw [A.C.hmg]; exact u2) hbt rfl v3 v2) (by rw [A.sc]; exact (gl_of hg).1) hm (S.e X c q e A) (star_of hs)
      · exact qe_bad
theorem snd_list (O : GOk g Pg wd bh k G) (A : XX g Pg wd bh k X c q) (S : Snd g Pg wd bh k v) {e : Expr} {np p : Pos} (hf : isFree G q "list" = true) (hs : isStar e = false) : QL g X c (evList G v q e) (.Call (.Name "list" np) [e] [] p) := by
  obtain ⟨h1, h2⟩ := free_of O hf
  unfold evList
  split
  · split
    · rename_i h
      obtain ⟨hr, ha, hc, rfl⟩ := h
      obtain ⟨r1, r2⟩ := free_of O hr
      exact ql_rng A.C (A.cal hc) (by rw [A.sc]; exact (gl_of h1).1) h2 (by rw [A.sc]; exact (gl_of r1).1) r2 (S.e X c q _ A) ha
    · exact ql_of A.C (by rw [A.sc]; exact (gl_of h1).1) h2 (S.e X c q _ A) hs
  · exact ql_of A.C (by rw [A.sc]; exact (gl_of h1).1) h2 (S.e X c q _ A) hs
theorem snd_call (O : GOk g Pg wd bh k G) (A : XX g Pg wd bh k X c q) (S : Snd g Pg wd bh k v) {x : Str} {args : List Expr} {np p : Pos} : QE g X c (evCall G v q x args) (.Call (.Name x np) args [] p) := by
  unfold evCall
  by_cases hg : isGl q x = true
  · rw [if_pos hg]
    cases esp : splitLam args with
    | some z =>
      obtain ⟨es, ps, b, sc, lp⟩ := z
      dsimp only
      rw [split_ok esp]
      exact snd_lam O A S hg
    | none =>
    dsimp only
    cases args with
    | nil =>
      dsimp only
      split
      · rename_i h
        obtain ⟨hd, hc, ht, hl⟩ := h
        have C := lvl A.C hl
        obtain ⟨f, h1, h2, h3⟩ := O.defs x (by simpa using hd)
        have h3 : FnG X.prog X.w X.K X.mg X.base k f (spE g (G.call x)) := by rw [A.eP, A.ew, A.eb, C.hK, C.hmg]; exact h3
        exact qe_call0 C (A.cal hc) (zn A hc ht) h3 (by rw [A.sc]; exact (gl_of hg).1) h1 h2 (gl_of hg).2.1
      · exact qe_bad
    | cons e es =>
      dsimp only
      by_cases hs : isStar e = true
      · rw [if_pos hs]; exact qe_bad
      · rw [if_neg hs]
        have hs : isStar e = false := by simpa using hs
        by_cases hd : G.defs.contains x = true
        · rw [if_pos hd]
          exact snd_def O A hg hs hd (S.a X c q _ A)
        · rw [if_neg hd]
          by_cases hf : G.free.contains x = true
          · rw [if_pos hf]
            have hfr : isFree G q x = true := by unfold isFree; rw [hg, hf]; rfl
            obtain ⟨_, hm⟩ := free_of O hfr
            match es with
            | [] =>
              dsimp only
              cases hb : bi1 q x with
              | some f => exact snd_bi1 O A S hfr hs hb
              | none =>
                dsimp only
                by_cases hl : (x == ("list" : Str)) = true
                · rw [if_pos hl]
                  obtain rfl := eq_of_beq hl
                  exact qe_fz (snd_list O A S hfr hs)
                · rw [if_neg hl]; exact qe_bad
            | [e2] =>
              dsimp only
              by_cases hs2 : isStar e2 = true
              · rw [if_pos hs2]; exact qe_bad
              · rw [if_neg hs2]
                have hs2 : isStar e2 = false := by simpa using hs2
                by_cases hi : (x == ("isinstance" : Str)) = true
                · rw [if_pos hi]
                  obtain rfl := eq_of_beq hi
                  cases e2 with
                  | Name T tp => exact snd_isI O A S hg hm hs
                  | _ => exact qe_bad
                · rw [if_neg hi]
                  cases hb : bi2 q x with
                  | none => exact qe_bad
                  | some f => exact snd_bi2 O A S hfr hs hs2 hb
            | _ :: _ :: _ => exact qe_bad
          · rw [if_neg hf]; exact qe_bad
  · rw [if_neg hg]; exact snd_act A S
theorem few1 {e : Expr} {cp : Pos} {env : PySem.Env} (h : isStar e = false) : ((backTo cp (starEach [e] env)).all (fun x => !x.1) && (backToKw cp (keywordEach [] env)).all (fun x => x.1.isSome)
      && decide ([e].length + ([] : List Keyword).length + (if ([] : List Keyword).isEmpty then 0 else 1) < 30)) = true := by
  rw [star_one h]; rfl
theorem snd_meth (A : XX g Pg wd bh k X c q) (S : Snd g Pg wd bh k v) {o : Expr} {name : Str} {args : List Expr} {ap cp : Pos} (hl : (ap.endLine == cp.line) = true) : QE g X c (evMeth v q o name args) (.Call (.Attribute o name ap) args [] cp) := by
  unfold evMeth
  by_cases hc : isCallE o = true
  · rw [if_pos hc]; exact qe_bad
  · rw [if_neg hc]
    have hc : isCallE o = false := by simpa using hc
    have ho := S.e X c q o A
    match args with
    | [] =>
      dsimp only
      by_cases h1 : (name == ("pop" : Str)) = true
      · rw [if_pos h1]
        obtain rfl := eq_of_beq h1
        exact qe_mth0 A.C F.plainAttrs_list F.slot_list_pop F.type_list_pop mr_pop ho hc hl
      · rw [if_neg h1]
        by_cases h2 : (name == ("upper" : Str)) = true
        · rw [if_pos h2]
          obtain rfl := eq_of_beq h2
          exact qe_mth0 A.C F.plainAttrs_str F.slot_str_upper F.type_str_upper mr_upper ho hc hl
        · rw [if_neg h2]; exact qe_bad
    | [e] =>
      dsimp only
      by_cases hs : isStar e = true
      · rw [if_pos hs]; exact qe_bad
      · rw [if_neg hs]
        have hs : isStar e = false := by simpa using hs
        have ha := S.a X c q [e] A
        by_cases h1 : (name == ("append" : Str)) = true
        · rw [if_pos h1]; obtain rfl := eq_of_beq h1
          exact qe_mth A.C F.plainAttrs_list F.slot_list_append F.type_list_append mr_app ho ha hc hs (by rfl) (few1 hs) hl
        rw [if_neg h1]
        by_cases h1 : (name == ("extend" : Str)) = true
        · rw [if_pos h1]; obtain rfl := eq_of_beq h1
          exact qe_mth A.C F.plainAttrs_list F.slot_list_extend F.type_list_extend mr_ext ho ha hc hs (by rfl) (few1 hs) hl
        rw [if_neg h1]
        by_cases h1 : (name == ("count" : Str)) = true
        · rw [if_pos h1]; obtain rfl := eq_of_beq h1
          exact qe_mth A.C F.plainAttrs_list F.slot_list_count F.type_list_count (mr_count A.C.hK A.C.units) ho ha hc hs (by rfl) (few1 hs) hl
        rw [if_neg h1]
        by_cases h1 : (name == ("index" : Str)) = true
        · rw [if_pos h1]; obtain rfl := eq_of_beq h1
          exact qe_mth A.C F.plainAttrs_list F.slot_list_index F.type_list_index (mr_index A.C.hK A.C.units) ho ha hc hs (by rfl) (few1 hs) hl
        rw [if_neg h1]
        by_cases h1 : (name == ("join" : Str)) = true
        · rw [if_pos h1]; obtain rfl := eq_of_beq h1
          exact qe_mth A.C F.plainAttrs_str F.slot_str_join F.type_str_join (mr_join A.C.hK) ho ha hc hs (by rfl) (few1 hs) hl
        rw [if_neg h1]; exact qe_bad
    | _ :: _ :: _ => exact qe_bad
theorem snd_sub (A : XX g Pg wd bh k X c q) (S : Snd g Pg wd bh k v) {a i : Expr} {p : Pos} : QE g X c (evSub v q a i) (.Subscript a i p) := by
  unfold evSub
  split
  · exact qe_rev A.C (S.e X c q a A)
  · exact qe_sl A.C (S.e X c q a A) (S.o X c q _ A) (S.o X c q _ A)
  · split
    · exact qe_bad
    · rename_i h
      exact qe_ix A.C (S.e X c q a A) (S.e X c q i A) (plain_ix (by simpa using h))
theorem blk_of {scope : Scope} {iter : Expr} (h : blkB q scope iter = true) : q.calm = true ∧ BlkOk q.N q.sc scope (ownOf q.N scope) ∧ isSet iter = false := by
  unfold blkB at h
  obtain ⟨h1, h3⟩ := Bool.and_eq_true_iff.mp h
  obtain ⟨h1, h2⟩ := Bool.and_eq_true_iff.mp h1
  exact ⟨h1, blkOk_by h2, by simpa using h3⟩
theorem snd_ts (A : XX g Pg wd bh k X c q) (S : Snd g Pg wd bh k v) {ifs : List Expr} : QTs g X c (match ifs with
        | [] => mRet true
        | [e] => v.t q e
        | _ => mBad) ifs := by
  match ifs with
  | [] => exact qts_nil
  | [e] => exact qts_one (S.t X c q e A)
  | _ :: _ :: _ => exact qts_bad
theorem lc_bad {mi : ME Nat → Prop} : True := trivial
theorem snd_lcF (A : XX g Pg wd bh k X c q) (S : Snd g Pg wd bh k v) {elt : Expr} {gens : List Comprehension} {scope : Scope} {p : Pos} : QE g X c (mLcF (evLc v q elt gens scope)) (.ListComp elt gens scope p) := by
  unfold evLc
  split
  · rename_i tg iter ifs
    by_cases hb : blkB q scope iter = true
    · rw [if_pos hb]
      obtain ⟨hc, ok, hs⟩ := blk_of hb
      have hc' := A.cal hc
      exact qe_lcF A.C hc' (S.i X c q tg iter A) (by rw [A.N, A.sc]; exact ok) (fun s H C cl fp => S.gw _ _ _ _ _ (A.blk hc' ok.kind s H C cl fp))
        (fun s H C cl fp => snd_ts (A.blk hc' ok.kind s H C cl fp) S) (fun s H C cl fp => S.e _ _ _ _ (A.blk hc' ok.kind s H C cl fp)) hs
    · rw [if_neg hb]; exact qe_bad
  · exact qe_bad
theorem snd_lcM (A : XX g Pg wd bh k X c q) (S : Snd g Pg wd bh k v) {elt : Expr} {gens : List Comprehension} {scope : Scope} {p : Pos} : QE g X c (mLcM (evLc v q elt gens scope)) (.ListComp elt gens scope p) := by
  unfold evLc
  split
  · rename_i tg iter ifs
    by_cases hb : blkB q scope iter = true
    · rw [if_pos hb]
      obtain ⟨hc, ok, hs⟩ := blk_of hb
      have hc' := A.cal hc
      exact qe_lcM A.C hc' (S.i X c q tg iter A) (by rw [A.N, A.sc]; exact ok) (fun s H C cl fp => S.gw _ _ _ _ _ (A.blk hc' ok.kind s H C cl fp))
        (fun s H C cl fp => snd_ts (A.blk hc' ok.kind s H C cl fp) S) (fun s H C cl fp => S.e _ _ _ _ (A.blk hc' ok.kind s H C cl fp)) hs
    · rw [if_neg hb]; exact qe_bad
  · exact qe_bad
theorem snd_E (O : GOk g Pg wd bh k G) (S : Snd g Pg wd bh k v) (X : Cx) (c : Cs) (q : Ec) (x : Expr) (A : XX g Pg wd bh k X c q) : QE g X c (stepE G v q x) x := by
  unfold stepE
  split
  · exact snd_name O A
  · exact snd_const
  · exact qe_bin A.C (S.e X c q _ A) (S.e X c q _ A)
  · exact qe_neg (S.e X c q _ A)
  · exact qe_not A.C (S.e X c q _ A)
  · exact qe_one (S.e X c q _ A)
  · exact qe_and A.C (S.e X c q _ A) (S.e X c q _ A)
  · exact qe_or A.C (S.e X c q _ A) (S.e X c q _ A)
  · exact qe_if (S.t X c q _ A) (S.e X c q _ A) (S.e X c q _ A)
  · split
    · exact qe_bad
    · rename_i h
      exact qe_cmp A.C (S.e X c q _ A) (S.e X c q _ A) (by simpa using h)
  · split
    · exact qe_bad
    · rename_i h
      exact qe_chain A.C (S.e X c q _ A) (S.e X c q _ A) (S.e X c q _ A) (by simpa using h)
  · exact qe_tup (S.a X c q _ A)
  · exact qe_fz (ql_lst (S.a X c q _ A))
  · exact qe_dic0
  · exact qe_dic1
  · exact snd_lcF A S
  · exact snd_sub A S
  · exact snd_call O A S
  · split
    · rename_i h; exact snd_meth A S h
    · exact qe_bad
  · exact qe_fld A.C O.xok (S.e X c q _ A)
  · exact qe_bad
theorem snd_A (S : Snd g Pg wd bh k v) (X : Cx) (c : Cs) (q : Ec) (x : List Expr) (A : XX g Pg wd bh k X c q) : QA g X c (stepA v q x) x := by
  unfold stepA
  split
  · exact qa_nil
  · split
    · exact qa_bad
    · rename_i h
      exact qa_cons (S.e X c q _ A) (S.a X c q _ A) (star_of (by simpa using h))
theorem snd_W (S : Snd g Pg wd bh k v) (X : Cx) (c : Cs) (q : Ec) (op : BoolOp) (es : List Expr) (p : Pos) (A : XX g Pg wd bh k X c q) : QW g X c (stepW v q op es) (.BoolOp op es p) := by
  unfold stepW
  split
  · cases op with
    | And => exact qw_and1 (S.t X c q _ A)
    | Or => exact qw_or1 (S.t X c q _ A)
  · exact qw_and (S.t X c q _ A) (S.w X c q _ _ _ A)
  · exact qw_or (S.t X c q _ A) (S.w X c q _ _ _ A)
  · exact qw_bad
theorem snd_T (S : Snd g Pg wd bh k v) (X : Cx) (c : Cs) (q : Ec) (x : Expr) (A : XX g Pg wd bh k X c q) : QT g X c (stepT v q x) x := by
  unfold stepT
  split
  · exact qt_not (S.t X c q _ A)
  · exact PW.pt (S.w X c q _ _ _ A)
  · split
    · exact qt_bad
    · rename_i h
      exact qt_cmp A.C (S.e X c q _ A) (S.e X c q _ A) (by simpa using h)
  · split
    · exact qt_bad
    · rename_i h
      exact qt_chain A.C (S.e X c q _ A) (S.e X c q _ A) (S.e X c q _ A) (by simpa using h)
  · split
    · exact qt_bad
    · rename_i h
      exact qt_tru A.C (S.e X c q _ A) fun whole => isTrue_of (by simpa using h)
theorem snd_O (S : Snd g Pg wd bh k v) (X : Cx) (c : Cs) (q : Ec) (x : Option Expr) (A : XX g Pg wd bh k X c q) : QO g X c (stepO v q x) x := by
  cases x with
  | none => exact qo_none
  | some e => exact qo_some (S.e X c q e A)
theorem snd_L (O : GOk g Pg wd bh k G) (S : Snd g Pg wd bh k v) (X : Cx) (c : Cs) (q : Ec) (x : Expr) (A : XX g Pg wd bh k X c q) : QL g X c (stepL G v q x) x := by
  unfold stepL
  split
  · exact ql_lst (S.a X c q _ A)
  · exact ql_cat (S.e X c q _ A) (S.e X c q _ A)
  · split
    · exact ql_bad
    · rename_i hs
      split
      · rename_i hx
        obtain rfl := eq_of_beq hx
        split
        · rename_i hf
          exact snd_list O A S hf (by simpa using hs)
        · exact ql_bad
      · exact ql_bad
  · exact ql_bad
theorem snd_M (A : XX g Pg wd bh k X c q) (S : Snd g Pg wd bh k v) {x : Expr} : QE g X c (evM v q x) x := by
  unfold evM
  split
  · exact snd_lcM A S
  · exact qe_new (S.l X c q _ A)
  · exact qe_new (S.l X c q _ A)
  · split
    · exact qe_new (S.l X c q _ A)
    · exact S.e X c q _ A
  · exact S.e X c q _ A
theorem snd_mkE (A : XX g Pg wd bh k X c q) (S : Snd g Pg wd bh k v) {y : Str} {x : Expr} : QE g X c (mkE v q y x) x := by
  unfold mkE
  split
  · exact snd_M A S
  · exact S.e X c q _ A
theorem snd_mkA (A : XX g Pg wd bh k X c q) (S : Snd g Pg wd bh k v) : ∀ {ys : List Str} {xs : List Expr}, QA g X c (mkA v q ys xs) xs
  | [], [] => qa_nil
  | y :: ys, e :: es => by
    unfold mkA
    split
    · exact qa_bad
    · rename_i h
      exact qa_cons (snd_mkE A S) (snd_mkA A S) (star_of (by simpa using h))
  | [], _ :: _ => by unfold mkA; exact qa_bad
  | _ :: _, [] => by unfold mkA; exact qa_bad
theorem snd_I (O : GOk g Pg wd bh k G) (S : Snd g Pg wd bh k v) (X : Cx) (c : Cs) (q : Ec) (tg x : Expr) (A : XX g Pg wd bh k X c q) : QI g X c tg (stepI G v q tg x) x := by
  unfold stepI
  split
  · split
    · rename_i h
      obtain ⟨h1, h2, rfl⟩ := h
      obtain ⟨f1, f2⟩ := free_of O h1
      exact qi_range1 A.C (by rw [A.sc]; exact (gl_of f1).1) f2 (S.a X c q _ A) (star_one h2)
    · split
      · rename_i h
        obtain ⟨h1, h2, rfl⟩ := h
        obtain ⟨f1, f2⟩ := free_of O h1
        split
        · exact qi_enm A.C (by rw [A.sc]; exact (gl_of f1).1) f2 (S.a X c q _ A) (star_one h2)
        · exact qi_bad
      · exact qi_any A.C (S.e X c q _ A)
  · split
    · rename_i h
      obtain ⟨h1, h2, h3, rfl⟩ := h
      obtain ⟨f1, f2⟩ := free_of O h1
      exact qi_range2 A.C (by rw [A.sc]; exact (gl_of f1).1) f2 (S.a X c q _ A) (by rw [star_of h2, star_one h3]) (star_one h3)
    · split
      · rename_i h
        obtain ⟨h1, h2, h3, rfl⟩ := h
        obtain ⟨f1, f2⟩ := free_of O h1
        split
        · exact qi_zip A.C (by rw [A.sc]; exact (gl_of f1).1) f2 (S.a X c q _ A) (star_of h2) (starB (by simp [h3]))
        · exact qi_bad
      · exact qi_any A.C (S.e X c q _ A)
  · split
    · rename_i h
      obtain ⟨h1, h2, h3, h4, rfl⟩ := h
      obtain ⟨f1, f2⟩ := free_of O h1
      exact qi_range3 A.C (by rw [A.sc]; exact (gl_of f1).1) f2 (S.a X c q _ A) (star_of h2) (starB (by simp [h3, h4]))
    · exact qi_any A.C (S.e X c q _ A)
  · exact qi_any A.C (S.e X c q _ A)
theorem asg_len {ts : List Expr} {env : PySem.Env} (h : ts.all (fun t => !isStar t) = true) : (assignEach ts env).length = ts.length ∧ (assignEach ts env).findIdx? (·.1) = none := by
  induction ts with
  | nil => exact ⟨rfl, rfl⟩
  | cons t ts ih =>
    obtain ⟨h1, h2⟩ := Bool.and_eq_true_iff.mp (show (!isStar t && ts.all fun t => !isStar t) = true from h)
    obtain ⟨i1, i2⟩ := ih h2
    rw [asg_of (by simpa using h1)]
    refine ⟨by rw [List.length_cons, List.length_cons, i1], ?_⟩
    rw [List.findIdx?_cons]
    simp only [Bool.false_eq_true, if_false, i2]
    rfl
theorem snd_G (S : Snd g Pg wd bh k v) (X : Cx) (c : Cs) (q : Ec) (x : Expr) (A : XX g Pg wd bh k X c q) : QG g X c (stepG v q x) x := by
  unfold stepG
  split
  · split
    · rename_i h
      obtain ⟨h1, h2⟩ := loc_of A h
      split
      · rename_i i e
        exact qg_name A.C (by rw [A.N]; exact slot_ok e) h1 h2
      · exact qg_bad
    · exact qg_bad
  · split
    · rename_i h
      obtain ⟨h1, h2⟩ := Bool.and_eq_true_iff.mp h
      obtain ⟨h3, h4⟩ := asg_len (env := X.env) h2
      exact qg_seq A.C (A.cal h1) (S.gs X c q _ A) h3 h4
    · exact qg_bad
  · split
    · exact qg_bad
    · rename_i h
      exact qg_ix A.C (S.e X c q _ A) (S.e X c q _ A) (asg_sub (by simpa using h))
  · exact qg_bad
theorem snd_Gs (S : Snd g Pg wd bh k v) (X : Cx) (c : Cs) (q : Ec) (x : List Expr) (A : XX g Pg wd bh k X c q) : QGs g X c (stepGs v q x) x := by
  unfold stepGs
  split
  · exact qgs_nil
  · split
    · exact qgs_bad
    · rename_i h
      exact qgs_cons (S.tg X c q _ A) (S.gs X c q _ A) (by rw [asg_of (by simpa using h)]; rfl)
theorem snd_Gw (S : Snd g Pg wd bh k v) (X : Cx) (c : Cs) (q : Ec) (vs : List Nat) (x : Expr) (A : XX g Pg wd bh k X c q) : QGw g X c vs (stepGw v q vs x) x := by
  unfold stepGw
  split
  · split
    · rename_i h
      obtain ⟨h1, h2⟩ := loc_of A h
      split
      · rename_i i e
        split
        · rename_i hi
          exact qgw_name A.C (by rw [A.N]; exact slot_ok e) h1 h2 hi
        · exact qgw_bad
      · exact qgw_bad
    · exact qgw_bad
  · split
    · rename_i h
      obtain ⟨h1, h2⟩ := Bool.and_eq_true_iff.mp h
      obtain ⟨h3, h4⟩ := asg_len (env := X.env) h2
      exact qgw_tup A.C (A.cal h1) (S.gsw X c q vs _ A) h3 h4
    · exact qgw_bad
  · exact qgw_bad
theorem snd_Gsw (S : Snd g Pg wd bh k v) (X : Cx) (c : Cs) (q : Ec) (vs : List Nat) (x : List Expr) (A : XX g Pg wd bh k X c q) : QGsw g X c vs (stepGsw v q vs x) x := by
  unfold stepGsw
  split
  · exact qgsw_nil
  · split
    · exact qgsw_bad
    · rename_i h
      exact qgsw_cons (S.gw X c q vs _ A) (S.gsw X c q vs _ A) (by rw [asg_of (by simpa using h)]; rfl)
end
end WW
/-! 22: the evaluator is right: statements. -/
namespace WW
open PySem PySem.Spec PyProof.Rows L2
section
variable {g : Gx} {Pg : Program} {wd : World} {bh : Heap} {k : Nat} {X : Cx} {c : Cs} {q : Ec} {G : Gt} {v : Ev}
theorem sole_of {t e : Expr} {n : Nat} {env : PySem.Env} (h : isComp e = false) : swapsWithSole [t] e n env = pure false := by
  show swapsWith e (some t) n env = _
  exact swaps_none h
theorem sole_tup {ts : List Expr} {k0 : Nat} {p : Pos} {e : Expr} {n : Nat} {env : PySem.Env} : swapsWithSole [.Tuple ts k0 p] e n env = pure false := by
  show swapsWith e (some (.Tuple ts k0 p)) n env = _
  cases e <;> rfl
theorem sole_sub {o i : Expr} {p : Pos} {e : Expr} {n : Nat} {env : PySem.Env} : swapsWithSole [.Subscript o i p] e n env = pure false := by
  show swapsWith e (some (.Subscript o i p)) n env = _
  cases e <;> rfl
theorem stored_tup {ts : List Expr} {k0 : Nat} {p : Pos} {e : Expr} {env : PySem.Env} (h : isTupE e = false) : swappedStores [.Tuple ts k0 p] e env = pure none := by
  cases e <;> first | rfl | cases h
theorem stored_sub {o i : Expr} {p : Pos} {e : Expr} {env : PySem.Env} : swappedStores [.Subscript o i p] e env = pure none := by
  cases e <;> rfl
theorem sw_of' {ts vs : List Expr} {k0 k2 : Nat} {p p2 : Pos} {env : PySem.Env} (hk : env.scope.kind = .function) (hc : tupOk vs = true) : swappedStores [.Tuple ts k0 p] (.Tuple vs k2 p2) env = pure (swN env.scope ts vs) := by
  unfold tupOk at hc
  cases h : vs.all (constantsAlone 8) with
  | false => exact sw_of hk h
  | true =>
    rw [h] at hc
    have hf : vs.all (foldedForSure 8) = true := by simpa using hc
    have hb : (env.blockKind != .function) = false := by unfold Env.blockKind; rw [hk]; rfl
    have e : swappedStores [.Tuple ts k0 p] (.Tuple vs k2 p2) env = (if (!(ts.length == 2 || ts.length == 3) || vs.length != ts.length || env.blockKind != .function) = true then pure none else
        if (vs.any isStar) = true then pure none else
        if ((nms env.scope ts).length != ts.length || (nms env.scope ts).eraseDups.length != (nms env.scope ts).length) = true then pure none else
        if (vs.all (foldedForSure 8)) = true then pure none else
        if (vs.all (constantsAlone 8)) = true then (unsupported "assign.tuple-of-constant-expressions:order-of-the-stores" >>= fun (_ : Unit) => pure (some (nms env.scope ts))) else pure (some (nms env.scope ts))) := by
      rfl
    rw [e, hb, hf, Bool.or_false]
    unfold swN
    rw [hf]
    split
    · rfl
    · split
      · rfl
      · split
        · rfl
        · rfl
theorem evLc_cases (v : Ev) (q : Ec) (elt : Expr) (gens : List Comprehension) (scope : Scope) : (∃ tg iter ifs, gens = [⟨tg, iter, ifs, 0⟩] ∧ blkB q scope iter = true ∧ evLc v q elt gens scope = mLc (v.i q tg iter) (v.gw (q.blk scope) ((ownOf q.N scope).map (·.2)) tg) (match ifs with
        | [] => mRet true
        | [e] => v.t (q.blk scope) e
        | _ => mBad) (v.e (q.blk scope) elt) ((ownOf q.N scope).map (·.2))) ∨ evLc v q elt gens scope = mBad := by
  unfold evLc
  split
  · rename_i tg iter ifs
    by_cases hb : blkB q scope iter = true
    · rw [if_pos hb]; exact .inl ⟨tg, iter, ifs, rfl, hb, rfl⟩
    · rw [if_neg hb]; exact .inr rfl
  · exact .inr rfl
theorem qs_asg_bad {m : ME D} {tg : MG} {s : Stmt} (h : ∀ l h, m l h = .bad) : QS g X c (sAsg m tg) s := ⟨fun _ _ _ _ _ _ q => by
  obtain ⟨_, l, hh, _, _, p⟩ := q
  unfold sAsg sBind at p
  rw [h] at p
  exact p.elim⟩
theorem swaps_cell {elt : Expr} {gs : List Comprehension} {scope : Scope} {pos py : Pos} {y : Str} {n : Nat} {env : PySem.Env} (h : ¬ env.scope.names.lookup y = some .local) : swapsWith (.ListComp elt gs scope pos) (some (.Name y py)) n env = pure false := by
  have ky : (env.kindOf y == some .local) = false := by
    cases e : env.kindOf y == some NameKind.local with
    | false => rfl
    | true => exact absurd (beq_iff_eq.mp e) h
  unfold swapsWith
  simp only [ky, Bool.and_false, Bool.false_and]
theorem snd_set (A : XX g Pg wd bh k X c q) (S : Snd g Pg wd bh k v) {x : Str} {e : Expr} {py pos : Pos} : QS g X c (evSet v q x py e) (.Assign [.Name x py] e pos) := by
  unfold evSet
  by_cases h : isLoc q x = true
  · rw [if_pos h]
    obtain ⟨h1, h2⟩ := loc_of A h
    cases es : slot q.N x with
    | none => exact qs_bad
    | some i =>
      have hi : c.N[i]? = some x := by rw [A.N]; exact slot_ok es
      dsimp only
      split
      · rename_i elt gens scope p
        by_cases hsw : swLc q x py p scope = true
        · rw [if_pos hsw]
          unfold swLc at hsw
          obtain ⟨h3, h5⟩ := Bool.and_eq_true_iff.mp hsw
          obtain ⟨h3, h4⟩ := Bool.and_eq_true_iff.mp h3
          have h3 : c.sc.names.lookup x = some .local := by rw [A.sc]; exact of_decide_eq_true h3
          have h5 : (scope.names.any fun (n, k) => n == x && (k == .local || k == .cell)) = false := by simpa using h5
          rcases evLc_cases v q elt gens scope with ⟨tg, iter, ifs, rfl, hb, ee⟩ | ee
          · rw [ee]
            obtain ⟨hc, ok, hs⟩ := blk_of hb
            have hc' := A.cal hc
            split
            · exact qs_setLcM A.C hc' A.kind hi h3 h4 h5 (S.i X c q tg iter A) (by rw [A.N, A.sc]; exact ok) (fun s H C cl fp => S.gw _ _ _ _ _ (A.blk hc' ok.kind s H C cl fp))
                (fun s H C cl fp => snd_ts (A.blk hc' ok.kind s H C cl fp) S) (fun s H C cl fp => S.e _ _ _ _ (A.blk hc' ok.kind s H C cl fp)) hs
            · exact qs_setLcF A.C hc' A.kind hi h3 h4 h5 (S.i X c q tg iter A) (by rw [A.N, A.sc]; exact ok) (fun s H C cl fp => S.gw _ _ _ _ _ (A.blk hc' ok.kind s H C cl fp))
                (fun s H C cl fp => snd_ts (A.blk hc' ok.kind s H C cl fp) S) (fun s H C cl fp => S.e _ _ _ _ (A.blk hc' ok.kind s H C cl fp)) hs
          · rw [ee]
            split <;> exact qs_asg_bad fun l h => rfl
        · rw [if_neg hsw]
          by_cases hlo : q.sc.names.lookup x = some .local
          · rw [if_pos hlo]; exact qs_bad
          · rw [if_neg hlo]
            refine qs_set A.C hi h1 h2 ?_ (swaps_cell (by rw [A.C.hsc, A.sc]; exact hlo))
            split
            · exact snd_lcM A S
            · exact snd_lcF A S
      · split
        · exact qs_bad
        · rename_i hcp
          exact qs_set A.C hi h1 h2 (snd_mkE A S) (swaps_none (by simpa using hcp))
  · rw [if_neg h]; exact qs_bad
theorem snd_par (A : XX g Pg wd bh k X c q) (S : Snd g Pg wd bh k v) (hc : q.calm = true) {ts vs : List Expr} {nm : List Str} {k0 k2 : Nat} {p p2 pos : Pos} (hw : swappedStores [.Tuple ts k0 p] (.Tuple vs k2 p2) X.env = pure (some nm)) :
    QS g X c (evPar v q ts vs nm) (.Assign [.Tuple ts k0 p] (.Tuple vs k2 p2) pos) := by
  unfold evPar
  split
  · split
    · rename_i i j e1 e2
      split
      · rename_i h
        obtain ⟨h1, h2, h3, h4⟩ := h
        rw [h2] at hw
        exact qs_par A.C (A.cal hc) (by rw [A.N]; exact slot_ok e1) (by rw [A.N]; exact slot_ok e2) h1 (by rw [A.sc]; exact h3) (by rw [A.sc]; exact h4) (snd_mkA A S) hw sole_tup
      · exact qs_bad
    · exact qs_bad
  · split
    · rename_i i j n e1 e2 e3
      split
      · rename_i h
        obtain ⟨h1, h2, h3, h4, h5, h6, h7⟩ := h
        rw [h4] at hw
        exact qs_par3 A.C (A.cal hc) (by rw [A.N]; exact slot_ok e1) (by rw [A.N]; exact slot_ok e2) (by rw [A.N]; exact slot_ok e3) h1 h2 h3 (by rw [A.sc]; exact h5) (by rw [A.sc]; exact h6) (by rw [A.sc]; exact h7) (snd_mkA A S) hw sole_tup
      · exact qs_bad
    · exact qs_bad
  · exact qs_bad
theorem XX.su (A : XX g Pg wd bh k X c q) {a : Addr} {oe : Obj} {cls : Value} {d : Option Addr} {e : Exn} {pn : List (Addr × Obj)} (hz : Zc cls d oe) (hf : ∃ vs, oe.data = .fields vs) : XX g Pg wd bh k (X.suite a ((a, oe) :: pn)) (cSu c a cls d e) q.suite where
  C := ⟨A.C.hK, A.C.hmg, A.C.hN, A.C.nd, A.C.hsc, rfl, fun h => (by cases h), A.C.units, A.C.gd, A.C.sys, LamX.takes0, PassesOwn.never, fun h => (by cases h), fun a' cv' d' e' z => by
    cases z; exact ⟨oe, List.mem_cons_self, hz, hf⟩⟩
  N := A.N
  sc := A.sc
  cal := fun h => by cases h
  fnt := A.fnt
  kind := A.kind
  eP := A.eP
  ew := A.ew
  eb := A.eb
  thk := A.thk
  tb := fun h => by cases h
  stk := A.stk
  act := fun i tk h => by cases h
theorem XX.tr (A : XX g Pg wd bh k X c q) (hc : c.calm = true) {W : WX} {pn : List (Addr × Obj)} {xe : Value → Shared → Prop} (tk : Takes (X.tr pn xe) W) (po : PassesOwn (model X.prog X.w) X.A X.env xe) : XX g Pg wd bh k (X.tr pn xe) { c with W := W } q where
  C := ⟨A.C.hK, A.C.hmg, A.C.hN, A.C.nd, A.C.hsc, A.C.hcalm, A.C.room, A.C.units, A.C.gd, A.C.sys, tk, po, A.C.nex, fun a' cv' d' e' z => by
    have z : c.Z.exo = some (a', cv', d', e') := z
    rw [A.C.nex hc] at z; cases z⟩
  N := A.N
  sc := A.sc
  cal := A.cal
  fnt := A.fnt
  kind := A.kind
  eP := A.eP
  ew := A.ew
  eb := A.eb
  thk := A.thk
  tb := A.tb
  stk := A.stk
  act := A.act
theorem hds_of (O : GOk g Pg wd bh k G) (A : XX g Pg wd bh k X c q) (S : Snd g Pg wd bh k v) : ∀ {hds : List ExceptHandler} {l : List Hdl}, evHds G v q hds = some l → HdsQ g X c G.xs hds l := by
  intro hds
  fun_induction evHds G v q hds with
  | case1 => intro l h; cases h; exact .nil
  | case2 y p b suite pos r h1 l1 e1 ih =>
    intro l h
    cases h
    obtain ⟨hg, hx⟩ := h1
    obtain ⟨d, hd⟩ := Option.isSome_iff_exists.mp hx
    obtain ⟨hd1, hn⟩ := findX_ok hd
    exact .plain hd1 hn (Glx A hg) (gl_of hg).2.1 (fun a oe cls d e pn hz hf => S.ss _ _ _ _ (A.su hz hf)) (ih e1)
  | case3 => intro l h; cases h
  | case4 => intro l h; cases h
  | case5 y p n b suite pos r h1 i e0 l1 e1 ih =>
    intro l h
    cases h
    obtain ⟨hg, hx, hl⟩ := h1
    obtain ⟨d, hd⟩ := Option.isSome_iff_exists.mp hx
    obtain ⟨hd1, hn⟩ := findX_ok hd
    exact .named hd1 hn (Glx A hg) (gl_of hg).2.1 (by rw [A.C.hN, A.N]; exact slot_ok e0) (by show X.env.scope.names.lookup n = _; rw [A.C.hsc, A.sc]; exact hl) (fun a oe cls d e pn hz hf => S.ss _ _ _ _ (A.su hz hf)) (ih e1)
  | case6 => intro l h; cases h
  | case7 => intro l h; cases h
  | case8 => intro l h; cases h
  | case9 => intro l h; cases h
theorem snd_try (O : GOk g Pg wd bh k G) (A : XX g Pg wd bh k X c q) (S : Snd g Pg wd bh k v) {body : List Stmt} {h0 : ExceptHandler} {hds : List ExceptHandler} {p : Pos} : QS g X c (evTry G v q body (h0 :: hds)) (.Try body (h0 :: hds) [] [] p) := by
  unfold evTry
  split
  · rename_i h
    obtain ⟨hc, ht⟩ := h
    split
    · rename_i l0 hl e
      obtain ⟨s1, s2⟩ := A.stk ht
      exact qs_try A.C (A.cal hc) s1 s2 O.xok (fun W pn xe tk po => S.ss _ _ _ _ (A.tr (A.cal hc) tk po)) (hds_of O A S e)
    · exact qs_bad
  · exact qs_bad
theorem snd_raise (O : GOk g Pg wd bh k G) (A : XX g Pg wd bh k X c q) (S : Snd g Pg wd bh k v) {x : Str} {e : Expr} {np p p2 : Pos} : QS g X c (evRaise G v q x e) (.Raise (some (.Call (.Name x np) [e] [] p)) none p2) := by
  unfold evRaise
  split
  · rename_i h
    obtain ⟨hg, hc, hs⟩ := h
    split
    · rename_i d e0
      obtain ⟨hd1, hn⟩ := findX_ok e0
      obtain ⟨CA, T⟩ := O.xok.one d hd1
      subst hn
      exact qs_raise A.C (A.cal hc) T (by rw [A.sc]; exact (gl_of hg).1) (gl_of hg).2.1 (S.e X c q _ A) (star_of hs)
    · exact qs_bad
  · exact qs_bad
theorem snd_S (O : GOk g Pg wd bh k G) (S : Snd g Pg wd bh k v) (X : Cx) (c : Cs) (q : Ec) (x : Stmt) (A : XX g Pg wd bh k X c q) : QS g X c (stepS G v q x) x := by
  unfold stepS
  split
  · exact qs_pass
  · exact qs_break
  · exact qs_cont
  · split
    · exact qs_bad
    · rename_i h
      exact qs_drop (S.e X c q _ A) (swaps_none (by simpa using h))
  · exact qs_retN
  · split
    · exact qs_ret (snd_M A S)
    · exact qs_ret (S.e X c q _ A)
  · exact qs_if (S.t X c q _ A) (S.ss X c q _ A) (S.ss X c q _ A)
  · exact snd_set A S
  · split
    · rename_i h
      obtain ⟨hc, ht⟩ := Bool.and_eq_true_iff.mp h
      have hw := fun (ts vs : List Expr) (k0 k2 : Nat) (p p2 : Pos) (ht : tupOk vs = true) => sw_of' (ts := ts) (k0 := k0) (k2 := k2) (p := p) (p2 := p2) A.kind ht
      split
      · rename_i nm en
        refine snd_par A S hc ?_
        rw [hw _ _ _ _ _ _ ht, A.C.hsc, A.sc, en]
      · rename_i en
        refine qs_asg (qe_tup (S.a X c q _ A)) (S.tg X c q _ A) sole_tup ?_ (by rfl)
        rw [hw _ _ _ _ _ _ ht, A.C.hsc, A.sc, en]
    · exact qs_bad
  · split
    · exact qs_bad
    · rename_i h
      exact qs_asg (S.e X c q _ A) (S.tg X c q _ A) sole_tup (stored_tup (by simpa using h)) (by rfl)
  · exact qs_asg (S.e X c q _ A) (S.tg X c q _ A) sole_sub stored_sub (by rfl)
  · split
    · rename_i h
      obtain ⟨h1, h2⟩ := loc_of A h
      split
      · rename_i i e
        exact qs_aug A.C (by rw [A.N]; exact slot_ok e) h1 h2 (S.e X c q _ A)
      · exact qs_bad
    · exact qs_bad
  · split
    · rename_i h
      obtain ⟨hc, hs⟩ := Bool.and_eq_true_iff.mp h
      exact qs_for A.C (A.cal hc) (S.i X c q _ _ A) (S.tg X c q _ A) (S.ss X c q _ A) fun x => folded_none (by simpa using hs)
    · exact qs_bad
  · exact qs_while A.C (S.t X c q _ A) (S.ss X c q _ A)
  · exact snd_raise O A S
  · exact snd_try O A S
  · exact qs_bad
theorem snd_Ss (S : Snd g Pg wd bh k v) (X : Cx) (c : Cs) (q : Ec) (x : List Stmt) (A : XX g Pg wd bh k X c q) : QSs g X c (stepSs v q x) x := by
  unfold stepSs
  split
  · exact qss_nil
  · exact qss_one (S.s X c q _ A)
  · exact qss_cons (S.s X c q _ A) (S.ss X c q _ A)
theorem snd_step (O : GOk g Pg wd bh k G) (S : Snd g Pg wd bh k v) : Snd g Pg wd bh k (Ev.step G v) :=
  ⟨snd_E O S, snd_A S, snd_T S, snd_W S, snd_O S, snd_L O S, snd_I O S, snd_G S, snd_Gs S, snd_Gw S, snd_Gsw S, snd_S O S, snd_Ss S⟩
theorem snd_ev (O : GOk g Pg wd bh k G) : ∀ n : Nat, Snd g Pg wd bh k (ev G n)
  | 0 => snd_bad
  | n + 1 => snd_step O (snd_ev O n)
end
end WW
/-! 23: defs: from the text to what a call does. -/
namespace WW
open PySem PySem.Spec PyProof.Rows L2
structure DD where
  name : Str
  qual : Str
  params : Arguments
  body : List Stmt
  scope : Scope
  N : List Str
  P : List Str
  star : Bool
  keep : Bool
  mu : List Str
  tb : Bool
def DD.ec (d : DD) : Ec := ⟨d.N, d.scope, true, true, d.keep, d.mu, none, false, false, d.tb⟩
/-- a def whose last parameter is a lambda -/
def DD.ecT (d : DD) (tk : List D → Hh → Out D) : Ec := ⟨d.N, d.scope, true, true, false, d.mu, some (d.P.length - 1, tk), true, false, false⟩
def startD (N : List Str) (ds : List D) : Lc := ds.map some ++ List.replicate (N.length - ds.length) none
def outD : SOut → Out D
  | .nx _ h => .ok .non h
  | .rt v h => .ok v h
  | .exc e _ h => .exc e h
  | _ => .bad
/-- the new list that is handed out stays a cell -/
def keepOk (n r : Nat) (h : Hh) : Bool := decide (r = n) && decide (h.length = n + 1) && olds n h && (match h[n]? with
    | some (.lst xs) => D.lows n xs
    | none => false)
def finK (n : Nat) (o : Out D) : Out D := match o with
  | .ok (.ref r) h => if keepOk n r h = true then .ok (.ref r) h else .bad
  | _ => .bad
noncomputable def runB (G : Gt) (fu : Nat) (d : DD) (ds : List D) (h : Hh) : Out D :=
  if d.keep = true then finK h.length (outD ((ev G fu).ss d.ec d.body (startD d.N ds) h)) else fin h.length (outD ((ev G fu).ss d.ec d.body (startD d.N ds) h))
/-- the arguments, by parameter -/
def argsD (d : DD) (ds : List D) : Option (List D) :=
  if d.star = true then (if d.P.length ≤ ds.length ∧ ds.length ≤ 1000 then some (ds.take d.P.length ++ [.tup (ds.drop d.P.length)]) else none)
  else (if ds.length = d.P.length then some ds else none)
noncomputable def runD (G : Gt) (fu : Nat) (d : DD) (ds : List D) (h : Hh) : Out D := match argsD d ds with
  | some es => runB G fu d es h
  | none => .bad
noncomputable def runT (G : Gt) (fu : Nat) (d : DD) (tk : List D → Hh → Out D) (ds : List D) (h : Hh) : Out D :=
  if d.star = false ∧ ds.length + 1 = d.P.length then fin h.length (outD ((ev G fu).ss (d.ecT tk) d.body (startD d.N (ds ++ [.thk])) h)) else .bad
section
variable {g : Gx} {Pg : Program} {wd : World} {bh : Heap} {k : Nat} {G : Gt} {fu : Nat} {d : DD}
theorem RL.start {K : PySem.W.Frag} {Z : Spx} {M : List Addr} {H : Hp} {N : List Str} {vs : List V} {ds : List D} (r : RDs K Z M H vs ds) : RL K Z M H (L2.start N vs) (startD N ds) := by
  refine ⟨?_, fun i e he => ?_⟩
  · unfold L2.start startD
    rw [List.length_append, List.length_append, List.length_map, List.length_map, List.length_replicate, List.length_replicate, r.length]
  · unfold startD at he
    unfold L2.start
    by_cases hi : i < ds.length
    · rw [List.getElem?_append_left (by rw [List.length_map]; exact hi), List.getElem?_map] at he
      cases ed : ds[i]? with
      | none => rw [ed] at he; cases he
      | some x =>
        rw [ed] at he
        cases he
        obtain ⟨v, h1, h2⟩ := r.get ed
        refine ⟨v, ?_, h2⟩
        rw [List.getElem?_append_left (by rw [List.length_map, r.length]; exact hi), List.getElem?_map, h1]
        rfl
    · rw [List.getElem?_append_right (by rw [List.length_map]; omega), List.getElem?_replicate] at he
      split at he <;> cases he
theorem post_out {Z : Spx} {M : List Addr} {H : Hp} {h : Hh} {σ : L2.St} {Q : VK} {E : XK} {o : SOut} (nex : Z.exo = none) (R : RelH g Z M H h) (keep : Bool)
    (p : match (if keep = true then finK h.length (outD o) else fin h.length (outD o)) with
      | .ok d h' => ∀ M' H' v, Ext M H M' H' → RelH g Z M' H' h' → RD g.K Z M' H' v d → Q v H'
      | .exc e h' => ∀ M' H' cv d, Ext M H M' H' → RelH g Z M' H' h' → XOk g.CA g.K Z M' H' cv d e → E cv d H'
      | .bad => False) (N : List Str) (sc : Scope) : SPost g ⟨N, sc, true, Z, fun cls d _ H => E cls d H⟩ { nx := fun _ H' => Q .non H', rt := Q } M H σ o := by
  have hn : h.length = M.length := R.len.symm
  have noex : ∀ (H' : Hp) (n : Nat) (M' : List Addr) a cv d e, Z.exo = some (a, cv, d, e) → XOk g.CA g.K Z (M'.take n) H' cv d e := fun _ _ _ a cv d e z => by rw [nex] at z; cases z
  have ht : ∀ a M0 H0, Z.thk = some (a, M0, H0) → M0.length ≤ M.length := fun a M0 H0 z => by
    obtain ⟨N, e⟩ := (R.tk a M0 H0 z).pre
    rw [e, List.length_append]; omega
  have fz : ∀ (d : D) (h' : Hh), (match fin h.length (.ok d h') with
      | .ok d h' => ∀ M' H' v, Ext M H M' H' → RelH g Z M' H' h' → RD g.K Z M' H' v d → Q v H'
      | .exc e h' => ∀ M' H' cv d, Ext M H M' H' → RelH g Z M' H' h' → XOk g.CA g.K Z M' H' cv d e → E cv d H'
      | .bad => False) → ∀ M' H' v, Ext M H M' H' → RelH g Z M' H' h' → RD g.K Z M' H' v d → Q v H' := fun d h' p M' H' v x R' r => by
    unfold fin at p
    dsimp only at p
    by_cases ho : olds h.length h' = true
    · rw [if_pos ho] at p
      cases ez : frzT h' h.length d with
      | none => rw [ez] at p; exact p.elim
      | some d' =>
        rw [ez] at p
        have q := frzT_rd R' r ez
        rw [hn] at p q
        exact p _ H' v (ext_cut x) (R'.cut (by rw [← hn]; exact ho) (noex H' _ M') ht) q
    · rw [if_neg ho] at p; exact p.elim
  have kz : ∀ (d : D) (h' : Hh), (match finK h.length (.ok d h') with
      | .ok d h' => ∀ M' H' v, Ext M H M' H' → RelH g Z M' H' h' → RD g.K Z M' H' v d → Q v H'
      | .exc e h' => ∀ M' H' cv d, Ext M H M' H' → RelH g Z M' H' h' → XOk g.CA g.K Z M' H' cv d e → E cv d H'
      | .bad => False) → ∀ M' H' v, Ext M H M' H' → RelH g Z M' H' h' → RD g.K Z M' H' v d → Q v H' := fun d h' p M' H' v x R' r => by
    unfold finK at p
    cases d with
    | ref rr =>
      dsimp only at p
      by_cases hc : keepOk h.length rr h' = true
      · rw [if_pos hc] at p
        exact p M' H' v x R' r
      · rw [if_neg hc] at p; exact p.elim
    | _ => exact p.elim
  cases o with
  | nx l h' =>
    intro M' H' σ' x R' L
    cases keep with
    | true => exact kz .non h' p M' H' .non x R' .non
    | false => exact fz .non h' p M' H' .non x R' .non
  | rt v h' =>
    intro M' H' u x R' r
    cases keep with
    | true => exact kz v h' p M' H' u x R' r
    | false => exact fz v h' p M' H' u x R' r
  | exc e l h' =>
    intro M' H' σ' cv d x R' L q
    cases keep with
    | true => exact p.elim
    | false =>
      rw [if_neg Bool.false_ne_true] at p
      unfold outD fin at p
      dsimp only at p
      by_cases ho : olds h.length h' = true
      · rw [if_pos ho] at p
        obtain ⟨qc, qf⟩ := q
        cases ef : e.fld with
        | none =>
          rw [ef] at p qf
          rw [hn] at p
          exact p _ H' cv d (ext_cut x) (R'.cut (by rw [← hn]; exact ho) (noex H' _ M') ht) ⟨qc, by rw [ef]; exact qf⟩
        | some fx =>
          obtain ⟨f, y⟩ := fx
          rw [ef] at p qf
          dsimp only at p qf
          obtain ⟨dd, vv, e1, e2, e3, e4⟩ := qf
          cases ez : frzT h' h.length y with
          | none => rw [ez] at p; exact p.elim
          | some y' =>
            rw [ez] at p
            have q2 := frzT_rd R' e4 ez
            rw [hn] at p q2
            exact p _ H' cv d (ext_cut x) (R'.cut (by rw [← hn]; exact ho) (noex H' _ M') ht) ⟨qc, dd, vv, e1, e2, fun z => e3 (List.mem_of_mem_take z), q2⟩
      · rw [if_neg ho] at p; exact p.elim
  | bk l h' => cases keep <;> exact p.elim
  | ct l h' => cases keep <;> exact p.elim
  | bad => cases keep <;> exact p.elim
/-- how the parameters are bound -/
structure BOk (d : DD) (ps : List Str) : Prop where
  S : FnScope d.N ps d.scope
  b : (d.star = false ∧ ps = d.P ∧ ∀ (kV doc pm : Value) (an : Option Addr) (cdv ct : Value) (us : List Value), us.length = d.P.length → bindArgs (PySem.W.fnOf d.name d.qual d.params d.body d.scope .none kV doc pm an cdv ct) ⟨us, []⟩ = pure (d.P.zip us)) ∨
    (d.star = true ∧ ∃ pv, ps = d.P ++ [pv] ∧ ∀ (kV doc pm : Value) (an : Option Addr) (cdv ct : Value) (us rest : List Value), us.length = d.P.length → bindArgs (PySem.W.fnOf d.name d.qual d.params d.body d.scope .none kV doc pm an cdv ct) ⟨us ++ rest, []⟩ =
      (newTuple rest >>= fun t => pure (d.P.zip us ++ [(pv, t)])))
/-- the def's table -/
def TabF (g : Gx) (bh : Heap) (d : DD) (cdv : Value) : Prop := ∃ cA P, cdv = .ref cA ∧ LamX.TabB bh g.mg cA P ∧ (P, (envOfC d.qual d.scope 0 0 cdv).qual ++ "<lambda>") ∈ g.T ∧ ∀ p ∈ g.T, p.1 = P → p.2 = (envOfC d.qual d.scope 0 0 cdv).qual ++ "<lambda>"
theorem fnG_of {f : Addr} {fd : FuncData} {ps : List Str} (O : GOk g Pg wd bh k G) (hs : ∃ o, bh.get? sysModules = some o) (TB : d.tb = true → TabF g bh d fd.code) (F : FunD g.K d.name d.qual d.params d.body d.scope [] [] f fd) (B : BOk d ps) :
    FnG Pg wd g.K g.mg bh (k + 1) f (spE g (runD G fu d)) := by
  obtain ⟨oc, od, dV, kV, doc, pm, an, cdv, ct, osl, rfl, lk, hcd, hD, hK⟩ := F.ex
  have hdv : dV = .none := by
    rcases hD with ⟨_, h⟩ | ⟨h, _⟩
    · exact h
    · exact absurd rfl h
  subst hdv
  intro A outer s H us vs Q E hr hg e0 rv h
  obtain ⟨M, hh, ds, R, rd, p⟩ := h
  unfold runD at p
  cases ea : argsD d ds with
  | none => rw [ea] at p; exact p.elim
  | some es =>
    rw [ea] at p
    refine StX.run_bnd lk hcd B.S hr e0 (G := fun xs H2 => Ext M H M H2 ∧ RelH g Spx.nil M H2 hh ∧ RDs g.K Spx.nil M H2 xs es) ?_ ?_
    · unfold argsD at ea
      rcases B.b with ⟨st, rfl, hb⟩ | ⟨st, pv, rfl, hb⟩
      · rw [st, if_neg Bool.false_ne_true] at ea
        obtain ⟨hl, rfl⟩ := ite_some ea
        intro A' Ex Q' kk
        have hl2 : us.length = d.P.length := by rw [← rv.length, rd.length, hl]
        rw [hb _ _ _ _ _ _ us hl2]
        exact wpAny_pure (kk s H vs us e0 (Un.refl) rfl (fun _ _ z => z) rv (by rw [rd.length, hl]) ⟨Ext.refl _ _, R, rd⟩)
      · rw [st, if_pos rfl] at ea
        obtain ⟨hl, rfl⟩ := ite_some ea
        intro A' Ex Q' kk
        have hn : H s.heap.objs.size = Option.none := e0.hok.fresh (Nat.le_refl _)
        have hvl : vs.length = ds.length := rd.length
        have hul : us.length = vs.length := rv.length.symm
        have rv2 : Vals (vs.take d.P.length ++ vs.drop d.P.length) us := by rw [List.take_append_drop]; exact rv
        obtain ⟨u1, u2, eu, r1, r2⟩ := StX.vals_split rv2
        subst eu
        have hl1 : u1.length = d.P.length := by rw [← r1.length, List.length_take]; omega
        have hl2 : u2.length ≤ sizeLine := by
          rw [← r2.length, List.length_drop, sizeLine_eq]
          have h3 : ds.length ≤ 1000 := hl.2
          omega
        rw [hb _ _ _ _ _ _ u1 u2 hl1]
        refine wpAny_bind (wpAny_newTuple (wpAny_pure ?_) hl2)
        have new : ObjOk Pg wd (upd H s.heap.objs.size (.tup (vs.drop d.P.length))) (s.heap.push ({ cls := .type "tuple", data := .seq u2.toArray } : Obj)) s.heap.objs.size (.tup (vs.drop d.P.length)) := ⟨by rw [r2.length]; exact hl2, u2, r2, ⟨_, Heap.get?_push_size _ rfl, rfl, _, rfl⟩⟩
        have un := StX.un_laid (fs := frs outer) (s := s) (o := ({ cls := .type "tuple", data := .seq u2.toArray } : Obj)) (u := .tup (vs.drop d.P.length)) hn
        have z := kk _ _ (vs.take d.P.length ++ [V.ref s.heap.objs.size]) (u1 ++ [Value.ref s.heap.objs.size]) (StX.env0_laid e0 new) un rfl (fun e s' => StX.cxUp outer s H _ _ E e s' un (fun b o q => Heap.get?_push_of_some _ q) rfl) (r1.append (.cons rfl .nil))
          (by rw [List.length_append, List.length_append, List.length_take, hvl, Nat.min_eq_left hl.1] <;> rfl)
          ⟨Ext.upd hn, R.alloc hn, ((rd.take _).mono (Ext.upd hn)).append (.cons (.tup (.tup upd_same (R.fresh hn)) ((rd.drop _).mono (Ext.upd hn))) .nil)⟩
        rw [List.zip_append hl1.symm] at z
        exact z
    · intro s2 H2 xs gx hr2
      obtain ⟨xe, R2, rd2⟩ := gx
      let c : Cs := ⟨d.N, d.scope, true, Spx.nil, fun cls d _ H => E cls d H⟩
      have AX : XX g Pg wd bh k (cxOf (L2.CX Pg wd) Pg wd g.K g.mg bh d.N d.qual d.scope f cdv A outer s2 H2 E) c d.ec := by
        refine ⟨⟨rfl, rfl, rfl, B.S.nd, rfl, rfl, fun _ => hr2, ?_, hg, hs, takes_of rfl rfl rfl rfl, passes_of rfl, fun _ => rfl, fun a cv dd e z => ?_⟩, rfl, rfl, fun _ => rfl, fun _ _ => rfl, B.S.kind, rfl, rfl, rfl, fun _ => rfl, fun h => ?_, fun _ => ⟨rfl, rfl⟩, fun i tk h => (by cases h)⟩
        · have := hr2.un
          show (A.deeper _).units + 80 < cLine
          omega
        · cases z
        · obtain ⟨cA, P, h1, h2, h3, h4⟩ := TB h
          exact ⟨cA, P, h1, h2, h3, h4⟩
      refine ⟨rs g c ((ev G fu).ss d.ec d.body), (snd_ev O fu).ss _ _ _ _ AX, M, startD d.N es, hh, R2, RL.start rd2, ?_⟩
      refine post_out rfl R2 d.keep ?_ d.N d.scope
      have p : match runB G fu d es hh with
        | .ok d h' => ∀ M' H' v, Ext M H M' H' → RelH g Spx.nil M' H' h' → RD g.K Spx.nil M' H' v d → Q v H'
        | .exc e h' => ∀ M' H' cv d, Ext M H M' H' → RelH g Spx.nil M' H' h' → XOk g.CA g.K Spx.nil M' H' cv d e → E cv d H'
        | .bad => False := p
      unfold runB at p
      generalize (if d.keep = true then finK hh.length (outD ((ev G fu).ss d.ec d.body (startD d.N es) hh)) else fin hh.length (outD ((ev G fu).ss d.ec d.body (startD d.N es) hh))) = o at p ⊢
      cases o with
      | ok dd h' => exact fun M' H' v x => p M' H' v (xe.trans x)
      | exc e h' => exact fun M' H' cv dd x => p M' H' cv dd (xe.trans x)
      | bad => exact p
/-- a def that calls its last argument -/
theorem gvT_of {f : Addr} {fd : FuncData} {ps : List Str} {m : Nat} (O : GOk g Pg wd bh (m + 1) G) (hs : ∃ o, bh.get? sysModules = some o) (F : FunD g.K d.name d.qual d.params d.body d.scope [] [] f fd) (B : BOk d ps) :
    GvT g Pg wd bh m f (runT G fu d) := by
  obtain ⟨oc, od, dV, kV, doc, pm, an, cdv, ct, osl, rfl, lk, hcd, hD, hK⟩ := F.ex
  have hdv : dV = .none := by
    rcases hD with ⟨_, h⟩ | ⟨h, _⟩
    · exact h
    · exact absurd rfl h
  subst hdv
  intro A outer s H us vs fl Q E M0 hh ds tk hr hg e0 rv R rds act p
  unfold runT at p
  by_cases hc : d.star = false ∧ ds.length + 1 = d.P.length
  rotate_left
  · rw [if_neg hc] at p; exact p.elim
  rw [if_pos hc] at p
  obtain ⟨hst, hl⟩ := hc
  obtain ⟨rfl, hb⟩ : ps = d.P ∧ ∀ (kV doc pm : Value) (an : Option Addr) (cdv ct : Value) (us : List Value), us.length = d.P.length → bindArgs (PySem.W.fnOf d.name d.qual d.params d.body d.scope .none kV doc pm an cdv ct) ⟨us, []⟩ = pure (d.P.zip us) := by
    rcases B.b with ⟨_, h1, h2⟩ | ⟨h1, _⟩
    · exact ⟨h1, h2⟩
    · rw [hst] at h1; cases h1
  have zl : Zle Spx.nil (zLm fl M0 H) := ⟨fun _ z => (by cases z), fun _ z => (by cases z)⟩
  have R2 : RelH g (zLm fl M0 H) M0 H hh := R.zle zl (fun a cv d e z => (by cases z)) fun a M1 H1 z => by
    cases z; exact Ext.refl _ _
  have rd2 : RDs g.K (zLm fl M0 H) M0 H (vs ++ [.ref fl]) (ds ++ [.thk]) := (rds.zle zl).snoc (.thk rfl)
  have hlu : (us ++ [Value.ref fl]).length = d.P.length := by rw [List.length_append, ← rv.length, rds.length]; exact hl
  have hlv : (vs ++ [V.ref fl]).length = d.P.length := by rw [List.length_append, rds.length]; exact hl
  refine LamX.run_ofS (N := d.N) (ps := d.P) (us := us ++ [.ref fl]) (vs := vs ++ [.ref fl]) lk hcd B.S hr e0 (BindsTo.of_eq (hb _ _ _ _ _ _ _ hlu)) (rv.append (.cons (show L2.RelV (.ref fl) (.ref fl) from rfl) .nil)) hlv fun hr2 => ?_
  let c : Cs := ⟨d.N, d.scope, true, zLm fl M0 H, fun cls d _ H => E cls d H⟩
  have AX : XX g Pg wd bh (m + 1) (cxOf (L2.CX Pg wd) Pg wd g.K g.mg bh d.N d.qual d.scope f cdv A outer s H E) c (d.ecT tk) := by
    refine ⟨⟨rfl, rfl, rfl, B.S.nd, rfl, rfl, fun _ => hr2, ?_, hg, hs, takes_of rfl rfl rfl rfl, passes_of rfl, fun _ => rfl, fun a cv dd e z => (by cases z)⟩, rfl, rfl, fun _ => rfl, fun _ _ => rfl, B.S.kind, rfl, rfl, rfl, fun h => (by cases h), fun h => (by cases h), fun _ => ⟨rfl, rfl⟩, fun i tk' h => ?_⟩
    · have := hr2.un
      show (A.deeper _).units + 80 < cLine
      omega
    · cases h
      exact ⟨rfl, fun W pn xe a p1 p2 es ms C hcalm hi hv hdb hcd ha hes => act d.N d.qual d.scope f cdv E pn xe { c with W := W } _ a p1 p2 es ms C hcalm rfl hi hv hdb hcd ha hes⟩
  refine ⟨rs g c ((ev G fu).ss (d.ecT tk) d.body), (snd_ev O fu).ss _ _ _ _ AX, M0, startD d.N (ds ++ [.thk]), hh, R2, RL.start rd2, ?_⟩
  exact post_out rfl R2 false p d.N d.scope
end
end WW
/-! 24: all defs of the text, the law's end. -/
namespace WW
open PySem PySem.Spec PyProof.Rows L2
/-- the text: built-ins that it leaves as they are, numbers of the module, defs, exception classes -/
structure Tx where
  free : List Str
  nums : List (Str × Int)
  defs : List DD
  xs : List Xd
  fu : Nat
def Tx.names (T : Tx) : List Str := T.defs.map (·.name)
def badC : Str → List D → Hh → Out D := fun _ _ _ => .bad
def badT : Str → (List D → Hh → Out D) → List D → Hh → Out D := fun _ _ _ _ => .bad
def Tx.g0 (T : Tx) : Gt := ⟨T.free, T.nums, T.names, badC, badC, badT, T.xs, false⟩
noncomputable def Tx.callX (T : Tx) (G : Gt) : Str → List D → Hh → Out D := fun x ds h => match T.defs.find? (fun d => d.name == x) with
  | some d => runD G T.fu d ds h
  | none => .bad
noncomputable def Tx.callY (T : Tx) (G : Gt) : Str → (List D → Hh → Out D) → List D → Hh → Out D := fun x tk ds h => match T.defs.find? (fun d => d.name == x) with
  | some d => runT G T.fu d tk ds h
  | none => .bad
/-- this level and the one below -/
noncomputable def Tx.gp (T : Tx) : Nat → Gt × Gt
  | 0 => (T.g0, T.g0)
  | n + 1 => (⟨T.free, T.nums, T.names, T.callX (T.gp n).1, (T.gp n).2.call, if n = 0 then badT else T.callY (T.gp n).1, T.xs, !decide (n = 0)⟩, (T.gp n).1)
noncomputable def Tx.gt (T : Tx) (n : Nat) : Gt := (T.gp n).1
noncomputable def callE (T : Tx) (n : Nat) : Str → List D → Hh → Out D := (T.gt n).call
noncomputable def callTE (T : Tx) (n : Nat) : Str → (List D → Hh → Out D) → List D → Hh → Out D := (T.gt n).callT
theorem gt_eq (T : Tx) (n : Nat) : T.gt n = ⟨T.free, T.nums, T.names, callE T n, (T.gt n).callL, (T.gt n).callT, T.xs, (T.gt n).deep⟩ := by
  cases n <;> rfl
theorem gt_eq2 (T : Tx) (n : Nat) : T.gt (n + 2) = ⟨T.free, T.nums, T.names, callE T (n + 2), callE T n, callTE T (n + 2), T.xs, true⟩ := rfl
theorem callE_succ (T : Tx) (n : Nat) : callE T (n + 1) = T.callX (T.gt n) := rfl
theorem callTE_succ (T : Tx) (n : Nat) : callTE T (n + 2) = T.callY (T.gt (n + 1)) := rfl
/-- the module's defs as they stand -/
structure TxOk (g : Gx) (T : Tx) : Prop where
  free : ∀ x ∈ T.free, g.mg x = none
  nums : ∀ x i, T.nums.lookup x = some i → ∃ t, g.mg x = some (.int i t)
  defs : ∀ d ∈ T.defs, ∃ f fd ps, g.mg d.name = some (.ref f) ∧ FunD g.K d.name d.qual d.params d.body d.scope [] [] f fd ∧ BOk d ps
  xok : XsOk g T.xs
  xb : ∀ p ∈ excBp, ∀ d ∈ T.xs, ∀ A, g.CA d.name = some A → PySem.W.kitOne g.K (.ref A) (.type p.2) = some (d.sup.contains p.1)
theorem fnG_bad {g : Gx} {Pg : Program} {wd : World} {bh : Heap} {k : Nat} {f : Addr} {F : List D → Hh → Out D} (h : ∀ ds hh, F ds hh = .bad) : FnG Pg wd g.K g.mg bh k f (spE g F) := by
  intro A outer s H us vs Q E hr hg e0 rv q
  obtain ⟨M, hh, ds, _, _, p⟩ := q
  rw [h] at p
  exact p.elim
section
variable {g : Gx} {T : Tx} {Pg : Program} {wd : World} {bh : Heap}
def TabsOk (g : Gx) (bh : Heap) (T : Tx) : Prop := ∀ d ∈ T.defs, d.tb = true → ∀ f fd, g.mg d.name = some (.ref f) → FunD g.K d.name d.qual d.params d.body d.scope [] [] f fd → TabF g bh d fd.code
theorem find_dd {x : Str} (hx : x ∈ T.names) : ∃ d, T.defs.find? (fun d => d.name == x) = some d ∧ d ∈ T.defs ∧ d.name = x := by
  obtain ⟨d0, hd0, rfl⟩ := List.mem_map.mp hx
  cases q : T.defs.find? (fun d => d.name == d0.name) with
  | some d => exact ⟨d, rfl, List.mem_of_find?_eq_some q, by simpa using List.find?_some q⟩
  | none => exact absurd (List.find?_eq_none.mp q d0 hd0) (by simp)
theorem fnG_x (O : TxOk g T) (hs : ∃ o, bh.get? sysModules = some o) (TB : TabsOk g bh T) {k : Nat} {G : Gt} (OG : GOk g Pg wd bh k G) {x : Str} (hx : x ∈ T.names) : ∃ f, g.mg x = some (.ref f) ∧ PySem.W.keepIn g.K (.ref f) = true ∧ FnG Pg wd g.K g.mg bh (k + 1) f (spE g (T.callX G x)) := by
  obtain ⟨d, e, hd, hn⟩ := find_dd hx
  obtain ⟨f, fd, ps, h1, h2, h3⟩ := O.defs d hd
  have h1' := h1
  rw [hn] at h1
  refine ⟨f, h1, h2.kp, ?_⟩
  have z := fnG_of (Pg := Pg) (wd := wd) (fu := T.fu) OG hs (fun ht => TB d hd ht f fd h1' h2) h2 h3
  have ec : T.callX G x = runD G T.fu d := by
    funext ds h
    show (match T.defs.find? (fun d => d.name == x) with
      | some d => runD G T.fu d ds h
      | none => .bad) = _
    rw [e]
  rw [ec]
  exact z
theorem gvT_x (O : TxOk g T) (hs : ∃ o, bh.get? sysModules = some o) {m : Nat} {G : Gt} (OG : GOk g Pg wd bh (m + 1) G) {x : Str} (hx : x ∈ T.names) : ∃ f, g.mg x = some (.ref f) ∧ PySem.W.keepIn g.K (.ref f) = true ∧ GvT g Pg wd bh m f (T.callY G x) := by
  obtain ⟨d, e, hd, hn⟩ := find_dd hx
  obtain ⟨f, fd, ps, h1, h2, h3⟩ := O.defs d hd
  rw [hn] at h1
  refine ⟨f, h1, h2.kp, ?_⟩
  have z := gvT_of (Pg := Pg) (wd := wd) (fu := T.fu) OG hs h2 h3
  have ec : T.callY G x = runT G T.fu d := by
    funext tk ds h
    show (match T.defs.find? (fun d => d.name == x) with
      | some d => runT G T.fu d tk ds h
      | none => .bad) = _
    rw [e]
  rw [ec]
  exact z
theorem mem_names (O : TxOk g T) {x : Str} (hx : x ∈ T.names) : ∃ f, g.mg x = some (.ref f) ∧ PySem.W.keepIn g.K (.ref f) = true := by
  obtain ⟨d, e, hd, hn⟩ := find_dd hx
  obtain ⟨f, fd, ps, h1, h2, h3⟩ := O.defs d hd
  rw [hn] at h1
  exact ⟨f, h1, h2.kp⟩
theorem gok_pair (O : TxOk g T) (hs : ∃ o, bh.get? sysModules = some o) (TB : TabsOk g bh T) : ∀ n : Nat, GOk g Pg wd bh n (T.gp n).1 ∧ GOk g Pg wd bh (n - 1) (T.gp n).2
  | 0 => by
    have z : GOk g Pg wd bh 0 T.g0 := ⟨O.free, O.nums, fun x hx => let ⟨f, h1, h2⟩ := mem_names O hx; ⟨f, h1, h2, fnG_bad fun _ _ => rfl⟩, fun x hx => let ⟨f, h1, h2⟩ := mem_names O hx; ⟨f, h1, h2, fnG_bad fun _ _ => rfl⟩, fun h => (by cases h), O.xok, O.xb⟩
    exact ⟨z, z⟩
  | n + 1 => by
    obtain ⟨h1, h2⟩ := gok_pair O hs TB n
    refine ⟨⟨O.free, O.nums, fun x hx => fnG_x O hs TB h1 hx, fun x hx => ?_, fun h => ?_, O.xok, O.xb⟩, h1⟩
    · exact h2.defs x (by
        show x ∈ (T.gp n).2.defs
        cases n with
        | zero => exact hx
        | succ m => cases m <;> exact hx)
    · cases n with
      | zero => exact absurd h (by show ¬ (!decide (0 = 0)) = true; simp)
      | succ m =>
        refine ⟨m, rfl, fun x hx => ?_⟩
        have := gvT_x (m := m) (Pg := Pg) (wd := wd) O hs h1 hx
        exact this
theorem gok_all (O : TxOk g T) (hs : ∃ o, bh.get? sysModules = some o) (TB : TabsOk g bh T) (n : Nat) : GOk g Pg wd bh n (T.gt n) := (gok_pair O hs TB n).1
end
/-! ### the law's call -/
section
variable {Pg : Program} {wd : World} {K : PySem.W.Frag} {mg mb : Str → Option Value} {k : Nat} {fa a : Addr} {cs : List (Addr × Addr)} {sp : Sp} {s0 : Shared} {vs : List Value} {ns : List Int}
abbrev scrO (vs : List Value) : Obj := { cls := .type "list", data := .seq vs.toArray }
abbrev tabO : Obj := { cls := .none, data := .fields #[] }
open Classical in
/-- what is tracked at the law's entry: the script, empty tables -/
noncomputable def hp0 (K : PySem.W.Frag) (a : Addr) (vs : List Value) (ns : List Int) (ts : List Addr) : Hp := fun b =>
  if b ∈ ts then some (.tbl #[]) else if b = a ∧ K.lookup a = none then some (.frz (scrO vs) (.lst (ns.map V.int))) else none
theorem hp0_cases {ts : List Addr} {b : Addr} : (b ∈ ts ∧ hp0 K a vs ns ts b = some (.tbl #[])) ∨ (b ∉ ts ∧ b = a ∧ K.lookup a = none ∧ hp0 K a vs ns ts b = some (.frz (scrO vs) (.lst (ns.map V.int)))) ∨ hp0 K a vs ns ts b = none := by
  unfold hp0
  by_cases h1 : b ∈ ts
  · exact .inl ⟨h1, if_pos h1⟩
  · rw [if_neg h1]
    by_cases h2 : b = a ∧ K.lookup a = none
    · exact .inr (.inl ⟨h1, h2.1, h2.2, if_pos h2⟩)
    · exact .inr (.inr (if_neg h2))
theorem law_callG (KX : K.In s0.heap) (hns : s0.heap.Ns mainGlobals mg) (hb : s0.heap.Ns builtinsNs mb) (hbb : ∀ y : Str, y ≠ "__name__" → mb y = bootBuiltins y) (hlim : s0.heap.NoLimit) (hgn : s0.gens = #[])
    (hT : ∀ p ∈ cs, s0.heap.get? p.2 = some tabO) (nT : ∀ p ∈ cs, K.lookup p.2 = none) (hC : ∀ p ∈ cs, PySem.W.CodeHd s0.heap p.1 p.2)
    (hbm : ∃ (m : Addr) (ob : Obj), mg "__builtins__" = some (.ref m) ∧ m ≠ builtinsNs ∧ s0.heap.get? m = some ob ∧ ob.cls = .type "module" ∧ ob.dict = some builtinsNs ∧ ob.data = .plain)
    (ha : s0.heap.get? a = some (scrO vs)) (hi : IntsAre vs ns) (hl : ns.length ≤ sizeLine) (hr : Room k callerA)
    (F : ∀ bh : Heap, K.In bh → bh.Ns mainGlobals mg → (∃ o, bh.get? sysModules = some o) → (∀ p ∈ cs, LamX.TabB bh mg p.1 p.2) → FnG Pg wd K mg bh k fa sp) (hsy : ∃ o, s0.heap.get? sysModules = some o ∧ (∀ us n, o.data ≠ .seq us n) ∧ o.data ≠ .fields #[])
    (hsp : ∀ H : Hp, (∀ p ∈ cs, H p.2 = some (.tbl #[])) → LokAt K [] H a (ns.map V.int) → sp [.ref a] H (fun v _ => v = .bl true) fun _ _ _ => False) :
    codeAny (model Pg wd) callerA (.call (.ref fa) ⟨[.ref a], []⟩) (fun r t => r = .ok (.ret (.bool true)) ∧ OldK s0.heap t.heap ∧ t.os = s0.os ∧ AllBare t.gens) s0 := by
  have rv := vals_ints hi
  have tab : ∀ b ∈ cs.map (·.2), s0.heap.get? b = some tabO := fun b hb => by
    obtain ⟨p, hp, rfl⟩ := List.mem_map.mp hb
    exact hT p hp
  have noK : ∀ b ∈ cs.map (·.2), K.lookup b = none := fun b hb => by
    obtain ⟨p, hp, rfl⟩ := List.mem_map.mp hb
    exact nT p hp
  have aT : a ∉ cs.map (·.2) := fun z => by
    have q := tab a z
    rw [ha] at q
    exact nomatch (congrArg Obj.data (Option.some.inj q) : Data.seq vs.toArray _ = Data.fields #[])
  have inT : ∀ p ∈ cs, p.2 ∈ cs.map (·.2) := fun p hp => List.mem_map.mpr ⟨p, hp, rfl⟩
  generalize eH : hp0 K a vs ns (cs.map (·.2)) = H
  have hc : ∀ b, (b ∈ cs.map (·.2) ∧ H b = some (.tbl #[])) ∨ (b ∉ cs.map (·.2) ∧ b = a ∧ K.lookup a = none ∧ H b = some (.frz (scrO vs) (.lst (ns.map V.int)))) ∨ H b = none := fun b => by
    rw [← eH]; exact hp0_cases
  have hTab : ∀ p ∈ cs, H p.2 = some (.tbl #[]) := fun p hp => by
    rcases hc p.2 with z | z | z
    · exact z.2
    · exact absurd (inT p hp) z.1
    · rw [← eH] at z
      unfold hp0 at z
      rw [if_pos (inT p hp)] at z
      cases z
  -- what is untracked lies in the base
  have off : ∀ {b : Addr} {o : Obj}, s0.heap.get? b = some o → (∀ us n, o.data ≠ .seq us n) → o.data ≠ .fields #[] → H b = none := fun {b o} e h1 h2 => by
    rcases hc b with z | z | z
    · rw [tab b z.1] at e; cases e; exact absurd rfl h2
    · rw [z.2.1, ha] at e; cases e; exact absurd rfl (h1 _ _)
    · exact z
  have at_ : ∀ {b : Addr} {o : Obj}, s0.heap.get? b = some o → H b = none → (hidT s0.heap H).get? b = some o := fun e n => hidT_get e n
  have at2 : ∀ {b : Addr} {o : Obj}, s0.heap.get? b = some o → (∀ us n, o.data ≠ .seq us n) → o.data ≠ .fields #[] → (hidT s0.heap H).get? b = some o := fun e h1 h2 => at_ e (off e h1 h2)
  have dNs : ∀ {b : Addr} {m : Str → Option Value}, s0.heap.Ns b m → (hidT s0.heap H).Ns b m := fun {b m} z => by
    obtain ⟨o, es, ep, e, dd, r⟩ := z
    exact ⟨o, es, ep, at2 e (fun us n q => by rw [dd] at q; cases q) (fun q => by rw [dd] at q; cases q), dd, r⟩
  have KB : K.In (hidT s0.heap H) := fun b o e => at_ (KX b o e) (by
    rcases hc b with z | z | z
    · rw [noK b z.1] at e; cases e
    · rw [z.2.1, z.2.2.1] at e; cases e
    · exact z)
  have MB : L2.Mod K mg (hidT s0.heap H) := by
    obtain ⟨mc, m1, m2⟩ := hlim
    exact ⟨KB, dNs hns, ⟨mb, dNs hb, hbb⟩, ⟨mc, dNs m1, m2⟩⟩
  have TB : ∀ p ∈ cs, LamX.TabB (hidT s0.heap H) mg p.1 p.2 := fun p hp => by
    refine ⟨?_, ?_, fun z => ?_⟩
    · obtain ⟨o, us, file, tf, flags, tg, inF, text, tt, e1, r1, r2, rr, more⟩ := hC p hp
      refine ⟨o, us, file, tf, flags, tg, inF, text, tt, at2 e1 (fun us n q => by rw [r2] at q; cases q) (fun q => ?_), r1, r2, rr, more⟩
      rw [r2] at q
      cases q
      simp at rr
    · obtain ⟨m, ob, b1, b2, b3, b4, b5, b6⟩ := hbm
      refine ⟨m, ob, b1, b2, fun q => ?_, fun q => ?_, at2 b3 (fun us n q => by rw [b6] at q; cases q) (fun q => by rw [b6] at q; cases q), b4, b5, b6⟩
      · obtain ⟨o, es, ep, e, hd, _⟩ := hns
        rw [q, e] at b3; cases b3; rw [hd] at b6; cases b6
      · rw [q, hT p hp] at b3; cases b3; cases b6
    · obtain ⟨o, es, ep, e, hd, _⟩ := hns
      rw [z, hT p hp] at e; cases e; cases hd
  have ok0 : HOk Pg wd H s0.heap := fun b u z => by
    rcases hc b with y | y | y
    · rw [y.2] at z; cases z; exact tab b y.1
    · rw [y.2.2.2] at z; cases z
      rw [y.2.1]
      exact ⟨ha, by rw [List.length_map]; exact hl, vs, _, rv, ha⟩
    · rw [y] at z; cases z
  have E0 : Env0 Pg wd K mg (hidT s0.heap H) callerA [] s0 H :=
    ⟨rfl, MB, fun b o e => of_hidT e, Nat.le_of_eq (hidT_size _ _), trivial, fun b hb => (nomatch (hb : b ∈ ([] : List Addr))), ok0, .of_eq hgn⟩
  have scr : LokAt K [] H a (ns.map V.int) := by
    cases q : K.lookup a with
    | none =>
      rcases hc a with z | z | z
      · exact absurd z.1 aT
      · exact .frz z.2.2.2 (by simp)
      · rw [← eH] at z
        unfold hp0 at z
        rw [if_neg aT, if_pos ⟨rfl, q⟩] at z
        cases z
    | some o =>
      have e := KX a o q
      rw [ha] at e; cases e
      exact .wr ⟨_, vs.toArray, _, q, rfl, rfl, rfl, by rw [List.size_toArray, hi.length]; exact hl, by simpa using rv⟩
  obtain ⟨oS, eS, dS1, dS2⟩ := hsy
  refine codeAny_mono (F _ KB (dNs hns) ⟨oS, at2 eS dS1 dS2⟩ TB callerA [] s0 H [.ref a] [.ref a] _ _ hr rfl E0 (.cons rfl .nil) (hsp H hTab scr)) fun r t h => ?_
  match r, h with
  | .error e, h => exact (let ⟨_, _, _, _, _, _, _, _, _, _, _, _, z⟩ := h; z).elim
  | .ok .next, h => exact h.elim
  | .ok .brk, h => exact h.elim
  | .ok .cont, h => exact h.elim
  | .ok (.ret u), h =>
    obtain ⟨v, H', os, bare, un, ok1, ru, rfl⟩ := h
    obtain rfl : u = Value.bool true := ru
    have same : ∀ b o, b ∉ cs.map (·.2) → s0.heap.get? b = some o → t.heap.get? b = some o := fun b o nb e => by
      rcases hc b with z | z | z
      · exact absurd z.1 nb
      · obtain ⟨z1, _⟩ := ok1 b _ (un.frzs b _ _ z.2.2.2)
        rw [z.2.1, ha] at e; cases e
        exact z1
      · exact un.keep b o e z (fun q => nomatch (q : b ∈ ([] : List Addr))) (by simp)
    refine ⟨rfl, ⟨fun b o e => ?_, fun b o e => ?_⟩, os, bare⟩
    · by_cases hm : b ∈ cs.map (·.2)
      · obtain ⟨p, hp, rfl⟩ := List.mem_map.mp hm
        obtain ⟨more, z⟩ := un.tbls p.2 #[] (hTab p hp)
        rw [hT p hp] at e; cases e
        exact .inr (.inl ⟨((hC p hp).tab (hT p hp)).isCodeTable, rfl, #[], _, rfl, by rw [Array.empty_append]; exact ok1 p.2 _ z⟩)
      · exact .inl (same b o hm e)
    · by_cases hm : b ∈ cs.map (·.2)
      · obtain ⟨p, hp, rfl⟩ := List.mem_map.mp hm
        obtain ⟨more, z⟩ := un.tbls p.2 #[] (hTab p hp)
        exact ⟨_, ok1 p.2 _ z⟩
      · exact ⟨o, same b o hm e⟩
end
end WW
/-! 25a: what the written part says of the exception classes, reckoned. -/
namespace WW
open PySem PySem.Spec PyProof.Rows L2
def vB (v : Option (Option Value)) (x : String) : Bool := decide (v = some (some (.builtin x)))
def clsB (K : PySem.W.Frag) (C : Addr) : Bool :=
  (PySem.W.clsIn K C).isSome && vB (PySem.W.findIn K (.ref C) "__getattribute__") "BaseException.__getattribute__" && decide (PySem.W.findIn K (.ref C) "__getattr__" = some none) && decide (PySem.W.subIn K (.ref C) (.type "BaseException") = some true) &&
    vB (PySem.W.findIn K (.ref C) "__class__") "object.__class__" && decide (PySem.W.mroIn K C (.type "object") = some true) && vB (PySem.W.specialIn K (.builtin "object.__class__") "__get__") "getset_descriptor.__get__" &&
    decide (PySem.W.takesIn K (.builtin "object.__class__") = some true) && decide (PySem.W.typeIn K (.ref C) = some (.type "type")) && PySem.W.keepIn K (.ref C)
/-- a class that keeps a value: its name, the field, the built-in base -/
structure Kb where
  name : Str
  fld : Str
  bm : List Value
  newId : String
def kbs : List Kb := [⟨"InvalidNumber", "value", [.type "IndexError", .type "LookupError", .type "Exception", .type "BaseException", .type "object"], "IndexError.__new__"⟩,
  ⟨"UnknownPoint", "point", [.type "LookupError", .type "Exception", .type "BaseException", .type "object"], "LookupError.__new__"⟩,
  ⟨"TooMany", "limit", [.type "OverflowError", .type "ArithmeticError", .type "Exception", .type "BaseException", .type "object"], "OverflowError.__new__"⟩,
  ⟨"NotInvariant", "trail", [.type "ArithmeticError", .type "Exception", .type "BaseException", .type "object"], "ArithmeticError.__new__"⟩,
  ⟨"NothingToUndo", "count", [.type "RuntimeError", .type "Exception", .type "BaseException", .type "object"], "RuntimeError.__new__"⟩]
theorem kbs_ok : ∀ p ∈ kbs, PySem.LowG.FlOk p.fld ∧ ∃ B initId, PySem.LowG.BaseOk B p.newId initId p.bm := by
  intro p hp
  simp only [kbs, List.mem_cons, List.not_mem_nil, or_false] at hp
  rcases hp with rfl | rfl | rfl | rfl | rfl
  · exact ⟨PySem.LowG.fl_value, _, _, PySem.LowG.base_IndexError⟩
  · exact ⟨PySem.LowG.fl_point, _, _, PySem.LowG.base_LookupError⟩
  · exact ⟨PySem.LowG.fl_limit, _, _, PySem.LowG.base_OverflowError⟩
  · exact ⟨PySem.LowG.fl_trail, _, _, PySem.LowG.base_ArithmeticError⟩
  · exact ⟨PySem.LowG.fl_count, _, _, PySem.LowG.base_RuntimeError⟩
def kwNone (K : PySem.W.Frag) (f : Addr) : Bool := match K.lookup f with
  | some ⟨_, _, .func fd, _⟩ => (match fd.kwdefaults with
    | .none => true
    | _ => false)
  | _ => false
def hasD (K : PySem.W.Frag) (C : Addr) : Bool := match K.lookup C with
  | some ⟨_, _, .cls cd, _⟩ => cd.hasDict
  | _ => false
def keepB (K : PySem.W.Frag) (C : Addr) (b : Kb) : Bool :=
  PySem.W.hasDictIn K C && decide (PySem.W.findIn K (.ref C) b.fld = some none) && PySem.W.excInitIn K C b.bm b.newId && hasD K C && vB (PySem.W.findIn K (.ref C) "__setattr__") "object.__setattr__" &&
    decide (PySem.W.findIn K (.ref C) "__init__" = some (some (.ref (He.ma K C "__init__")))) && decide (PySem.W.typeIn K (.ref (He.ma K C "__init__")) = some (.type "function")) && kwNone K (He.ma K C "__init__")
def clsBody (s : Stmt) : List Stmt := match s with
  | .ClassDef _ _ _ body _ _ _ _ _ _ _ => body
  | _ => []
def xcB (K : PySem.W.Frag) (d : Xd) : Bool := clsB K (He.ga K d.name) && (match d.fld with
  | none => PySem.W.excIn K (He.ga K d.name) He.veBase "ValueError.__new__"
  | some f => kbs.any fun b => decide (b.name = d.name) && decide (b.fld = f) && keepB K (He.ga K d.name) b)
def exB (xs : List Xd) (K : PySem.W.Frag) : Bool := (xs.all fun d => xcB K d) && (xs.all fun d => xs.all fun y => decide (PySem.W.exmOne K (.ref (He.ga K d.name)) (.ref (He.ga K y.name)) = some (d.sup.contains y.name)) && decide (PySem.W.kitOne K (.ref (He.ga K d.name)) (.ref (He.ga K y.name)) = some (d.sup.contains y.name))) &&
  excBp.all fun p => xs.all fun d => decide (PySem.W.kitOne K (.ref (He.ga K d.name)) (.type p.2) = some (d.sup.contains p.1))
/-- the class's __init__ -/
def InitOk (K : PySem.W.Frag) (d : Xd) : Prop := ∀ f, d.fld = some f → ∃ qual p1 p2 q1 q2 q3 q4 fd, FunD K "__init__" qual (PySem.LowG.iA f p1 p2) (PySem.LowG.iB f q1 q2 q3 q4) (PySem.LowG.iS f) [] [] (He.ma K (He.ga K d.name) "__init__") fd
def caOf (K : PySem.W.Frag) (xs : List Xd) : Str → Option Addr := fun x => if xs.any (fun d => d.name == x) = true then some (He.ga K x) else none
theorem caOf_mem {K : PySem.W.Frag} {xs : List Xd} {d : Xd} (h : d ∈ xs) : caOf K xs d.name = some (He.ga K d.name) := by
  unfold caOf
  rw [if_pos (List.any_eq_true.mpr ⟨d, h, by simp⟩)]
theorem xc_of {g : Gx} {xs : List Xd} {d : Xd} (hd : d ∈ xs) (hCA : g.CA = caOf g.K xs) (hm : g.mg d.name = some (.ref (He.ga g.K d.name))) (I : InitOk g.K d) (h : xcB g.K d = true) : XcOk g d (He.ga g.K d.name) := by
  unfold xcB at h
  obtain ⟨h1, h2⟩ := Bool.and_eq_true_iff.mp h
  unfold clsB vB at h1
  simp only [Bool.and_eq_true, decide_eq_true_eq] at h1
  obtain ⟨⟨⟨⟨⟨⟨⟨⟨⟨a1, a2⟩, a3⟩, a4⟩, a5⟩, a6⟩, a7⟩, a8⟩, a9⟩, a10⟩ := h1
  refine ⟨hm, by rw [hCA]; exact caOf_mem hd, a1, a2, a3, a4, a5, a6, a7, a8, a9, a10, fun e => ?_, fun f e => ?_⟩
  · rw [e] at h2
    exact ⟨_, _, _, _, F.excBase_ValueError, h2⟩
  · rw [e] at h2
    obtain ⟨b, hb, hk⟩ := List.any_eq_true.mp h2
    unfold keepB vB at hk
    simp only [Bool.and_eq_true, decide_eq_true_eq] at hk
    obtain ⟨⟨n1, rfl⟩, ⟨⟨⟨⟨⟨⟨⟨k1, k2⟩, k3⟩, k4⟩, k5⟩, k6⟩, k7⟩, k8⟩⟩ := hk
    obtain ⟨f1, B, initId, f2⟩ := kbs_ok b hb
    obtain ⟨qual, p1, p2, q1, q2, q3, q4, fd, FD⟩ := I b.fld e
    refine ⟨k1, k2, f1, B, b.newId, initId, b.bm, He.ma g.K (He.ga g.K d.name) "__init__", qual, b.newId, f2, ?_, k5, k2, k6, k7, a10, a4, a9, ?_⟩
    · unfold PySem.W.excInitIn at k3
      unfold hasD at k4
      split at k3
      · rename_i dd cd sl ho
        rw [ho] at k4
        split at k3
        · rename_i C' bm k0 k1 k2 k3' n k5 hm hs
          simp only [Bool.and_eq_true, beq_iff_eq, Bool.not_eq_true'] at k3
          obtain ⟨⟨⟨rfl, rfl⟩, hdel⟩, ht⟩ := k3
          obtain ⟨nm, bs, mro, ns, qn, hd', sn, sub, ab, col, del⟩ := cd
          dsimp only at hm hdel k4
          subst hm hdel k4
          have hsl : sl = #[k0, k1, k2, k3', some (.builtin b.newId), k5] := by
            obtain ⟨l⟩ := sl
            simp only at hs
            rw [hs]
          subst hsl
          exact ⟨nm, qn, ns, bs, bm, sn, sub, ab, col, dd, k0, k1, k2, k3', k5, ho, ht⟩
        · cases k3
      · cases k3
    · obtain ⟨oc, od, dV, kV, doc, pm, an, cdv, ct, osl, rfl, lk, hcd, hD, hK⟩ := FD.ex
      have hdv : dV = .none := by
        rcases hD with ⟨_, h⟩ | ⟨h, _⟩
        · exact h
        · exact absurd rfl h
      subst hdv
      have hkv : kV = .none := by
        unfold kwNone at k8
        rw [lk] at k8
        cases kV <;> first | rfl | cases k8
      subst hkv
      exact ⟨oc, od, doc, pm, an, cdv, ct, osl, p1, p2, q1, q2, q3, q4, lk, hcd⟩
theorem xs_of {g : Gx} {xs : List Xd} (hCA : g.CA = caOf g.K xs) (hm : ∀ d ∈ xs, g.mg d.name = some (.ref (He.ga g.K d.name))) (I : ∀ d ∈ xs, InitOk g.K d) (h : exB xs g.K = true) :
    XsOk g xs ∧ ∀ p ∈ excBp, ∀ d ∈ xs, ∀ A, g.CA d.name = some A → PySem.W.kitOne g.K (.ref A) (.type p.2) = some (d.sup.contains p.1) := by
  unfold exB at h
  obtain ⟨h, h3⟩ := Bool.and_eq_true_iff.mp h
  obtain ⟨h1, h2⟩ := Bool.and_eq_true_iff.mp h
  refine ⟨⟨fun d hd => ⟨_, xc_of hd hCA (hm d hd) (I d hd) (List.all_eq_true.mp h1 d hd)⟩, fun d hd y hy C C' e1 e2 => ?_⟩, fun p hp d hd A e => ?_⟩
  · rw [hCA, caOf_mem hd] at e1
    rw [hCA, caOf_mem hy] at e2
    cases e1; cases e2
    have := List.all_eq_true.mp (List.all_eq_true.mp h2 d hd) y hy
    obtain ⟨z1, z2⟩ := Bool.and_eq_true_iff.mp this
    exact ⟨of_decide_eq_true z1, of_decide_eq_true z2⟩
  · rw [hCA, caOf_mem hd] at e
    cases e
    exact of_decide_eq_true (List.all_eq_true.mp (List.all_eq_true.mp h3 p hp) d hd)
/-! ### the tables of the defs that make lambdas -/
def tabT (K : PySem.W.Frag) (ds : List DD) : List (Addr × Str) := ds.map fun d => ((He.cT K (d.name, none)).2, (envOfC d.qual d.scope 0 0 .none).qual ++ "<lambda>")
def tabD (ds : List DD) (K : PySem.W.Frag) : Bool := decide ((ds.map fun d => (He.cT K (d.name, none)).2).Nodup)
theorem tab_uniq {K : PySem.W.Frag} {ds : List DD} (h : tabD ds K = true) {d : DD} (hd : d ∈ ds) : ∀ p ∈ tabT K ds, p.1 = (He.cT K (d.name, none)).2 → p.2 = (envOfC d.qual d.scope 0 0 .none).qual ++ "<lambda>" := by
  have nd : (ds.map fun d => (He.cT K (d.name, none)).2).Nodup := of_decide_eq_true h
  intro p hp e
  obtain ⟨d', hd', rfl⟩ := List.mem_map.mp hp
  have : d' = d := by
    obtain ⟨i, hi⟩ := List.mem_iff_getElem?.mp hd
    obtain ⟨j, hj⟩ := List.mem_iff_getElem?.mp hd'
    have li : i < (ds.map fun d => (He.cT K (d.name, none)).2).length := by rw [List.length_map]; exact (List.getElem?_eq_some_iff.mp hi).1
    have q := (List.getElem?_inj (i := i) (j := j) li nd).mp (by rw [List.getElem?_map, List.getElem?_map, hi, hj]; exact congrArg some e.symm)
    subst q
    rw [hi] at hj
    exact (Option.some.inj hj).symm
  rw [this]
end WW
/-! 25: the head's facts, the end. -/
namespace WW
open PySem PySem.Spec PyProof.Rows L2
def isDictO (o : Obj) : Bool := match o.data with
  | .dict _ _ => true
  | _ => false
def sysB (g : Addr → Option Obj) : Bool := match g sysModules with
  | some o => isDictO o
  | none => false
abbrev Al : Type := He.AlX × Bool
def obsW (n : Nat) (fa : List He.Fa) (fn : List He.DefD) (tf : List He.Defn) (ex : PySem.W.Frag → Bool) (g : Addr → Option Obj) : Al := (He.obsX n fa fn [] tf ex g, sysB g)
structure SaysW (fa : List He.Fa) (fn : List He.DefD) (tf : List He.Defn) (ex : PySem.W.Frag → Bool) (w : World) (h : Heap) (K : PySem.W.Frag) : Prop where
  inn : K.In h
  x : He.SaysX fa fn [] tf ex w h K
  sys : ∃ o, h.get? sysModules = some o ∧ isDictO o = true
def hookW (n : Nat) (fa : List He.Fa) (fn : List He.DefD) (tf : List He.Defn) (ex : PySem.W.Frag → Bool) : PySem.W.Hook where
  α := Al
  obs := fun s => obsW n fa fn tf ex s.heap.get?
  val := fun w => (He.valX fn [] w, true)
  says := fun w h => ∃ K : PySem.W.Frag, SaysW fa fn tf ex w h K
  of := fun w s e => by
    have e1 : He.obsX n fa fn [] tf ex s.heap.get? = He.valX fn [] w := congrArg (fun z : Al => z.1) e
    have e2 : sysB s.heap.get? = true := congrArg (fun z : Al => z.2) e
    refine ⟨_, He.frT_in, He.saysX_of e1, ?_⟩
    unfold sysB at e2
    cases q : s.heap.get? sysModules with
    | none => rw [q] at e2; cases e2
    | some o => rw [q] at e2; exact ⟨o, rfl, e2⟩
  keeps := fun _ _ _ ⟨K, c⟩ k => ⟨K, PySem.W.Frag.In.keeps c.inn k, ⟨c.x.t, c.x.more, c.x.hd, c.x.out, fun p hp => k _ _ (c.x.empty p hp)⟩, let ⟨o, h1, h2⟩ := c.sys; ⟨o, k _ _ h1, h2⟩⟩
theorem obsW_eq {n : Nat} {fa : List He.Fa} {fn : List He.DefD} {tf : List He.Defn} {ex : PySem.W.Frag → Bool} {g : Addr → Option Obj} {s : Shared} (h : ∀ a, g a = s.heap.get? a) : obsW n fa fn tf ex g = (hookW n fa fn tf ex).obs s := by
  have e : g = s.heap.get? := funext h
  rw [e]
  rfl
theorem walk_W {l : PySem.W.OpenLaw} {n k : Nat} {q : Program} {loose : List Str} {XP : (Str → Option Value) → Heap → Prop} {YP : World → Heap → Prop} {d : DefRec} (hn : l.most = some n) (hn2 : n ≤ sizeLine) (hdf : d.params.defaults = []) (hr : Room k callerA)
    (F : ∀ (w : World) (mg : Str → Option Value) (fa : Addr) (h : Heap), YP w h → h.Ns mainGlobals mg → mg d.name = some (.ref fa) →
      ∃ (K : PySem.W.Frag) (cs : List (Addr × Addr)) (sp : Sp), K.In h ∧ (∀ p ∈ cs, h.get? p.2 = some tabO) ∧ (∀ p ∈ cs, K.lookup p.2 = none) ∧ (∀ p ∈ cs, PySem.W.CodeHd h p.1 p.2) ∧ (∃ o, h.get? sysModules = some o ∧ isDictO o = true) ∧
        (∀ (H : Hp) (a : Addr) (ns : List Int), ns.length ≤ n → (∀ z ∈ ns, Builtin.Int.intBits z ≤ 1048576) → (∀ p ∈ cs, H p.2 = some (.tbl #[])) → LokAt K [] H a (ns.map V.int) → sp [.ref a] H (fun v _ => v = .bl true) fun _ _ _ => False) ∧
        ∀ bh : Heap, K.In bh → bh.Ns mainGlobals mg → (∃ o, bh.get? sysModules = some o) → (∀ p ∈ cs, LamX.TabB bh mg p.1 p.2) → FnG l.prog w K mg bh k fa sp) :
    PySem.W.WalkO q loose XP YP l.row.toRowW d [] (fun f vs => PySem.call f vs) := by
  refine Att.attach_callB hn hdf fun w s₀ s₁ mg mb fa o pm cd doc a vs ns G Y ho hd hcd hmg hobj hints hlen hbits hg => ?_
  obtain ⟨K, cs, sp, KX, hT, nT, hC, ⟨oS, e1, e2⟩, hsp, hF⟩ := F w mg fa _ Y G.T.g hmg
  refine law_callG KX G.T.g G.T.b G.T.builtins G.T.nolimit hg hT nT hC G.T.bmain hobj hints (Nat.le_trans hlen hn2) hr hF ⟨oS, e1, fun us n z => ?_, fun z => ?_⟩ fun H hH hS => hsp H a ns hlen hbits hH hS
  · unfold isDictO at e2; rw [z] at e2; cases e2
  · unfold isDictO at e2; rw [z] at e2; cases e2
/-! ### one law's text -/
def Tx.fa (T : Tx) : List He.Fa := T.defs.map (fun d => .glo d.name) ++ (T.xs.map (fun d => .glo d.name) ++ (T.free.map .free ++ T.nums.map fun p => .int p.1 p.2))
def Tx.fn (T : Tx) (ini : List He.DefD) : List He.DefD := T.defs.map (fun d => ⟨(d.name, none), d.name, d.qual, d.params, d.body, d.scope, [], []⟩) ++ ini
def Tx.lams (T : Tx) : List DD := T.defs.filter (·.tb)
def Tx.tf (T : Tx) : List He.Defn := T.lams.map fun d => (d.name, none)
def Tx.ex (T : Tx) (K : PySem.W.Frag) : Bool := exB T.xs K && tabD T.lams K
def Tx.g (T : Tx) (K : PySem.W.Frag) (mg : Str → Option Value) : Gx := ⟨K, mg, caOf K T.xs, tabT K T.lams⟩
def IniOk (T : Tx) (ini : List He.DefD) : Prop := ∀ d ∈ T.xs, ∀ f, d.fld = some f → ∃ qual p1 p2 q1 q2 q3 q4, (⟨(d.name, some "__init__"), "__init__", qual, PySem.LowG.iA f p1 p2, PySem.LowG.iB f q1 q2 q3 q4, PySem.LowG.iS f, [], []⟩ : He.DefD) ∈ ini
section
variable {T : Tx} {ini : List He.DefD} {w : World} {h : Heap} {K : PySem.W.Frag} {mg : Str → Option Value}
theorem glo_at (G : h.Ns mainGlobals mg) (c : SaysW T.fa (T.fn ini) T.tf T.ex w h K) {d : DD} (hd : d ∈ T.defs) : mg d.name = some (.ref (He.ga K d.name)) :=
  He.glo_ok c.inn G (He.SaysD.facts c.x.t.d (f := .glo d.name) (List.mem_append_left _ (List.mem_map.mpr ⟨d, hd, rfl⟩)))
theorem txok_of (G : h.Ns mainGlobals mg) (c : SaysW T.fa (T.fn ini) T.tf T.ex w h K) (bs : ∀ d ∈ T.defs, ∃ ps, BOk d ps) (hi : IniOk T ini) : TxOk (T.g K mg) T := by
  obtain ⟨e1, e2⟩ := Bool.and_eq_true_iff.mp c.x.more
  have hx := xs_of (g := T.g K mg) (xs := T.xs) rfl (fun d hd => He.glo_ok c.inn G (He.SaysD.facts c.x.t.d (f := .glo d.name) (List.mem_append_right _ (List.mem_append_left _ (List.mem_map.mpr ⟨d, hd, rfl⟩))))) (fun d hd f hf => by
    obtain ⟨qual, p1, p2, q1, q2, q3, q4, hm⟩ := hi d hd f hf
    obtain ⟨fd, FD⟩ := He.SaysD.defs c.x.t.d (List.mem_append_right _ hm)
    exact ⟨qual, p1, p2, q1, q2, q3, q4, fd, FD⟩) e1
  refine ⟨fun x hx => He.free_ok c.inn G (He.SaysD.facts c.x.t.d (f := .free x) (List.mem_append_right _ (List.mem_append_right _ (List.mem_append_left _ (List.mem_map.mpr ⟨x, hx, rfl⟩))))),
    fun x i hx => He.int_ok c.inn G (He.SaysD.facts c.x.t.d (f := .int x i) (List.mem_append_right _ (List.mem_append_right _ (List.mem_append_right _ (List.mem_map.mpr ⟨(x, i), mem_of_lookup hx, rfl⟩))))), fun d hd => ?_, hx.1, hx.2⟩
  obtain ⟨ps, hb⟩ := bs d hd
  obtain ⟨fd, FD⟩ := He.SaysD.defs c.x.t.d (d := ⟨(d.name, none), d.name, d.qual, d.params, d.body, d.scope, [], []⟩) (List.mem_append_left _ (List.mem_map.mpr ⟨d, hd, rfl⟩))
  exact ⟨_, fd, ps, glo_at G c hd, FD, hb⟩
theorem tabs_of (G : h.Ns mainGlobals mg) (c : SaysW T.fa (T.fn ini) T.tf T.ex w h K) {bh : Heap} (hT : ∀ p ∈ T.tf.map (He.cT K), LamX.TabB bh mg p.1 p.2) : TabsOk (T.g K mg) bh T := by
  obtain ⟨e1, e2⟩ := Bool.and_eq_true_iff.mp c.x.more
  intro d hd htb f fd hm F
  have hl : d ∈ T.lams := List.mem_filter.mpr ⟨hd, htb⟩
  obtain ⟨oc, od, dV, kV, doc, pm, an, cdv, ct, osl, rfl, lk, hcd, _⟩ := F.ex
  obtain ⟨cA, rfl⟩ := He.codeIn_ref hcd
  have hf : f = He.ga K d.name := by
    have := glo_at G c hd
    rw [show mg d.name = some (.ref f) from hm] at this
    cases this; rfl
  subst hf
  have hc : He.codeOf K (d.name, none) = cA := He.codeOf_eq lk rfl
  have ht : (He.cT K (d.name, none)).1 = cA := hc
  refine ⟨cA, (He.cT K (d.name, none)).2, rfl, ?_, ?_, ?_⟩
  · rw [← ht]
    exact hT (He.cT K (d.name, none)) (List.mem_map.mpr ⟨(d.name, none), List.mem_map.mpr ⟨d, hl, rfl⟩, rfl⟩)
  · exact List.mem_map.mpr ⟨d, hl, rfl⟩
  · exact tab_uniq e2 hl
theorem relH0 {H : Hp} (hT : ∀ p ∈ T.tf.map (He.cT K), H p.2 = some (.tbl #[])) : RelH (T.g K mg) Spx.nil [] H [] := by
  refine ⟨rfl, List.nodup_nil, fun r _ _ h1 => by simp at h1, fun p hp => ?_, fun p hp => by simp, fun _ _ _ _ z => (by cases z), fun _ _ _ z => (by cases z)⟩
  obtain ⟨d, hd, rfl⟩ := List.mem_map.mp hp
  exact LamX.TabS.nil (hT (He.cT K (d.name, none)) (List.mem_map.mpr ⟨(d.name, none), List.mem_map.mpr ⟨d, hd, rfl⟩, rfl⟩))
end
theorem walk_T {l : PySem.W.OpenLaw} {T : Tx} {ini : List He.DefD} {q : Program} {loose : List Str} {XP : (Str → Option Value) → Heap → Prop} {d : DefRec} (hn : l.most = some 63) (hdf : d.params.defaults = []) (hr : Room 14 callerA) (hname : d.name = ("law" : Str))
    (bs : ∀ d ∈ T.defs, ∃ ps, BOk d ps) (hi : IniOk T ini) (hlaw : ("law" : Str) ∈ T.names) (spec : ∀ ns : List Int, ns.length ≤ 63 → (∀ z ∈ ns, Builtin.Int.intBits z ≤ 1048576) → ∃ h, callE T 14 "law" [.lok (ns.map D.int)] [] = .ok (.bl true) h) :
    PySem.W.WalkO q loose XP (hookW 5 T.fa (T.fn ini) T.tf T.ex).says l.row.toRowW d [] (fun f vs => PySem.call f vs) := by
  refine walk_W (n := 63) (k := 14) hn (by decide) hdf hr fun w mg fa h Y G hmg0 => ?_
  obtain ⟨K, c⟩ := Y
  rw [hname] at hmg0
  have key : ∀ p ∈ T.tf.map (He.cT K), ∃ p' ∈ T.tf, p = He.cT K p' := fun p hp => by
    obtain ⟨p', h1, h2⟩ := List.mem_map.mp hp
    exact ⟨p', h1, h2.symm⟩
  refine ⟨K, T.tf.map (He.cT K), spE (T.g K mg) (callE T 14 "law"), c.inn, fun p hp => ?_, fun p hp => ?_, fun p hp => ?_, c.sys, fun H a ns hl hbt hT hS => ?_, fun bh _ _ hs hT => ?_⟩
  · obtain ⟨p', h1, rfl⟩ := key p hp
    exact c.x.empty p' h1
  · obtain ⟨p', h1, rfl⟩ := key p hp
    exact c.x.out p' h1
  · obtain ⟨p', h1, rfl⟩ := key p hp
    exact PySem.W.codeHd_of_K c.inn (c.x.hd p' h1)
  · obtain ⟨hh, e⟩ := spec ns hl hbt
    refine ⟨[], [], [.lok (ns.map D.int)], relH0 hT, .cons (.lok hS (RDs.ints ns)) .nil, ?_⟩
    rw [e]
    intro M' H' v _ _ r
    cases r
    rfl
  · obtain ⟨f, h1, h2, h3⟩ := (gok_all (Pg := l.prog) (wd := w) (txok_of G c bs hi) hs (tabs_of G c hT) 14).defs "law" hlaw
    rw [show mg "law" = some (.ref f) from h1] at hmg0
    cases hmg0
    exact h3
end WW
/-! 26: how the readings are reckoned with. -/
namespace WW
open PySem
theorem nrfl {p q : Prop} (h : p = q) : p = q := h
abbrev XP := Exn → Hh → Prop
def rpO {α : Type} (o : Out α) (Q : α → Hh → Prop) (X : XP) : Prop := match o with
  | .ok a h => Q a h
  | .exc e h => X e h
  | .bad => False
structure Ks where
  nx : Lc → Hh → Prop
  rt : D → Hh → Prop
  bk : Lc → Hh → Prop
  ct : Lc → Hh → Prop
  ex : Exn → Lc → Hh → Prop
def rpS (o : SOut) (K : Ks) : Prop := match o with
  | .nx l h => K.nx l h
  | .rt v h => K.rt v h
  | .bk l h => K.bk l h
  | .ct l h => K.ct l h
  | .exc e l h => K.ex e l h
  | .bad => False
/-- the end of a whole def's body -/
def Ks.body (Q : D → Hh → Prop) (X : XP) : Ks := ⟨fun _ h => Q .non h, Q, fun _ _ => False, fun _ _ => False, fun e _ h => X e h⟩
section
variable {α β : Type} {Q : α → Hh → Prop} {X : XP} {l : Lc} {h : Hh}
theorem rrpO_mono {o : Out α} {Q Q' : α → Hh → Prop} {X X' : XP} (w : rpO o Q X) (q : ∀ a h, Q a h → Q' a h) (x : ∀ e h, X e h → X' e h) : rpO o Q' X' := by
  cases o with
  | ok a h => exact q _ _ w
  | exc e h => exact x _ _ w
  | bad => exact w
theorem rrpO_ok {a : α} : rpO (.ok a h) Q X = Q a h := nrfl rfl
theorem rrpO_exc {e : Exn} : rpO (.exc e h) Q X = X e h := nrfl rfl
theorem rrpO_bad : rpO .bad Q X = False := nrfl rfl
theorem r_w_ret {a : α} : rpO (mRet a l h) Q X = Q a h := nrfl rfl
theorem r_w_bad : rpO ((mBad : ME α) l h) Q X = False := nrfl rfl
theorem r_w_bind {m : ME β} {f : β → ME α} : rpO (mBind m f l h) Q X = rpO (m l h) (fun b h1 => rpO (f b l h1) Q X) X := by
  unfold mBind
  cases m l h <;> rfl
end
section
variable {Q : D → Hh → Prop} {X : XP} {l : Lc} {h : Hh}
theorem r_w_var {i : Nat} : rpO (mVar i l h) Q X = match l[i]? with
    | some (some d) => Q d h
    | _ => False := by
  unfold mVar
  split <;> simp_all [rpO]
theorem r_w_c {d : D} : rpO (mC d l h) Q X = Q d h := nrfl rfl
theorem r_w_dic0 : rpO (mDic0 l h) Q X = Q (.dic []) h := nrfl rfl
def getO {α : Type} (o : Option α) (P : α → Prop) : Prop := match o with
  | some a => P a
  | none => False
theorem getO_some {α : Type} {a : α} {P : α → Prop} : getO (some a) P = P a := nrfl rfl
theorem getO_none {α : Type} {P : α → Prop} : getO none P = False := nrfl rfl
theorem getO_of {α : Type} {o : Option α} {a : α} {P : α → Prop} (e : o = some a) (h : P a) : getO o P := by rw [e]; exact h
theorem r_w_v2 {f : D → D → Option D} {a b : ME D} : rpO (mV2 f a b l h) Q X = rpO (a l h) (fun x h1 => rpO (b l h1) (fun y h2 => getO (f (vw h2 x) (vw h2 y)) fun d => Q d h2) X) X := by
  unfold mV2
  rw [r_w_bind]
  congr 1
  funext x h1
  rw [r_w_bind]
  congr 1
  funext y h2
  cases f (vw h2 x) (vw h2 y) <;> rfl
theorem r_w_bin {op : Operator} {a b : ME D} : rpO (mBin op a b l h) Q X = rpO (a l h) (fun x h1 => rpO (b l h1) (fun y h2 => getO (binD op (vw h2 x) (vw h2 y)) fun d => Q d h2) X) X := r_w_v2
theorem r_w_cmp {op : CmpOp} {a b : ME D} : rpO (mCmp op a b l h) Q X = rpO (a l h) (fun x h1 => rpO (b l h1) (fun y h2 => getO (cmpD op (vw h2 x) (vw h2 y)) fun d => Q (.bl d) h2) X) X := by
  unfold mCmp
  rw [r_w_v2]
  congr 1
  funext x h1
  congr 1
  funext y h2
  cases cmpD op (vw h2 x) (vw h2 y) <;> rfl
theorem r_w_ix {a b : ME D} : rpO (mIx a b l h) Q X = rpO (a l h) (fun x h1 => rpO (b l h1) (fun y h2 => getO (ixD (vw h2 x) (vw h2 y)) fun d => Q d h2) X) X := r_w_v2
theorem r_w_truV {x : D} {Q : Bool → Hh → Prop} : rpO (mTruV x l h) Q X = getO (truD (vw h x)) fun b => Q b h := by
  unfold mTruV
  cases truD (vw h x) <;> rfl
theorem r_w_tru {a : ME D} {Q : Bool → Hh → Prop} : rpO (mTru a l h) Q X = rpO (a l h) (fun x h1 => getO (truD (vw h1 x)) fun b => Q b h1) X := by
  unfold mTru
  rw [r_w_bind]
  congr 1
  funext x h1
  exact r_w_truV
theorem r_w_notV {a : ME D} : rpO (mNotV a l h) Q X = rpO (a l h) (fun x h1 => getO (truD (vw h1 x)) fun b => Q (.bl (!b)) h1) X := by
  unfold mNotV
  rw [r_w_bind]
  congr 1
  funext x h1
  rw [r_w_bind, r_w_truV]
  rfl
theorem r_w_andV {a b : ME D} : rpO (mAndV a b l h) Q X = rpO (a l h) (fun x h1 => getO (truD (vw h1 x)) fun t => if t = true then rpO (b l h1) Q X else Q x h1) X := by
  unfold mAndV
  rw [r_w_bind]
  congr 1
  funext x h1
  rw [r_w_bind, r_w_truV]
  congr 1
  funext t
  split <;> rfl
theorem r_w_orV {a b : ME D} : rpO (mOrV a b l h) Q X = rpO (a l h) (fun x h1 => getO (truD (vw h1 x)) fun t => if t = true then Q x h1 else rpO (b l h1) Q X) X := by
  unfold mOrV
  rw [r_w_bind]
  congr 1
  funext x h1
  rw [r_w_bind, r_w_truV]
  congr 1
  funext t
  split <;> rfl
theorem r_w_ifE {t : ME Bool} {a b : ME D} : rpO (mIfE t a b l h) Q X = rpO (t l h) (fun c h1 => if c = true then rpO (a l h1) Q X else rpO (b l h1) Q X) X := by
  unfold mIfE
  rw [r_w_bind]
  congr 1
  funext c h1
  split <;> rfl
theorem r_w_notT {t : ME Bool} {Q : Bool → Hh → Prop} : rpO (mNotT t l h) Q X = rpO (t l h) (fun c h1 => Q (!c) h1) X := by
  unfold mNotT
  rw [r_w_bind]
  rfl
theorem r_w_andT {t u : ME Bool} {Q : Bool → Hh → Prop} : rpO (mAndT t u l h) Q X = rpO (t l h) (fun c h1 => if c = true then rpO (u l h1) Q X else Q false h1) X := by
  unfold mAndT
  rw [r_w_bind]
  congr 1
  funext c h1
  split <;> rfl
theorem r_w_orT {t u : ME Bool} {Q : Bool → Hh → Prop} : rpO (mOrT t u l h) Q X = rpO (t l h) (fun c h1 => if c = true then Q true h1 else rpO (u l h1) Q X) X := by
  unfold mOrT
  rw [r_w_bind]
  congr 1
  funext c h1
  split <;> rfl
def isBl (d : D) (P : Bool → Prop) : Prop := match d with
  | .bl b => P b
  | _ => False
theorem isBl_bl {b : Bool} {P : Bool → Prop} : isBl (.bl b) P = P b := nrfl rfl
theorem r_w_blT {a : ME D} {Q : Bool → Hh → Prop} : rpO (mBlT a l h) Q X = rpO (a l h) (fun x h1 => isBl x fun b => Q b h1) X := by
  unfold mBlT
  rw [r_w_bind]
  congr 1
  funext x h1
  cases x <;> rfl
theorem r_w_chain {op op' : CmpOp} {a b c : ME D} : rpO (mChain op op' a b c l h) Q X = rpO (a l h) (fun x h1 => rpO (b l h1) (fun y h2 => getO (cmpD op (vw h2 x) (vw h2 y)) fun t =>
    if t = true then rpO (c l h2) (fun z h3 => getO (cmpD op' (vw h3 y) (vw h3 z)) fun r => Q (.bl r) h3) X else Q (.bl false) h2) X) X := by
  unfold mChain
  rw [r_w_bind]
  congr 1
  funext x h1
  rw [r_w_bind]
  congr 1
  funext y h2
  cases cmpD op (vw h2 x) (vw h2 y) with
  | none => rfl
  | some t =>
    cases t with
    | false => rfl
    | true =>
      show rpO (chEnd op' y c l h2) Q X = _
      unfold chEnd
      rw [r_w_bind]
      show _ = rpO (c l h2) _ X
      congr 1
      funext z h3
      cases cmpD op' (vw h3 y) (vw h3 z) <;> rfl
theorem r_w_nil {Q : List D → Hh → Prop} : rpO (mNil l h) Q X = Q [] h := nrfl rfl
theorem r_w_cons {a : ME D} {as : ME (List D)} {Q : List D → Hh → Prop} : rpO (mCons a as l h) Q X = rpO (a l h) (fun x h1 => rpO (as l h1) (fun xs h2 => Q (x :: xs) h2) X) X := by
  unfold mCons
  rw [r_w_bind]
  congr 1
  funext x h1
  rw [r_w_bind]
  rfl
def szOk (n : Nat) : Prop := n ≤ sizeLine
theorem szOk_of {n : Nat} (h : n ≤ 1000000) : szOk n := Nat.le_trans h (by decide +kernel)
theorem r_w_tup {as : ME (List D)} : rpO (mTup as l h) Q X = rpO (as l h) (fun xs h1 => szOk xs.length ∧ Q (.tup xs) h1) X := by
  unfold mTup
  rw [r_w_bind]
  congr 1
  funext xs h1
  split
  · rename_i hh; exact propext ⟨fun z => ⟨hh, z⟩, fun z => z.2⟩
  · rename_i hh; exact propext ⟨fun z => z.elim, fun z => hh z.1⟩
theorem r_w_lst {as : ME (List D)} {Q : List D → Hh → Prop} : rpO (mLst as l h) Q X = rpO (as l h) (fun xs h1 => szOk xs.length ∧ Q xs h1) X := by
  unfold mLst
  rw [r_w_bind]
  congr 1
  funext xs h1
  split
  · rename_i hh; exact propext ⟨fun z => ⟨hh, z⟩, fun z => z.2⟩
  · rename_i hh; exact propext ⟨fun z => z.elim, fun z => hh z.1⟩
theorem r_w_fz {m : ME (List D)} : rpO (mFz m l h) Q X = rpO (m l h) (fun xs h1 => Q (.lst xs) h1) X := by
  unfold mFz
  rw [r_w_bind]
  rfl
theorem r_w_new {m : ME (List D)} : rpO (mNew m l h) Q X = rpO (m l h) (fun xs h1 => Q (.ref h1.length) (h1 ++ [.lst xs])) X := by
  unfold mNew
  rw [r_w_bind]
  rfl
def isInt (d : D) (P : Int → Prop) : Prop := match d with
  | .int i => P i
  | _ => False
theorem isInt_int {i : Int} {P : Int → Prop} : isInt (.int i) P = P i := nrfl rfl
theorem r_w_neg {a : ME D} : rpO (mNeg a l h) Q X = rpO (a l h) (fun x h1 => isInt x fun i => Q (.int (-i)) h1) X := by
  unfold mNeg
  rw [r_w_bind]
  congr 1
  funext x h1
  cases x <;> rfl
theorem r_w_noP {Q : Option Int → Hh → Prop} : rpO (mNoP l h) Q X = Q none h := nrfl rfl
theorem r_w_P {a : ME D} {Q : Option Int → Hh → Prop} : rpO (mP a l h) Q X = rpO (a l h) (fun x h1 => isInt x fun i => Q (some i) h1) X := by
  unfold mP
  rw [r_w_bind]
  congr 1
  funext x h1
  cases x <;> rfl
theorem r_w_sl {a : ME D} {lo hi : ME (Option Int)} : rpO (mSl a lo hi l h) Q X = rpO (a l h) (fun x h1 => rpO (lo l h1) (fun i h2 => rpO (hi l h2) (fun j h3 => getO (slD (vw h3 x) i j) fun d => Q d h3) X) X) X := by
  unfold mSl
  rw [r_w_bind]
  congr 1
  funext x h1
  rw [r_w_bind]
  congr 1
  funext i h2
  rw [r_w_bind]
  congr 1
  funext j h3
  cases slD (vw h3 x) i j <;> rfl
def isSeq (d : D) (P : D → Prop) : Prop := match d with
  | .tup xs => P (.tup xs.reverse)
  | .lst xs => P (.lst xs.reverse)
  | _ => False
theorem r_w_rev {a : ME D} : rpO (mRev a l h) Q X = rpO (a l h) (fun x h1 => isSeq (vw h1 x) fun d => Q d h1) X := by
  unfold mRev
  rw [r_w_bind]
  congr 1
  funext x h1
  cases vw h1 x <;> rfl
theorem r_w_bi {f : List D → Option D} {as : ME (List D)} : rpO (mBi f as l h) Q X = rpO (as l h) (fun xs h1 => getO (f (xs.map (vw h1))) fun d => Q d h1) X := by
  unfold mBi
  rw [r_w_bind]
  congr 1
  funext xs h1
  cases f (xs.map (vw h1)) <;> rfl
theorem r_w_isT {T : String} {a : ME D} : rpO (mIsT T a l h) Q X = rpO (a l h) (fun x h1 => getO (tyD (vw h1 x)) fun t => Q (.bl (isTy T t)) h1) X := by
  unfold mIsT
  rw [r_w_bind]
  congr 1
  funext x h1
  cases tyD (vw h1 x) <;> rfl
theorem r_w_call {f : List D → Hh → Out D} {as : ME (List D)} : rpO (mCall f as l h) Q X = rpO (as l h) (fun xs h1 => rpO (f xs h1) Q X) X := by
  unfold mCall
  rw [r_w_bind]
def seqO (d : D) (P : List D → Prop) : Prop := match d with
  | .tup xs => P xs
  | .lst xs => P xs
  | .lok xs => P xs
  | _ => False
theorem r_w_list {a : ME D} {Q : List D → Hh → Prop} : rpO (mList a l h) Q X = rpO (a l h) (fun x h1 => seqO (vw h1 x) fun xs => Q xs h1) X := by
  unfold mList
  rw [r_w_bind]
  congr 1
  funext x h1
  cases vw h1 x <;> rfl
theorem r_w_listR {a : ME D} {Q : List D → Hh → Prop} : rpO (mListR a l h) Q X = rpO (a l h) (fun x h1 => getO (rngL x) fun xs => Q xs h1) X := by
  unfold mListR
  rw [r_w_bind]
  congr 1
  funext x h1
  unfold mOpt
  cases rngL x <;> rfl
def lst2 (x y : D) (P : List D → Prop) : Prop := match x, y with
  | .lst xs, .lst ys => xs.length + ys.length ≤ sizeLine ∧ P (xs ++ ys)
  | _, _ => False
theorem r_w_cat {a b : ME D} {Q : List D → Hh → Prop} : rpO (catL a b l h) Q X = rpO (a l h) (fun x h1 => rpO (b l h1) (fun y h2 => lst2 (vw h2 x) (vw h2 y) fun zs => Q zs h2) X) X := by
  unfold catL
  rw [r_w_bind]
  congr 1
  funext x h1
  rw [r_w_bind]
  congr 1
  funext y h2
  generalize vw h2 x = u
  generalize vw h2 y = v
  cases u with
  | lst xs =>
    cases v with
    | lst ys =>
      dsimp only [lst2]
      split
      · rename_i hh; exact propext ⟨fun z => ⟨hh, z⟩, fun z => z.2⟩
      · rename_i hh; exact propext ⟨fun z => z.elim, fun z => hh z.1⟩
    | _ => rfl
  | _ => cases v <;> rfl
theorem r_w_mth {T : String} {f : MF} {mo : ME D} {ms : ME (List D)} : rpO (mMth T f mo ms l h) Q X = rpO (mo l h) (fun x h1 => tyM T (vw h1 x) = true ∧ rpO (ms l h1) (fun xs h2 => getO (f x xs h2) fun p => Q p.1 p.2) X) X := by
  unfold mMth
  rw [r_w_bind]
  congr 1
  funext x h1
  split
  · rename_i ht
    rw [r_w_bind]
    refine propext ⟨fun z => ⟨ht, ?_⟩, fun z => ?_⟩
    · refine rrpO_mono z (fun xs h2 w => ?_) fun _ _ w => w
      cases e : f x xs h2 with
      | none => rw [e] at w; exact w
      | some p => rw [e] at w; exact w
    · refine rrpO_mono z.2 (fun xs h2 w => ?_) fun _ _ w => w
      cases e : f x xs h2 with
      | none => rw [e] at w; exact w.elim
      | some p => rw [e] at w; exact w
  · rename_i ht; exact propext ⟨fun z => z.elim, fun z => ht z.1⟩
end
section
variable {K : Ks} {l : Lc} {h : Hh}
theorem r_s_next : rpS (sNext l h) K = K.nx l h := nrfl rfl
theorem r_s_bad : rpS (sBad l h) K = False := nrfl rfl
theorem r_s_break : rpS (sBreak l h) K = K.bk l h := nrfl rfl
theorem r_s_cont : rpS (sCont l h) K = K.ct l h := nrfl rfl
theorem r_s_retN : rpS (sRetN l h) K = K.rt .non h := nrfl rfl
theorem r_s_seq {a b : MS} : rpS (sSeq a b l h) K = rpS (a l h) { K with nx := fun l h => rpS (b l h) K } := by
  unfold sSeq
  cases a l h <;> rfl
theorem r_s_bind {α : Type} {m : ME α} {f : α → MS} : rpS (sBind m f l h) K = rpO (m l h) (fun a h1 => rpS (f a l h1) K) (fun e h1 => K.ex e l h1) := by
  unfold sBind
  cases m l h <;> rfl
theorem r_s_drop {m : ME D} : rpS (sDrop m l h) K = rpO (m l h) (fun _ h1 => K.nx l h1) (fun e h1 => K.ex e l h1) := r_s_bind
theorem r_s_ret {m : ME D} : rpS (sRet m l h) K = rpO (m l h) (fun d h1 => K.rt d h1) (fun e h1 => K.ex e l h1) := r_s_bind
theorem r_s_if {t : ME Bool} {a b : MS} : rpS (sIf t a b l h) K = rpO (t l h) (fun c h1 => if c = true then rpS (a l h1) K else rpS (b l h1) K) (fun e h1 => K.ex e l h1) := by
  unfold sIf
  rw [r_s_bind]
  congr 1
  funext c h1
  split <;> rfl
theorem r_s_asg {m : ME D} {tg : MG} : rpS (sAsg m tg l h) K = rpO (m l h) (fun d h1 => rpO (tg d l h1) (fun l' h2 => K.nx l' h2) (fun e h2 => K.ex e l h2)) (fun e h1 => K.ex e l h1) := by
  unfold sAsg
  rw [r_s_bind]
  congr 1
  funext d h1
  unfold sTo
  cases tg d l h1 <;> rfl
theorem r_g_nm {i : Nat} {d : D} {Q : Lc → Hh → Prop} {X : XP} : rpO (gNm i d l h) Q X = Q (l.set i (some d)) h := nrfl rfl
theorem r_s_set {m : ME D} {i : Nat} : rpS (sAsg m (gNm i) l h) K = rpO (m l h) (fun d h1 => K.nx (l.set i (some d)) h1) (fun e h1 => K.ex e l h1) := r_s_asg
theorem r_gs_nil {d : List D} {Q : Lc → Hh → Prop} {X : XP} : rpO (gsNil d l h) Q X = (d = [] ∧ Q l h) := by
  cases d with
  | nil => exact propext ⟨fun z => ⟨rfl, z⟩, fun z => z.2⟩
  | cons a b => exact propext ⟨fun z => z.elim, fun z => by cases z.1⟩
def ctorL (d : List D) (P : D → List D → Prop) : Prop := match d with
  | [] => False
  | x :: xs => P x xs
theorem r_gs_cons {a : MG} {b : MGs} {d : List D} {Q : Lc → Hh → Prop} {X : XP} : rpO (gsCons a b d l h) Q X = ctorL d fun x xs => rpO (a x l h) (fun l1 h1 => rpO (b xs l1 h1) Q fun _ _ => False) fun _ _ => False := by
  cases d with
  | nil => rfl
  | cons x xs =>
    unfold gsCons ctorL
    dsimp only
    cases a x l h with
    | ok l1 h1 =>
      dsimp only
      show _ = rpO (b xs l1 h1) Q fun _ _ => False
      cases b xs l1 h1 <;> rfl
    | exc e h1 => rfl
    | bad => rfl
def tupN (d : D) (n : Nat) (P : List D → Prop) : Prop := match d with
  | .tup xs => xs.length = n ∧ P xs
  | _ => False
def seqN (d : D) (n : Nat) (P : List D → Prop) : Prop := match d with
  | .tup xs => xs.length = n ∧ P xs
  | .lst xs => xs.length = n ∧ P xs
  | _ => False
theorem ite_and {p : Prop} [Decidable p] {A : Prop} : (if p then A else False) = (p ∧ A) := by
  split
  · rename_i h; exact propext ⟨fun z => ⟨h, z⟩, fun z => z.2⟩
  · rename_i h; exact propext ⟨fun z => z.elim, fun z => h z.1⟩
theorem r_g_tp {n : Nat} {a : MGs} {d : D} {Q : Lc → Hh → Prop} {X : XP} : rpO (gTp n a d l h) Q X = tupN d n fun xs => rpO (a xs l h) Q X := by
  unfold gTp tupN
  cases d with
  | tup xs =>
    dsimp only
    by_cases hn : xs.length = n
    · rw [if_pos hn]; exact propext ⟨fun z => ⟨hn, z⟩, fun z => z.2⟩
    · rw [if_neg hn]; exact propext ⟨fun z => z.elim, fun z => hn z.1⟩
  | _ => rfl
theorem r_g_sq {n : Nat} {a : MGs} {d : D} {Q : Lc → Hh → Prop} {X : XP} : rpO (gSq n a d l h) Q X = seqN (vw h d) n fun xs => rpO (a xs l h) Q X := by
  unfold gSq seqN
  generalize vw h d = u
  cases u with
  | tup xs =>
    dsimp only
    by_cases hn : xs.length = n
    · rw [if_pos hn]; exact propext ⟨fun z => ⟨hn, z⟩, fun z => z.2⟩
    · rw [if_neg hn]; exact propext ⟨fun z => z.elim, fun z => hn z.1⟩
  | lst xs =>
    dsimp only
    by_cases hn : xs.length = n
    · rw [if_pos hn]; exact propext ⟨fun z => ⟨hn, z⟩, fun z => z.2⟩
    · rw [if_neg hn]; exact propext ⟨fun z => z.elim, fun z => hn z.1⟩
  | _ => rfl
/-- o[i] = v -/
def setR (o i v : D) (h : Hh) (P : Hh → Prop) : Prop := match o, i with
  | .ref r, .int k => (match h[r]? with
    | some (.lst xs) => getO (L2.ixN xs.length k) fun j => P (h.set r (.lst (xs.set j v)))
    | none => False)
  | _, _ => False
theorem r_g_ix {mo mi : ME D} {d : D} {Q : Lc → Hh → Prop} {X : XP} : rpO (gIx mo mi d l h) Q X = rpO (mo l h) (fun o h1 => rpO (mi l h1) (fun i h2 => setR o i d h2 fun h3 => Q l h3) X) X := by
  unfold gIx
  rw [r_w_bind]
  congr 1
  funext o h1
  rw [r_w_bind]
  congr 1
  funext i h2
  unfold setD setR
  cases o with
  | ref r =>
    cases i with
    | int k =>
      dsimp only
      cases h2[r]? with
      | none => rfl
      | some c =>
        cases c with
        | lst xs =>
          dsimp only
          cases L2.ixN xs.length k <;> rfl
    | _ => rfl
  | _ => cases i <;> rfl
def two (xs : List D) (P : D → D → Prop) : Prop := match xs with
  | [x, y] => P x y
  | _ => False
def three (xs : List D) (P : D → D → D → Prop) : Prop := match xs with
  | [x, y, z] => P x y z
  | _ => False
theorem two_eq {x y : D} {P : D → D → Prop} : two [x, y] P = P x y := nrfl rfl
theorem three_eq {x y z : D} {P : D → D → D → Prop} : three [x, y, z] P = P x y z := nrfl rfl
theorem r_s_par {i j : Nat} {ms : ME (List D)} : rpS (sPar i j ms l h) K = rpO (ms l h) (fun xs h1 => two xs fun x y => K.nx ((l.set i (some x)).set j (some y)) h1) (fun e h1 => K.ex e l h1) := by
  unfold sPar
  rw [r_s_bind]
  congr 1
  funext xs h1
  rcases xs with _ | ⟨x, _ | ⟨y, _ | ⟨z, t⟩⟩⟩ <;> rfl
theorem r_s_par3 {i j n : Nat} {ms : ME (List D)} : rpS (sPar3 i j n ms l h) K = rpO (ms l h) (fun xs h1 => three xs fun x y z => K.nx (((l.set i (some x)).set j (some y)).set n (some z)) h1) (fun e h1 => K.ex e l h1) := by
  unfold sPar3
  rw [r_s_bind]
  congr 1
  funext xs h1
  rcases xs with _ | ⟨x, _ | ⟨y, _ | ⟨z, _ | ⟨u, t⟩⟩⟩⟩ <;> rfl
end
end WW
/-! 26b: the same, in a form that is not unfolded. -/
namespace WW
open PySem
structure wpO {α : Type} (o : Out α) (Q : α → Hh → Prop) (X : XP) : Prop where
  run : rpO o Q X
structure wpS (o : SOut) (K : Ks) : Prop where
  run : rpS o K
theorem wpO_def {α : Type} : @wpO α = @rpO α := by funext o Q X; exact propext ⟨fun h => h.run, fun h => ⟨h⟩⟩
theorem wpS_def : wpS = rpS := by funext o K; exact propext ⟨fun h => h.run, fun h => ⟨h⟩⟩
section
variable {α β : Type} {Q : α → Hh → Prop} {X : XP} {l : Lc} {h : Hh}
theorem wpO_mono {o : Out α} {Q Q' : α → Hh → Prop} {X X' : XP} (w : wpO o Q X) (q : ∀ a h, Q a h → Q' a h) (x : ∀ e h, X e h → X' e h) : wpO o Q' X' := by
  rw [wpO_def] at w ⊢
  exact rrpO_mono w q x
theorem wpO_ok {a : α} : wpO (.ok a h) Q X = Q a h := by
  simp only [wpO_def, wpS_def]
  exact rrpO_ok
theorem wpO_exc {e : Exn} : wpO (.exc e h) Q X = X e h := by
  simp only [wpO_def, wpS_def]
  exact rrpO_exc
theorem wpO_bad : wpO .bad Q X = False := by
  simp only [wpO_def, wpS_def]
  exact rrpO_bad
theorem w_ret {a : α} : wpO (mRet a l h) Q X = Q a h := by
  simp only [wpO_def, wpS_def]
  exact r_w_ret
theorem w_bad : wpO ((mBad : ME α) l h) Q X = False := by
  simp only [wpO_def, wpS_def]
  exact r_w_bad
theorem w_bind {m : ME β} {f : β → ME α} : wpO (mBind m f l h) Q X = wpO (m l h) (fun b h1 => wpO (f b l h1) Q X) X := by
  simp only [wpO_def, wpS_def]
  exact r_w_bind
end
section
variable {Q : D → Hh → Prop} {X : XP} {l : Lc} {h : Hh}
theorem w_var {i : Nat} : wpO (mVar i l h) Q X = match l[i]? with
    | some (some d) => Q d h
    | _ => False := by
  simp only [wpO_def, wpS_def]
  exact r_w_var
theorem w_c {d : D} : wpO (mC d l h) Q X = Q d h := by
  simp only [wpO_def, wpS_def]
  exact r_w_c
theorem w_dic0 : wpO (mDic0 l h) Q X = Q (.dic []) h := by
  simp only [wpO_def, wpS_def]
  exact r_w_dic0
theorem w_v2 {f : D → D → Option D} {a b : ME D} : wpO (mV2 f a b l h) Q X = wpO (a l h) (fun x h1 => wpO (b l h1) (fun y h2 => getO (f (vw h2 x) (vw h2 y)) fun d => Q d h2) X) X := by
  simp only [wpO_def, wpS_def]
  exact r_w_v2
theorem w_bin {op : Operator} {a b : ME D} : wpO (mBin op a b l h) Q X = wpO (a l h) (fun x h1 => wpO (b l h1) (fun y h2 => getO (binD op (vw h2 x) (vw h2 y)) fun d => Q d h2) X) X := by
  simp only [wpO_def, wpS_def]
  exact r_w_bin
theorem w_cmp {op : CmpOp} {a b : ME D} : wpO (mCmp op a b l h) Q X = wpO (a l h) (fun x h1 => wpO (b l h1) (fun y h2 => getO (cmpD op (vw h2 x) (vw h2 y)) fun d => Q (.bl d) h2) X) X := by
  simp only [wpO_def, wpS_def]
  exact r_w_cmp
theorem w_ix {a b : ME D} : wpO (mIx a b l h) Q X = wpO (a l h) (fun x h1 => wpO (b l h1) (fun y h2 => getO (ixD (vw h2 x) (vw h2 y)) fun d => Q d h2) X) X := by
  simp only [wpO_def, wpS_def]
  exact r_w_ix
theorem w_truV {x : D} {Q : Bool → Hh → Prop} : wpO (mTruV x l h) Q X = getO (truD (vw h x)) fun b => Q b h := by
  simp only [wpO_def, wpS_def]
  exact r_w_truV
theorem w_tru {a : ME D} {Q : Bool → Hh → Prop} : wpO (mTru a l h) Q X = wpO (a l h) (fun x h1 => getO (truD (vw h1 x)) fun b => Q b h1) X := by
  simp only [wpO_def, wpS_def]
  exact r_w_tru
theorem w_notV {a : ME D} : wpO (mNotV a l h) Q X = wpO (a l h) (fun x h1 => getO (truD (vw h1 x)) fun b => Q (.bl (!b)) h1) X := by
  simp only [wpO_def, wpS_def]
  exact r_w_notV
theorem w_andV {a b : ME D} : wpO (mAndV a b l h) Q X = wpO (a l h) (fun x h1 => getO (truD (vw h1 x)) fun t => if t = true then wpO (b l h1) Q X else Q x h1) X := by
  simp only [wpO_def, wpS_def]
  exact r_w_andV
theorem w_orV {a b : ME D} : wpO (mOrV a b l h) Q X = wpO (a l h) (fun x h1 => getO (truD (vw h1 x)) fun t => if t = true then Q x h1 else wpO (b l h1) Q X) X := by
  simp only [wpO_def, wpS_def]
  exact r_w_orV
theorem w_ifE {t : ME Bool} {a b : ME D} : wpO (mIfE t a b l h) Q X = wpO (t l h) (fun c h1 => if c = true then wpO (a l h1) Q X else wpO (b l h1) Q X) X := by
  simp only [wpO_def, wpS_def]
  exact r_w_ifE
theorem w_notT {t : ME Bool} {Q : Bool → Hh → Prop} : wpO (mNotT t l h) Q X = wpO (t l h) (fun c h1 => Q (!c) h1) X := by
  simp only [wpO_def, wpS_def]
  exact r_w_notT
theorem w_andT {t u : ME Bool} {Q : Bool → Hh → Prop} : wpO (mAndT t u l h) Q X = wpO (t l h) (fun c h1 => if c = true then wpO (u l h1) Q X else Q false h1) X := by
  simp only [wpO_def, wpS_def]
  exact r_w_andT
theorem w_orT {t u : ME Bool} {Q : Bool → Hh → Prop} : wpO (mOrT t u l h) Q X = wpO (t l h) (fun c h1 => if c = true then Q true h1 else wpO (u l h1) Q X) X := by
  simp only [wpO_def, wpS_def]
  exact r_w_orT
theorem w_blT {a : ME D} {Q : Bool → Hh → Prop} : wpO (mBlT a l h) Q X = wpO (a l h) (fun x h1 => isBl x fun b => Q b h1) X := by
  simp only [wpO_def, wpS_def]
  exact r_w_blT
theorem w_chain {op op' : CmpOp} {a b c : ME D} : wpO (mChain op op' a b c l h) Q X = wpO (a l h) (fun x h1 => wpO (b l h1) (fun y h2 => getO (cmpD op (vw h2 x) (vw h2 y)) fun t =>
    if t = true then wpO (c l h2) (fun z h3 => getO (cmpD op' (vw h3 y) (vw h3 z)) fun r => Q (.bl r) h3) X else Q (.bl false) h2) X) X := by
  simp only [wpO_def, wpS_def]
  exact r_w_chain
theorem w_nil {Q : List D → Hh → Prop} : wpO (mNil l h) Q X = Q [] h := by
  simp only [wpO_def, wpS_def]
  exact r_w_nil
theorem w_cons {a : ME D} {as : ME (List D)} {Q : List D → Hh → Prop} : wpO (mCons a as l h) Q X = wpO (a l h) (fun x h1 => wpO (as l h1) (fun xs h2 => Q (x :: xs) h2) X) X := by
  simp only [wpO_def, wpS_def]
  exact r_w_cons
theorem w_tup {as : ME (List D)} : wpO (mTup as l h) Q X = wpO (as l h) (fun xs h1 => szOk xs.length ∧ Q (.tup xs) h1) X := by
  simp only [wpO_def, wpS_def]
  exact r_w_tup
theorem w_lst {as : ME (List D)} {Q : List D → Hh → Prop} : wpO (mLst as l h) Q X = wpO (as l h) (fun xs h1 => szOk xs.length ∧ Q xs h1) X := by
  simp only [wpO_def, wpS_def]
  exact r_w_lst
theorem w_fz {m : ME (List D)} : wpO (mFz m l h) Q X = wpO (m l h) (fun xs h1 => Q (.lst xs) h1) X := by
  simp only [wpO_def, wpS_def]
  exact r_w_fz
theorem w_new {m : ME (List D)} : wpO (mNew m l h) Q X = wpO (m l h) (fun xs h1 => Q (.ref h1.length) (h1 ++ [.lst xs])) X := by
  simp only [wpO_def, wpS_def]
  exact r_w_new
theorem w_neg {a : ME D} : wpO (mNeg a l h) Q X = wpO (a l h) (fun x h1 => isInt x fun i => Q (.int (-i)) h1) X := by
  simp only [wpO_def, wpS_def]
  exact r_w_neg
theorem w_noP {Q : Option Int → Hh → Prop} : wpO (mNoP l h) Q X = Q none h := by
  simp only [wpO_def, wpS_def]
  exact r_w_noP
theorem w_P {a : ME D} {Q : Option Int → Hh → Prop} : wpO (mP a l h) Q X = wpO (a l h) (fun x h1 => isInt x fun i => Q (some i) h1) X := by
  simp only [wpO_def, wpS_def]
  exact r_w_P
theorem w_sl {a : ME D} {lo hi : ME (Option Int)} : wpO (mSl a lo hi l h) Q X = wpO (a l h) (fun x h1 => wpO (lo l h1) (fun i h2 => wpO (hi l h2) (fun j h3 => getO (slD (vw h3 x) i j) fun d => Q d h3) X) X) X := by
  simp only [wpO_def, wpS_def]
  exact r_w_sl
theorem w_rev {a : ME D} : wpO (mRev a l h) Q X = wpO (a l h) (fun x h1 => isSeq (vw h1 x) fun d => Q d h1) X := by
  simp only [wpO_def, wpS_def]
  exact r_w_rev
theorem w_bi {f : List D → Option D} {as : ME (List D)} : wpO (mBi f as l h) Q X = wpO (as l h) (fun xs h1 => getO (f (xs.map (vw h1))) fun d => Q d h1) X := by
  simp only [wpO_def, wpS_def]
  exact r_w_bi
theorem w_isT {T : String} {a : ME D} : wpO (mIsT T a l h) Q X = wpO (a l h) (fun x h1 => getO (tyD (vw h1 x)) fun t => Q (.bl (isTy T t)) h1) X := by
  simp only [wpO_def, wpS_def]
  exact r_w_isT
theorem w_call {f : List D → Hh → Out D} {as : ME (List D)} : wpO (mCall f as l h) Q X = wpO (as l h) (fun xs h1 => wpO (f xs h1) Q X) X := by
  simp only [wpO_def, wpS_def]
  exact r_w_call
theorem w_list {a : ME D} {Q : List D → Hh → Prop} : wpO (mList a l h) Q X = wpO (a l h) (fun x h1 => seqO (vw h1 x) fun xs => Q xs h1) X := by
  simp only [wpO_def, wpS_def]
  exact r_w_list
theorem w_listR {a : ME D} {Q : List D → Hh → Prop} : wpO (mListR a l h) Q X = wpO (a l h) (fun x h1 => getO (rngL x) fun xs => Q xs h1) X := by
  simp only [wpO_def, wpS_def]
  exact r_w_listR
theorem w_cat {a b : ME D} {Q : List D → Hh → Prop} : wpO (catL a b l h) Q X = wpO (a l h) (fun x h1 => wpO (b l h1) (fun y h2 => lst2 (vw h2 x) (vw h2 y) fun zs => Q zs h2) X) X := by
  simp only [wpO_def, wpS_def]
  exact r_w_cat
theorem w_mth {T : String} {f : MF} {mo : ME D} {ms : ME (List D)} : wpO (mMth T f mo ms l h) Q X = wpO (mo l h) (fun x h1 => tyM T (vw h1 x) = true ∧ wpO (ms l h1) (fun xs h2 => getO (f x xs h2) fun p => Q p.1 p.2) X) X := by
  simp only [wpO_def, wpS_def]
  exact r_w_mth
end
section
variable {K : Ks} {l : Lc} {h : Hh}
theorem s_next : wpS (sNext l h) K = K.nx l h := by
  simp only [wpO_def, wpS_def]
  exact r_s_next
theorem s_bad : wpS (sBad l h) K = False := by
  simp only [wpO_def, wpS_def]
  exact r_s_bad
theorem s_break : wpS (sBreak l h) K = K.bk l h := by
  simp only [wpO_def, wpS_def]
  exact r_s_break
theorem s_cont : wpS (sCont l h) K = K.ct l h := by
  simp only [wpO_def, wpS_def]
  exact r_s_cont
theorem s_retN : wpS (sRetN l h) K = K.rt .non h := by
  simp only [wpO_def, wpS_def]
  exact r_s_retN
theorem s_seq {a b : MS} : wpS (sSeq a b l h) K = wpS (a l h) { K with nx := fun l h => wpS (b l h) K } := by
  simp only [wpO_def, wpS_def]
  exact r_s_seq
theorem s_bind {α : Type} {m : ME α} {f : α → MS} : wpS (sBind m f l h) K = wpO (m l h) (fun a h1 => wpS (f a l h1) K) (fun e h1 => K.ex e l h1) := by
  simp only [wpO_def, wpS_def]
  exact r_s_bind
theorem s_drop {m : ME D} : wpS (sDrop m l h) K = wpO (m l h) (fun _ h1 => K.nx l h1) (fun e h1 => K.ex e l h1) := by
  simp only [wpO_def, wpS_def]
  exact r_s_drop
theorem s_ret {m : ME D} : wpS (sRet m l h) K = wpO (m l h) (fun d h1 => K.rt d h1) (fun e h1 => K.ex e l h1) := by
  simp only [wpO_def, wpS_def]
  exact r_s_ret
theorem s_if {t : ME Bool} {a b : MS} : wpS (sIf t a b l h) K = wpO (t l h) (fun c h1 => if c = true then wpS (a l h1) K else wpS (b l h1) K) (fun e h1 => K.ex e l h1) := by
  simp only [wpO_def, wpS_def]
  exact r_s_if
theorem s_asg {m : ME D} {tg : MG} : wpS (sAsg m tg l h) K = wpO (m l h) (fun d h1 => wpO (tg d l h1) (fun l' h2 => K.nx l' h2) (fun e h2 => K.ex e l h2)) (fun e h1 => K.ex e l h1) := by
  simp only [wpO_def, wpS_def]
  exact r_s_asg
theorem g_nm {i : Nat} {d : D} {Q : Lc → Hh → Prop} {X : XP} : wpO (gNm i d l h) Q X = Q (l.set i (some d)) h := by
  simp only [wpO_def, wpS_def]
  exact r_g_nm
theorem s_set {m : ME D} {i : Nat} : wpS (sAsg m (gNm i) l h) K = wpO (m l h) (fun d h1 => K.nx (l.set i (some d)) h1) (fun e h1 => K.ex e l h1) := by
  simp only [wpO_def, wpS_def]
  exact r_s_set
theorem gs_nil {d : List D} {Q : Lc → Hh → Prop} {X : XP} : wpO (gsNil d l h) Q X = (d = [] ∧ Q l h) := by
  simp only [wpO_def, wpS_def]
  exact r_gs_nil
theorem gs_cons {a : MG} {b : MGs} {d : List D} {Q : Lc → Hh → Prop} {X : XP} : wpO (gsCons a b d l h) Q X = ctorL d fun x xs => wpO (a x l h) (fun l1 h1 => wpO (b xs l1 h1) Q fun _ _ => False) fun _ _ => False := by
  simp only [wpO_def, wpS_def]
  exact r_gs_cons
theorem g_tp {n : Nat} {a : MGs} {d : D} {Q : Lc → Hh → Prop} {X : XP} : wpO (gTp n a d l h) Q X = tupN d n fun xs => wpO (a xs l h) Q X := by
  simp only [wpO_def, wpS_def]
  exact r_g_tp
theorem g_sq {n : Nat} {a : MGs} {d : D} {Q : Lc → Hh → Prop} {X : XP} : wpO (gSq n a d l h) Q X = seqN (vw h d) n fun xs => wpO (a xs l h) Q X := by
  simp only [wpO_def, wpS_def]
  exact r_g_sq
theorem g_ix {mo mi : ME D} {d : D} {Q : Lc → Hh → Prop} {X : XP} : wpO (gIx mo mi d l h) Q X = wpO (mo l h) (fun o h1 => wpO (mi l h1) (fun i h2 => setR o i d h2 fun h3 => Q l h3) X) X := by
  simp only [wpO_def, wpS_def]
  exact r_g_ix
theorem s_par {i j : Nat} {ms : ME (List D)} : wpS (sPar i j ms l h) K = wpO (ms l h) (fun xs h1 => two xs fun x y => K.nx ((l.set i (some x)).set j (some y)) h1) (fun e h1 => K.ex e l h1) := by
  simp only [wpO_def, wpS_def]
  exact r_s_par
theorem s_par3 {i j n : Nat} {ms : ME (List D)} : wpS (sPar3 i j n ms l h) K = wpO (ms l h) (fun xs h1 => three xs fun x y z => K.nx (((l.set i (some x)).set j (some y)).set n (some z)) h1) (fun e h1 => K.ex e l h1) := by
  simp only [wpO_def, wpS_def]
  exact r_s_par3
end
end WW
/-! 27: loops, comprehensions, calls. -/
namespace WW
open PySem
/-- what a walk sees is this list -/
def SeqIt (it : DIt) (h : Hh) (xs : List D) : Prop := (∀ i, itAt it h i = some xs[i]?) ∧ xs.length ≤ itLen it h
theorem seq_fix {xs : List D} {h : Hh} : SeqIt (.fix xs) h xs := ⟨fun i => by unfold itAt; rfl, by unfold itLen; exact Nat.le_refl _⟩
theorem seq_cell {xs : List D} {h : Hh} {r : Nat} (e : h[r]? = some (.lst xs)) : SeqIt (.cell r) h xs := ⟨fun i => by rw [itAt, e], by rw [itLen, e]; exact Nat.le_refl _⟩
def zipT (xs ys : List D) : List D := List.zipWith (fun x y => .tup [x, y]) xs ys
theorem seq_zip {xs ys : List D} {h : Hh} {a b : DIt} (ha : SeqIt a h xs) (hb : SeqIt b h ys) : SeqIt (.zip a b) h (zipT xs ys) := by
  refine ⟨fun i => ?_, ?_⟩
  · rw [itAt, ha.1 i, hb.1 i]
    unfold zipT
    rw [List.getElem?_zipWith]
    cases xs[i]? with
    | none => cases ys[i]? <;> rfl
    | some x => cases ys[i]? <;> rfl
  · rw [itLen]
    unfold zipT
    rw [List.length_zipWith]
    have := ha.2
    have := hb.2
    omega
def enumT (xs : List D) : List D := (List.range xs.length).zipWith (fun i x => .tup [.int (i : Nat), x]) xs
theorem seq_enm {xs : List D} {h : Hh} {a : DIt} (ha : SeqIt a h xs) : SeqIt (.enm a) h (enumT xs) := by
  refine ⟨fun i => ?_, ?_⟩
  · rw [itAt, ha.1 i]
    unfold enumT
    rw [List.getElem?_zipWith]
    cases e : xs[i]? with
    | none => cases (List.range xs.length)[i]? <;> rfl
    | some x =>
      rw [List.getElem?_range (List.getElem?_eq_some_iff.mp e).1]
      rfl
  · rw [itLen]
    unfold enumT
    rw [List.length_zipWith, List.length_range]
    have := ha.2
    omega
/-! ### walks -/
section
variable {l : Lc} {h : Hh} {X : XP} {Q : DIt → Hh → Prop}
theorem r_i_iter {a : ME D} : rpO (mIter a l h) Q X = rpO (a l h) (fun x h1 => getO (iterO x h1) fun it => Q it h1) X := by
  unfold mIter
  rw [r_w_bind]
  congr 1
  funext x h1
  unfold iterD
  cases iterO x h1 <;> rfl
theorem r_i_zip {as : ME (List D)} : rpO (mZip as l h) Q X = rpO (as l h) (fun xs h1 => two xs fun x y => isL x = isL y ∧ getO (iterO x h1) fun a => getO (iterO y h1) fun b => Q (.zip a b) h1) X := by
  unfold mZip
  rw [r_w_bind]
  congr 1
  funext xs h1
  rcases xs with _ | ⟨x, _ | ⟨y, _ | ⟨z, t⟩⟩⟩
  · rfl
  · rfl
  · show rpO (if isL x = isL y then _ else _) Q X = _
    by_cases e : isL x = isL y
    · rw [if_pos e]
      show _ = (isL x = isL y ∧ _)
      cases iterO x h1 with
      | none => exact propext ⟨fun z => z.elim, fun z => z.2.elim⟩
      | some a =>
        cases iterO y h1 with
        | none => exact propext ⟨fun z => z.elim, fun z => z.2.elim⟩
        | some b => exact propext ⟨fun z => ⟨e, z⟩, fun z => z.2⟩
    · rw [if_neg e]
      exact propext ⟨fun z => z.elim, fun z => e z.1⟩
  · rfl
def one1 (xs : List D) (P : D → Prop) : Prop := match xs with
  | [x] => P x
  | _ => False
theorem one1_eq {x : D} {P : D → Prop} : one1 [x] P = P x := nrfl rfl
theorem r_i_enm {as : ME (List D)} : rpO (mEnm as l h) Q X = rpO (as l h) (fun xs h1 => one1 xs fun x => isL x = true ∧ getO (iterO x h1) fun a => Q (.enm a) h1) X := by
  unfold mEnm
  rw [r_w_bind]
  congr 1
  funext xs h1
  rcases xs with _ | ⟨x, _ | ⟨y, t⟩⟩
  · rfl
  · show rpO (if isL x = true then _ else _) Q X = _
    by_cases e : isL x = true
    · rw [if_pos e]
      show _ = (isL x = true ∧ _)
      cases iterO x h1 with
      | none => exact propext ⟨fun z => z.elim, fun z => z.2.elim⟩
      | some a => exact propext ⟨fun z => ⟨e, z⟩, fun z => z.2⟩
    · rw [if_neg e]
      exact propext ⟨fun z => z.elim, fun z => e z.1⟩
  · rfl
def oneI (xs : List D) (P : Int → Prop) : Prop := match xs with
  | [.int i] => P i
  | _ => False
theorem oneI_int {i : Int} {P : Int → Prop} : oneI [.int i] P = P i := nrfl rfl
theorem r_i_range1 {as : ME (List D)} : rpO (mRange1 as l h) Q X = rpO (as l h) (fun xs h1 => oneI xs fun j => rngB j = true ∧ Q (.fix (intsFrom 0 1 j.toNat)) h1) X := by
  unfold mRange1
  rw [r_w_bind]
  congr 1
  funext xs h1
  unfold range1D oneI
  split
  · rename_i j
    by_cases e : rngB j = true
    · rw [if_pos e]; exact propext ⟨fun z => ⟨e, z⟩, fun z => z.2⟩
    · rw [if_neg e]; exact propext ⟨fun z => z.elim, fun z => e z.1⟩
  · rename_i hn
    first
      | rfl
      | (split
         · rename_i i; exact absurd rfl (hn i)
         · rfl)
def twoI (xs : List D) (P : Int → Int → Prop) : Prop := match xs with
  | [.int i, .int j] => P i j
  | _ => False
theorem twoI_int {i j : Int} {P : Int → Int → Prop} : twoI [.int i, .int j] P = P i j := nrfl rfl
theorem r_i_range2 {as : ME (List D)} : rpO (mRange2 as l h) Q X = rpO (as l h) (fun xs h1 => twoI xs fun i j => rngB i = true ∧ rngB j = true ∧ Q (.fix (intsFrom i 1 (j - i).toNat)) h1) X := by
  unfold mRange2
  rw [r_w_bind]
  congr 1
  funext xs h1
  unfold range2D twoI
  split
  · rename_i i j
    by_cases e : rngB i = true ∧ rngB j = true
    · rw [if_pos e]; exact propext ⟨fun z => ⟨e.1, e.2, z⟩, fun z => z.2.2⟩
    · rw [if_neg e]; exact propext ⟨fun z => z.elim, fun z => e ⟨z.1, z.2.1⟩⟩
  · rename_i hn
    first
      | rfl
      | (split
         · rename_i i j; exact absurd rfl (hn i j)
         · rfl)
end
/-! ### for -/
section
variable {l : Lc} {h : Hh} {K : Ks} {tg : MG} {body : MS}
theorem r_loop_inv {it : DIt} {xs : List D} (I : Nat → Lc → Hh → Prop) (hs : ∀ i l h, i ≤ xs.length → I i l h → ∀ j, itAt it h j = some xs[j]?)
    (step : ∀ i d l h, xs[i]? = some d → I i l h → rpO (tg d l h) (fun l1 h1 => rpS (body l1 h1) ⟨fun l h => I (i + 1) l h, K.rt, K.nx, fun l h => I (i + 1) l h, K.ex⟩) (fun e h1 => K.ex e l h1))
    (fin : ∀ l h, I xs.length l h → K.nx l h) : ∀ (n i : Nat) (l : Lc) (h : Hh), i ≤ xs.length → xs.length ≤ i + n → I i l h → rpS (loopF it tg body n i l h) K := by
  intro n
  induction n with
  | zero =>
    intro i l h hi hn w
    have e : i = xs.length := by omega
    subst e
    unfold loopF
    rw [hs _ l h (Nat.le_refl _) w xs.length, List.getElem?_eq_none (Nat.le_refl _)]
    exact fin l h w
  | succ n ih =>
    intro i l h hi hn w
    unfold loopF
    rw [hs i l h hi w i]
    cases ed : xs[i]? with
    | none =>
      have := List.getElem?_eq_none_iff.mp ed
      have e : i = xs.length := by omega
      subst e
      exact fin l h w
    | some d =>
      have hlt := (List.getElem?_eq_some_iff.mp ed).1
      have st := step i d l h ed w
      dsimp only
      cases et : tg d l h with
      | bad => rw [et] at st; exact st.elim
      | exc e h1 => rw [et] at st; exact st
      | ok l1 h1 =>
        rw [et] at st
        have st : rpS (body l1 h1) _ := st
        dsimp only
        cases eb : body l1 h1 with
        | bad => rw [eb] at st; exact st.elim
        | nx l2 h2 => rw [eb] at st; exact ih (i + 1) l2 h2 (by omega) (by omega) st
        | ct l2 h2 => rw [eb] at st; exact ih (i + 1) l2 h2 (by omega) (by omega) st
        | bk l2 h2 => rw [eb] at st; exact st
        | rt v h2 => rw [eb] at st; exact st
        | exc e l2 h2 => rw [eb] at st; exact st
/-- a for by its invariant; xs: what is walked, as it stands at every turn -/
theorem r_s_for {mi : ME DIt} (xs : List D) (I : Nat → Lc → Hh → Prop) (hi : rpO (mi l h) (fun it h1 => xs.length ≤ itLen it h1 ∧ I 0 l h1 ∧ ∀ i l h, i ≤ xs.length → I i l h → ∀ j, itAt it h j = some xs[j]?) (fun e h1 => K.ex e l h1))
    (step : ∀ i d l h, xs[i]? = some d → I i l h → rpO (tg d l h) (fun l1 h1 => rpS (body l1 h1) ⟨fun l h => I (i + 1) l h, K.rt, K.nx, fun l h => I (i + 1) l h, K.ex⟩) (fun e h1 => K.ex e l h1))
    (fin : ∀ l h, I xs.length l h → K.nx l h) : rpS (sFor mi tg body l h) K := by
  unfold sFor
  rw [r_s_bind]
  refine rrpO_mono hi (fun it h1 w => ?_) fun _ _ w => w
  obtain ⟨w1, w2, w3⟩ := w
  exact r_loop_inv I w3 step fin _ 0 l h1 (Nat.zero_le _) (by omega) w2
/-- a while by its invariant and a measure -/
theorem r_s_while {t : ME Bool} (I : Nat → Lc → Hh → Prop) (n : Nat) (h0 : I n l h)
    (step : ∀ n l h, I n l h → rpO (t l h) (fun b h1 => if b = true then rpS (body l h1) ⟨fun l h => ∃ m, m < n ∧ I m l h, K.rt, K.nx, fun l h => ∃ m, m < n ∧ I m l h, K.ex⟩ else K.nx l h1) (fun e h1 => K.ex e l h1)) : rpS (sWhile t body l h) K := by
  have key : ∀ n, ∀ l h, I n l h → ∃ m, rpS (loopW t body m l h) K := by
    intro n
    induction n using Nat.strongRecOn with
    | ind n ih =>
      intro l h w
      have st := step n l h w
      cases e : t l h with
      | bad => rw [e] at st; exact st.elim
      | exc e' h1 =>
        rw [e] at st
        refine ⟨0, ?_⟩
        simp only [loopW, e]
        exact st
      | ok b h1 =>
        rw [e] at st
        cases b with
        | false =>
          refine ⟨0, ?_⟩
          simp only [loopW, e]
          exact st
        | true =>
          have st : rpS (body l h1) _ := st
          cases eb : body l h1 with
          | bad => rw [eb] at st; exact st.elim
          | nx l2 h2 =>
            rw [eb] at st
            obtain ⟨m, hm, w2⟩ := st
            obtain ⟨j, hj⟩ := ih m hm l2 h2 w2
            refine ⟨j + 1, ?_⟩
            rw [loopW]
            simp only [e, eb]
            exact hj
          | ct l2 h2 =>
            rw [eb] at st
            obtain ⟨m, hm, w2⟩ := st
            obtain ⟨j, hj⟩ := ih m hm l2 h2 w2
            refine ⟨j + 1, ?_⟩
            rw [loopW]
            simp only [e, eb]
            exact hj
          | bk l2 h2 =>
            rw [eb] at st
            refine ⟨1, ?_⟩
            rw [loopW]
            simp only [e, eb]
            exact st
          | rt v h2 =>
            rw [eb] at st
            refine ⟨1, ?_⟩
            rw [loopW]
            simp only [e, eb]
            exact st
          | exc e2 l2 h2 =>
            rw [eb] at st
            refine ⟨1, ?_⟩
            rw [loopW]
            simp only [e, eb]
            exact st
  obtain ⟨m, hm⟩ := key n l h h0
  rw [sWhile_of m (fun z => by rw [z] at hm; exact hm)]
  exact hm
end
/-! ### comprehensions -/
/-- all cells hold what has no cell in it -/
def Hok (h : Hh) : Prop := ∀ c ∈ h, c.low 0 = true
mutual
theorem low_mono {n m : Nat} (hn : n ≤ m) : ∀ {d : D}, d.low n = true → d.low m = true
  | .non, _ | .bl _, _ | .int _, _ | .str _, _ => by unfold D.low; rfl
  | .thk, h | .exo _ _, h => by unfold D.low at h; cases h
  | .tup xs, h => by unfold D.low at h ⊢; exact lows_mono hn h
  | .lst xs, h => by unfold D.low at h ⊢; exact lows_mono hn h
  | .lok xs, h => by unfold D.low at h ⊢; exact lows_mono hn h
  | .dic kvs, h => by unfold D.low at h ⊢; exact lowk_mono hn h
  | .ref r, h => by unfold D.low at h ⊢; exact decide_eq_true (Nat.lt_of_lt_of_le (of_decide_eq_true h) hn)
theorem lows_mono {n m : Nat} (hn : n ≤ m) : ∀ {ds : List D}, D.lows n ds = true → D.lows m ds = true
  | [], _ => by unfold D.lows; rfl
  | d :: ds, h => by
    unfold D.lows at h ⊢
    obtain ⟨h1, h2⟩ := Bool.and_eq_true_iff.mp h
    rw [low_mono hn h1, lows_mono hn h2]; rfl
theorem lowk_mono {n m : Nat} (hn : n ≤ m) : ∀ {ds : List (L2.Key × D)}, D.lowk n ds = true → D.lowk m ds = true
  | [], _ => by unfold D.lowk; rfl
  | (_, d) :: ds, h => by
    unfold D.lowk at h ⊢
    obtain ⟨h1, h2⟩ := Bool.and_eq_true_iff.mp h
    rw [low_mono hn h1, lowk_mono hn h2]; rfl
end
theorem olds_of {h : Hh} (H : Hok h) (n : Nat) : olds n h = true := by
  unfold olds
  rw [List.all_eq_true]
  intro c hc
  have := H c (List.mem_of_mem_take hc)
  cases c with
  | lst xs => exact lows_mono (Nat.zero_le _) this
theorem Hok.push {h : Hh} (H : Hok h) {xs : List D} (hx : D.lows 0 xs = true) : Hok (h ++ [.lst xs]) := fun c hc => by
  rcases List.mem_append.mp hc with z | z
  · exact H c z
  · rw [List.mem_singleton.mp z]; exact hx
theorem Hok.nil : Hok [] := fun c hc => nomatch hc
theorem Hok.set {h : Hh} (H : Hok h) {xs : List D} {r : Nat} (hx : D.lows 0 xs = true) : Hok (h.set r (.lst xs)) := fun c hc => by
  rcases List.mem_or_eq_of_mem_set hc with z | z
  · exact H c z
  · rw [z]; exact hx
theorem Hok.left {h t : Hh} (H : Hok (h ++ t)) : Hok h := fun c hc => H c (List.mem_append_left _ hc)
theorem lows_nil {n : Nat} : D.lows n [] = true := by rw [D.lows]
theorem lows_cons {n : Nat} {x : D} {a : List D} : D.lows n (x :: a) = (x.low n && D.lows n a) := by rw [D.lows]
theorem lows_append {n : Nat} : ∀ {a b : List D}, D.lows n (a ++ b) = (D.lows n a && D.lows n b)
  | [], b => by rw [lows_nil]; rfl
  | x :: a, b => by
    rw [List.cons_append, lows_cons, lows_cons, lows_append, Bool.and_assoc]
theorem lows_snoc {n : Nat} {a : List D} {y : D} (h : D.lows n a = true) (hy : y.low n = true) : D.lows n (a ++ [y]) = true := by
  rw [lows_append, h, lows_cons, lows_nil, hy]; rfl
section
variable {l : Lc} {h : Hh} {X : XP} {Q : D → Hh → Prop}
theorem r_comp_inv {it : DIt} {tg : MG} {ts : ME Bool} {e : ME D} {lw : Lc} {xs : List D} {n : Nat} (I : Nat → List D → Hh → Prop) (hs : ∀ i acc hb, i ≤ xs.length → I i acc hb → ∀ j, itAt it (hb ++ [.lst acc]) j = some xs[j]?) (hz : xs.length ≤ sizeLine)
    (step : ∀ i d acc hb, xs[i]? = some d → hb.length = n → I i acc hb → rpO (tg d lw (hb ++ [.lst acc])) (fun l1 h2 => rpO (ts l1 h2) (fun b h3 => if b = true then rpO (e l1 h3) (fun y h4 => ∃ hb', h4 = hb' ++ [.lst acc] ∧ hb'.length = n ∧ I (i + 1) (acc ++ [y]) hb') (fun _ _ => False)
      else ∃ hb', h3 = hb' ++ [.lst acc] ∧ hb'.length = n ∧ I (i + 1) acc hb') (fun _ _ => False)) (fun _ _ => False)) :
    ∀ (m i : Nat) (acc : List D) (hb : Hh), i ≤ xs.length → xs.length ≤ i + m → acc.length ≤ i → hb.length = n → I i acc hb → ∃ acc' hb', compF it tg ts e lw n m i (hb ++ [.lst acc]) = .ok () (hb' ++ [.lst acc']) ∧ hb'.length = n ∧ I xs.length acc' hb' := by
  intro m
  induction m with
  | zero =>
    intro i acc hb hi hm ha hn w
    have ei : i = xs.length := by omega
    subst ei
    refine ⟨acc, hb, ?_, hn, w⟩
    unfold compF
    rw [hs _ acc hb (Nat.le_refl _) w xs.length, List.getElem?_eq_none (Nat.le_refl _)]
  | succ m ih =>
    intro i acc hb hi hm ha hn w
    cases ed : xs[i]? with
    | none =>
      have := List.getElem?_eq_none_iff.mp ed
      have ei : i = xs.length := by omega
      subst ei
      refine ⟨acc, hb, ?_, hn, w⟩
      unfold compF
      rw [hs _ acc hb (Nat.le_refl _) w xs.length, ed]
    | some d =>
      have hlt := (List.getElem?_eq_some_iff.mp ed).1
      have st := step i d acc hb ed hn w
      unfold compF
      rw [hs i acc hb hi w i, ed]
      dsimp only
      cases et : tg d lw (hb ++ [.lst acc]) with
      | bad => rw [et] at st; exact st.elim
      | exc e' h1 => rw [et] at st; exact st.elim
      | ok l1 h2 =>
        rw [et] at st
        have st : rpO (ts l1 h2) _ _ := st
        dsimp only
        cases eb : ts l1 h2 with
        | bad => rw [eb] at st; exact st.elim
        | exc e' h1 => rw [eb] at st; exact st.elim
        | ok b h3 =>
          rw [eb] at st
          cases b with
          | false =>
            obtain ⟨hb', rfl, hl, w'⟩ := (show ∃ hb', h3 = hb' ++ [.lst acc] ∧ hb'.length = n ∧ I (i + 1) acc hb' from st)
            exact ih (i + 1) acc hb' (by omega) (by omega) (by omega) hl w'
          | true =>
            have st : rpO (e l1 h3) _ _ := st
            dsimp only
            cases ee : e l1 h3 with
            | bad => rw [ee] at st; exact st.elim
            | exc e' h1 => rw [ee] at st; exact st.elim
            | ok y h4 =>
              rw [ee] at st
              obtain ⟨hb', rfl, hl, w'⟩ := (show ∃ hb', h4 = hb' ++ [.lst acc] ∧ hb'.length = n ∧ I (i + 1) (acc ++ [y]) hb' from st)
              have e1 : (hb' ++ [Cell.lst acc])[n]? = some (.lst acc) := by rw [← hl]; simp
              have e2 : (hb' ++ [Cell.lst acc]).set n (.lst (acc ++ [y])) = hb' ++ [.lst (acc ++ [y])] := by
                rw [← hl, List.set_append]
                simp
              dsimp only
              rw [e1]
              dsimp only
              rw [if_pos (by omega), e2]
              exact ih (i + 1) (acc ++ [y]) hb' (by omega) (by omega) (by rw [List.length_append]; simp; omega) hl w'
/-- a comprehension whose list is a tree from then on -/
theorem r_w_lcF {mi : ME DIt} {tg : MG} {ts : ME Bool} {e : ME D} {vs : List Nat} (xs : List D) (I : Nat → List D → Hh → Prop)
    (hi : rpO (mi l h) (fun it h1 => xs.length ≤ itLen it h1 ∧ xs.length ≤ sizeLine ∧ h1.length = h.length ∧ I 0 [] h1 ∧ ∀ i acc hb, i ≤ xs.length → I i acc hb → ∀ j, itAt it (hb ++ [.lst acc]) j = some xs[j]?) X)
    (step : ∀ i d acc hb, xs[i]? = some d → hb.length = h.length → I i acc hb → rpO (tg d (wipeL l vs) (hb ++ [.lst acc])) (fun l1 h2 => rpO (ts l1 h2) (fun b h3 => if b = true then rpO (e l1 h3) (fun y h4 => ∃ hb', h4 = hb' ++ [.lst acc] ∧ hb'.length = h.length ∧ I (i + 1) (acc ++ [y]) hb') (fun _ _ => False)
      else ∃ hb', h3 = hb' ++ [.lst acc] ∧ hb'.length = h.length ∧ I (i + 1) acc hb') (fun _ _ => False)) (fun _ _ => False))
    (fin : ∀ acc hb, I xs.length acc hb → hb.length = h.length → Hok hb ∧ D.lows 0 acc = true ∧ Q (.lst acc) hb) : rpO (mLcF (mLc mi tg ts e vs) l h) Q X := by
  unfold mLcF
  rw [r_w_bind]
  unfold mLc
  rw [r_w_bind]
  refine rrpO_mono hi (fun it h1 w => ?_) fun _ _ w => w
  obtain ⟨w1, w2, w3, w4, w5⟩ := w
  rw [w3]
  obtain ⟨acc, hb, e1, e2, e3⟩ := r_comp_inv (lw := wipeL l vs) I w5 w2 step (itLen it h1) 0 [] h1 (Nat.zero_le _) (by omega) (Nat.zero_le _) w3 w4
  rw [e1]
  show rpO (popD h.length l (hb ++ [.lst acc])) Q X
  obtain ⟨f1, f2, f3⟩ := fin acc hb e3 e2
  unfold popD
  rw [if_pos (by rw [List.length_append, e2]; rfl), ← e2]
  have e4 : (hb ++ [Cell.lst acc])[hb.length]? = some (.lst acc) := by simp
  rw [e4]
  dsimp only
  have e5 : (olds hb.length (hb ++ [Cell.lst acc]) && D.lows hb.length acc) = true := by
    have o1 := olds_of f1 hb.length
    have o2 : olds hb.length (hb ++ [Cell.lst acc]) = true := by
      unfold olds at o1 ⊢
      rw [List.take_append_of_le_length (Nat.le_refl _)]
      exact o1
    rw [o2, lows_mono (Nat.zero_le _) f2]; rfl
  rw [if_pos e5]
  have e6 : (hb ++ [Cell.lst acc]).take hb.length = hb := by simp
  rw [e6]
  exact f3
end
/-! ### calls -/
section
variable {T : Tx} {n : Nat} {x : Str} {d : DD} {ds : List D} {h : Hh} {Q : D → Hh → Prop} {X : XP}
theorem r_wpO_fin {o : SOut} (w : rpS o (Ks.body (fun v h' => ∃ h'', h' = h'' ∧ olds n h' = true ∧ v.low n = true ∧ Q v (h'.take n)) (fun e h' => olds n h' = true ∧ (match e.fld with
    | none => True
    | some (_, y) => y.low n = true) ∧ X e (h'.take n)))) : rpO (fin n (outD o)) Q X := by
  cases o with
  | nx l h' =>
    obtain ⟨_, _, h1, h2, h3⟩ := w
    unfold outD fin frzT
    dsimp only
    rw [if_pos h1, if_pos h2]
    exact h3
  | rt v h' =>
    obtain ⟨_, _, h1, h2, h3⟩ := w
    unfold outD fin frzT
    dsimp only
    rw [if_pos h1, if_pos h2]
    exact h3
  | exc e l h' =>
    obtain ⟨h1, h2, h3⟩ := w
    unfold outD fin
    dsimp only
    rw [if_pos h1]
    obtain ⟨ec, ef⟩ := e
    cases ef with
    | none => exact h3
    | some p =>
      obtain ⟨f, y⟩ := p
      dsimp only at h2
      unfold frzT
      dsimp only
      rw [if_pos h2]
      exact h3
  | bk l h' => exact w.elim
  | ct l h' => exact w.elim
  | bad => exact w.elim
end
/-- a family of defs, each by its reading: c n, calls n deep -/
def runM (np N : Nat) (star keep : Bool) (m : MS) (ds : List D) (h : Hh) : Out D :=
  match (if star = true then (if np ≤ ds.length ∧ ds.length ≤ 1000 then some (ds.take np ++ [.tup (ds.drop np)]) else none) else (if ds.length = np then some ds else none) : Option (List D)) with
  | some es => if keep = true then finK h.length (outD (m (es.map some ++ List.replicate (N - es.length) none) h)) else fin h.length (outD (m (es.map some ++ List.replicate (N - es.length) none) h))
  | none => .bad
abbrev Fam : Type := Nat → Str → List D → Hh → Out D
abbrev Thk : Type := List D → Hh → Out D
abbrev FamT : Type := Nat → Str → Thk → List D → Hh → Out D
def Is (c : Fam) (x : Str) (np N : Nat) (star keep : Bool) (m : (Str → List D → Hh → Out D) → MS) : Prop := ∀ n ds h, c (n + 1) x ds h = runM np N star keep (m (c n)) ds h
/-- a def that makes lambdas -/
def IsL (c : Fam) (cT : FamT) (x : Str) (np N : Nat) (m : (Str → List D → Hh → Out D) → (Str → List D → Hh → Out D) → (Str → Thk → List D → Hh → Out D) → MS) : Prop := ∀ n ds h, c (n + 3) x ds h = runM np N false false (m (c (n + 2)) (c n) (cT (n + 2))) ds h
/-- a def that gets one -/
def IsT (c : Fam) (cT : FamT) (x : Str) (np N : Nat) (m : (Str → List D → Hh → Out D) → Thk → MS) : Prop := ∀ n tk ds h, cT (n + 2) x tk ds h = if ds.length + 1 = np then fin h.length (outD (m (c (n + 1)) tk ((ds ++ [D.thk]).map some ++ List.replicate (N - (ds.length + 1)) none) h)) else .bad
theorem is_of {T : Tx} {x : Str} {np N : Nat} {star keep : Bool} {d : DD} {m : (Str → List D → Hh → Out D) → MS} (hf : T.defs.find? (fun d => d.name == x) = some d) (h1 : d.P.length = np) (h2 : d.N.length = N) (h3 : d.star = star) (h4 : d.keep = keep)
    (hm : ∀ c cl ct dp, (ev ⟨T.free, T.nums, T.names, c, cl, ct, T.xs, dp⟩ T.fu).ss d.ec d.body = m c) : Is (callE T) x np N star keep m := by
  subst h1 h2 h3 h4
  intro n ds h
  rw [callE_succ]
  unfold Tx.callX
  rw [hf]
  show runD _ _ _ _ _ = _
  unfold runD runM argsD runB
  rw [gt_eq, hm (callE T n)]
  unfold startD
  rfl
theorem isL_of {T : Tx} {x : Str} {np N : Nat} {d : DD} {m : (Str → List D → Hh → Out D) → (Str → List D → Hh → Out D) → (Str → Thk → List D → Hh → Out D) → MS} (hf : T.defs.find? (fun d => d.name == x) = some d) (h1 : d.P.length = np) (h2 : d.N.length = N) (h3 : d.star = false) (h4 : d.keep = false)
    (hm : ∀ c cl ct, (ev ⟨T.free, T.nums, T.names, c, cl, ct, T.xs, true⟩ T.fu).ss d.ec d.body = m c cl ct) : IsL (callE T) (callTE T) x np N m := by
  subst h1 h2
  intro n ds h
  rw [callE_succ]
  unfold Tx.callX
  rw [hf]
  show runD _ _ _ _ _ = _
  unfold runD runM argsD runB
  rw [gt_eq2, hm (callE T (n + 2)) (callE T n) (callTE T (n + 2)), h3, h4]
  unfold startD
  rfl
theorem isT_of {T : Tx} {x : Str} {np N : Nat} {d : DD} {m : (Str → List D → Hh → Out D) → Thk → MS} (hf : T.defs.find? (fun d => d.name == x) = some d) (h1 : d.P.length = np) (h2 : d.N.length = N) (h3 : d.star = false)
    (hm : ∀ c cl ct dp tk, (ev ⟨T.free, T.nums, T.names, c, cl, ct, T.xs, dp⟩ T.fu).ss (d.ecT tk) d.body = m c tk) : IsT (callE T) (callTE T) x np N m := by
  subst h1 h2
  intro n tk ds h
  rw [callTE_succ]
  unfold Tx.callY
  rw [hf]
  show runT _ _ _ _ _ _ = _
  unfold runT
  rw [gt_eq, hm (callE T (n + 1))]
  by_cases hl : ds.length + 1 = d.P.length
  · rw [if_pos ⟨h3, hl⟩, if_pos hl]
    unfold startD
    rw [List.length_append]
    rfl
  · rw [if_neg fun z => hl z.2, if_neg hl]
section
variable {c : Fam} {n np N : Nat} {x : Str} {ds : List D} {h : Hh} {Q : D → Hh → Prop} {X : XP} {m : (Str → List D → Hh → Out D) → MS}
/-- what is wanted behind a body, of a tree that is handed out: everything that the caller had is in order -/
def Ks.fin (h : Hh) (Q : D → Hh → Prop) (X : XP) : Ks := Ks.body (fun v h' => olds h.length h' = true ∧ v.low h.length = true ∧ Q v (h'.take h.length)) (fun e h' => olds h.length h' = true ∧ (match e.fld with
    | none => True
    | some (_, y) => y.low h.length = true) ∧ X e (h'.take h.length))
theorem r_wpO_fin' {o : SOut} (w : rpS o (Ks.fin h Q X)) : rpO (fin h.length (outD o)) Q X := by
  refine r_wpO_fin ?_
  cases o with
  | nx l h' => exact ⟨h', rfl, w⟩
  | rt v h' => exact ⟨h', rfl, w⟩
  | exc e l h' => exact w
  | bk l h' => exact w.elim
  | ct l h' => exact w.elim
  | bad => exact w.elim
/-- a call, by the body -/
theorem Is.r_wp (F : Is c x np N false false m) (hl : ds.length = np) (w : rpS (m (c n) (ds.map some ++ List.replicate (N - ds.length) none) h) (Ks.fin h Q X)) : rpO (c (n + 1) x ds h) Q X := by
  rw [F n ds h]
  unfold runM
  rw [if_neg Bool.false_ne_true, if_pos hl]
  exact r_wpO_fin' w
theorem Is.r_wpV (F : Is c x np N true false m) (hl : np ≤ ds.length ∧ ds.length ≤ 1000) (w : rpS (m (c n) ((ds.take np ++ [D.tup (ds.drop np)]).map some ++ List.replicate (N - (np + 1)) none) h) (Ks.fin h Q X)) : rpO (c (n + 1) x ds h) Q X := by
  rw [F n ds h]
  unfold runM
  rw [if_pos rfl, if_pos hl]
  have e : (ds.take np ++ [D.tup (ds.drop np)]).length = np + 1 := by rw [List.length_append, List.length_take, Nat.min_eq_left hl.1]; rfl
  dsimp only
  rw [e]
  exact r_wpO_fin' w
theorem r_wpO_keep {o : SOut} {xs : List D} (w : rpS o (Ks.body (fun v h' => ∃ xs, v = .ref h.length ∧ h' = h ++ [.lst xs] ∧ olds h.length h' = true ∧ D.lows h.length xs = true ∧ Q (.ref h.length) (h ++ [.lst xs])) fun _ _ => False)) : rpO (finK h.length (outD o)) Q X := by
  cases o with
  | nx l h' => obtain ⟨_, h1, _⟩ := w; cases h1
  | rt v h' =>
    obtain ⟨ys, rfl, rfl, h1, h2, h3⟩ := w
    unfold outD finK
    dsimp only
    have e : keepOk h.length h.length (h ++ [.lst ys]) = true := by
      unfold keepOk
      have e1 : (h ++ [Cell.lst ys])[h.length]? = some (.lst ys) := by simp
      rw [e1]
      dsimp only
      rw [h1, h2, List.length_append]
      simp
    rw [if_pos e]
    exact h3
  | exc e l h' => exact w.elim
  | bk l h' => exact w.elim
  | ct l h' => exact w.elim
  | bad => exact w.elim
theorem Is.r_wpK (F : Is c x np N false true m) (hl : ds.length = np) (w : rpS (m (c n) (ds.map some ++ List.replicate (N - ds.length) none) h) (Ks.body (fun v h' => ∃ xs, v = .ref h.length ∧ h' = h ++ [.lst xs] ∧ olds h.length h' = true ∧ D.lows h.length xs = true ∧ Q (.ref h.length) (h ++ [.lst xs])) fun _ _ => False)) : rpO (c (n + 1) x ds h) Q X := by
  rw [F n ds h]
  unfold runM
  rw [if_neg Bool.false_ne_true, if_pos hl]
  exact r_wpO_keep (xs := []) w
theorem r_eq_of_wp {o : Out D} {v : D} (w : rpO o (fun a h' => a = v ∧ h' = h) fun _ _ => False) : o = .ok v h := by
  cases o with
  | ok a h' => obtain ⟨rfl, rfl⟩ := w; rfl
  | exc e h' => exact w.elim
  | bad => exact w.elim
end
/-! ### exceptions, lambdas -/
section
variable {Q : D → Hh → Prop} {X : XP} {l : Lc} {h : Hh}
def isXD (xs : List Xd) (T : Str) (x : D) : Option Bool := match x with
  | .exo cls _ => (match findX xs cls with
    | some d => some (d.sup.contains T)
    | none => none)
  | _ => none
theorem r_w_isX {xs : List Xd} {T : Str} {m : ME D} : rpO (mIsX xs T m l h) Q X = rpO (m l h) (fun x h1 => getO (isXD xs T x) fun b => Q (.bl b) h1) X := by
  unfold mIsX
  rw [r_w_bind]
  congr 1
  funext x h1
  unfold isXD
  cases x with
  | exo cls f =>
    dsimp only
    cases findX xs cls <;> rfl
  | _ => rfl
theorem r_w_fld {xs : List Xd} {f : Str} {m : ME D} : rpO (mFld xs f m l h) Q X = rpO (m l h) (fun x h1 => getO (fldX xs f x) fun v => Q v h1) X := by
  unfold mFld
  rw [r_w_bind]
  congr 1
  funext x h1
  cases fldX xs f x <;> rfl
theorem r_w_callC {F : List D → Hh → Out D} {ms : ME (List D)} : rpO (mCallC F ms l h) Q X = rpO (ms l h) (fun ds h1 => lowsOk ds h1 = true ∧ rpO (F ds h1) Q X) X := by
  unfold mCallC
  rw [r_w_bind]
  congr 1
  funext ds h1
  by_cases e : lowsOk ds h1 = true
  · rw [if_pos e]; exact propext ⟨fun z => ⟨e, z⟩, fun z => z.2⟩
  · rw [if_neg e]; exact propext ⟨fun z => z.elim, fun z => e z.1⟩
def isThk (o : Option (Option D)) : Prop := match o with
  | some (some .thk) => True
  | _ => False
theorem r_w_act {i : Nat} {tk : Thk} {ms : ME (List D)} (hl : l[i]? = some (some .thk)) : rpO (mAct i tk ms l h) Q X = rpO (ms l h) (fun ds h1 => lowsOk ds h1 = true ∧ rpO (tk ds h1) Q X) X := by
  unfold mAct
  rw [hl]
  dsimp only
  rw [r_w_bind]
  congr 1
  funext ds h1
  by_cases e : lowsOk ds h1 = true
  · rw [if_pos e]; exact propext ⟨fun z => ⟨e, z⟩, fun z => z.2⟩
  · rw [if_neg e]; exact propext ⟨fun z => z.elim, fun z => e z.1⟩
theorem r_w_lam {F : Thk → List D → Hh → Out D} {n : Nat} {ms : ME (List D)} {mb : ME D} : rpO (mLam F n ms mb l h) Q X = rpO (ms l h) (fun ds h1 => rpO (F (lamD n l mb) ds h1) (fun d h2 => lowsOk [d] h2 = true ∧ Q d h2) fun _ _ => False) X := by
  unfold mLam
  rw [r_w_bind]
  congr 1
  funext ds h1
  cases F (lamD n l mb) ds h1 with
  | ok d h2 =>
    by_cases e : lowsOk [d] h2 = true
    · show rpO (if lowsOk [d] h2 = true then .ok d h2 else .bad) Q X = _
      rw [if_pos e]; exact propext ⟨fun z => ⟨e, z⟩, fun z => z.2⟩
    · show rpO (if lowsOk [d] h2 = true then .ok d h2 else .bad) Q X = _
      rw [if_neg e]; exact propext ⟨fun z => z.elim, fun z => e z.1⟩
  | exc e h2 => rfl
  | bad => rfl
theorem r_lamD {n : Nat} {mb : ME D} {ds : List D} (hl : ds.length = n) : rpO (lamD n l mb ds h) Q X = rpO (mb (l ++ ds.map some) h) Q X := by
  unfold lamD
  rw [if_pos hl]
theorem r_w_all_nil {Q : List D → Hh → Prop} : rpO (mAll [] l h) Q X = Q [] h := nrfl rfl
theorem r_w_all_cons {m : ME D} {ms : List (ME D)} {Q : List D → Hh → Prop} : rpO (mAll (m :: ms) l h) Q X = rpO (m l h) (fun x h1 => rpO (mAll ms l h1) (fun xs h2 => Q (x :: xs) h2) X) X := r_w_cons
end
section
variable {K : Ks} {l : Lc} {h : Hh}
theorem r_s_raise {x : Str} {f : Option Str} {m : ME D} : rpS (sRaise x f m l h) K = rpO (m l h) (fun v h1 => K.ex ⟨x, f.map fun y => (y, v)⟩ l h1) (fun e h1 => K.ex e l h1) := by
  unfold sRaise
  rw [r_s_bind]
  rfl
def Ks.su (K : Ks) : Ks := ⟨fun _ _ => False, fun v h => (v.low h.length = true ∧ h.all (Cell.low h.length) = true) ∧ K.rt v h, fun _ _ => False, fun _ _ => False, fun _ _ _ => False⟩
theorem r_endSu {o : SOut} : rpS (endSu o) K = rpS o K.su := by
  cases o with
  | rt v h =>
    unfold endSu
    dsimp only
    by_cases e : v.low h.length = true ∧ h.all (Cell.low h.length) = true
    · rw [if_pos e]; exact propext ⟨fun z => ⟨e, z⟩, fun z => z.2⟩
    · rw [if_neg e]; exact propext ⟨fun z => z.elim, fun z => e z.1⟩
  | nx _ _ => rfl
  | bk _ _ => rfl
  | ct _ _ => rfl
  | exc _ _ _ => rfl
  | bad => rfl
theorem r_s_try {xs : List Xd} {m : MS} {hs : List Hdl} : rpS (sTry xs m hs l h) K = rpS (m l h) { K with ex := fun e l h => rpS (hndl xs e l h hs) K } := by
  unfold sTry
  cases m l h <;> rfl
theorem r_hndl_nil {xs : List Xd} {e : Exn} : rpS (hndl xs e l h []) K = K.ex e l h := nrfl rfl
theorem r_hndl_yes {xs : List Xd} {e : Exn} {y : Str} {io : Option Nat} {ms : MS} {r : List Hdl} {d : Xd} (hf : findX xs e.cls = some d) (hs : d.sup.contains y = true) : rpS (hndl xs e l h ((y, io, ms) :: r)) K = rpS (ms (lSu l io e) h) K.su := by
  unfold hndl
  rw [hf]
  dsimp only
  rw [if_pos hs, r_endSu]
theorem r_hndl_no {xs : List Xd} {e : Exn} {y : Str} {io : Option Nat} {ms : MS} {r : List Hdl} {d : Xd} (hf : findX xs e.cls = some d) (hs : d.sup.contains y = false) : rpS (hndl xs e l h ((y, io, ms) :: r)) K = rpS (hndl xs e l h r) K := by
  conv => lhs; unfold hndl
  rw [hf]
  dsimp only
  rw [if_neg (by rw [hs]; exact Bool.false_ne_true)]
end
section
variable {c : Fam} {cT : FamT} {n np N : Nat} {x : Str} {ds : List D} {h : Hh} {Q : D → Hh → Prop} {X : XP}
theorem IsL.r_wp {m : (Str → List D → Hh → Out D) → (Str → List D → Hh → Out D) → (Str → Thk → List D → Hh → Out D) → MS} (F : IsL c cT x np N m) (hl : ds.length = np) (w : rpS (m (c (n + 2)) (c n) (cT (n + 2)) (ds.map some ++ List.replicate (N - ds.length) none) h) (Ks.fin h Q X)) : rpO (c (n + 3) x ds h) Q X := by
  rw [F n ds h]
  unfold runM
  rw [if_neg Bool.false_ne_true, if_pos hl]
  exact r_wpO_fin' w
theorem IsT.r_wp {tk : Thk} {m : (Str → List D → Hh → Out D) → Thk → MS} (F : IsT c cT x np N m) (hl : ds.length + 1 = np) (w : rpS (m (c (n + 1)) tk ((ds ++ [D.thk]).map some ++ List.replicate (N - (ds.length + 1)) none) h) (Ks.fin h Q X)) : rpO (cT (n + 2) x tk ds h) Q X := by
  rw [F n tk ds h, if_pos hl]
  exact r_wpO_fin' w
end
end WW
namespace WW
open PySem
section
variable {l : Lc} {h : Hh} {X : XP} {Q : DIt → Hh → Prop}
theorem i_iter {a : ME D} : wpO (mIter a l h) Q X = wpO (a l h) (fun x h1 => getO (iterO x h1) fun it => Q it h1) X := by
  simp only [wpO_def, wpS_def]
  exact r_i_iter
theorem i_zip {as : ME (List D)} : wpO (mZip as l h) Q X = wpO (as l h) (fun xs h1 => two xs fun x y => isL x = isL y ∧ getO (iterO x h1) fun a => getO (iterO y h1) fun b => Q (.zip a b) h1) X := by
  simp only [wpO_def, wpS_def]
  exact r_i_zip
theorem i_enm {as : ME (List D)} : wpO (mEnm as l h) Q X = wpO (as l h) (fun xs h1 => one1 xs fun x => isL x = true ∧ getO (iterO x h1) fun a => Q (.enm a) h1) X := by
  simp only [wpO_def, wpS_def]
  exact r_i_enm
theorem i_range1 {as : ME (List D)} : wpO (mRange1 as l h) Q X = wpO (as l h) (fun xs h1 => oneI xs fun j => rngB j = true ∧ Q (.fix (intsFrom 0 1 j.toNat)) h1) X := by
  simp only [wpO_def, wpS_def]
  exact r_i_range1
theorem i_range2 {as : ME (List D)} : wpO (mRange2 as l h) Q X = wpO (as l h) (fun xs h1 => twoI xs fun i j => rngB i = true ∧ rngB j = true ∧ Q (.fix (intsFrom i 1 (j - i).toNat)) h1) X := by
  simp only [wpO_def, wpS_def]
  exact r_i_range2
end
section
variable {l : Lc} {h : Hh} {K : Ks} {tg : MG} {body : MS}
theorem s_for {mi : ME DIt} (xs : List D) (I : Nat → Lc → Hh → Prop) (hi : wpO (mi l h) (fun it h1 => xs.length ≤ itLen it h1 ∧ I 0 l h1 ∧ ∀ i l h, i ≤ xs.length → I i l h → ∀ j, itAt it h j = some xs[j]?) (fun e h1 => K.ex e l h1))
    (step : ∀ i d l h, xs[i]? = some d → I i l h → wpO (tg d l h) (fun l1 h1 => wpS (body l1 h1) ⟨fun l h => I (i + 1) l h, K.rt, K.nx, fun l h => I (i + 1) l h, K.ex⟩) (fun e h1 => K.ex e l h1))
    (fin : ∀ l h, I xs.length l h → K.nx l h) : wpS (sFor mi tg body l h) K := by
  simp only [wpO_def, wpS_def] at *
  exact r_s_for xs I hi step fin
theorem s_while {t : ME Bool} (I : Nat → Lc → Hh → Prop) (n : Nat) (h0 : I n l h)
    (step : ∀ n l h, I n l h → wpO (t l h) (fun b h1 => if b = true then wpS (body l h1) ⟨fun l h => ∃ m, m < n ∧ I m l h, K.rt, K.nx, fun l h => ∃ m, m < n ∧ I m l h, K.ex⟩ else K.nx l h1) (fun e h1 => K.ex e l h1)) : wpS (sWhile t body l h) K := by
  simp only [wpO_def, wpS_def] at *
  exact r_s_while I n h0 step
end
section
variable {l : Lc} {h : Hh} {X : XP} {Q : D → Hh → Prop}
theorem w_lcF {mi : ME DIt} {tg : MG} {ts : ME Bool} {e : ME D} {vs : List Nat} (xs : List D) (I : Nat → List D → Hh → Prop)
    (hi : wpO (mi l h) (fun it h1 => xs.length ≤ itLen it h1 ∧ xs.length ≤ sizeLine ∧ h1.length = h.length ∧ I 0 [] h1 ∧ ∀ i acc hb, i ≤ xs.length → I i acc hb → ∀ j, itAt it (hb ++ [.lst acc]) j = some xs[j]?) X)
    (step : ∀ i d acc hb, xs[i]? = some d → hb.length = h.length → I i acc hb → wpO (tg d (wipeL l vs) (hb ++ [.lst acc])) (fun l1 h2 => wpO (ts l1 h2) (fun b h3 => if b = true then wpO (e l1 h3) (fun y h4 => ∃ hb', h4 = hb' ++ [.lst acc] ∧ hb'.length = h.length ∧ I (i + 1) (acc ++ [y]) hb') (fun _ _ => False)
      else ∃ hb', h3 = hb' ++ [.lst acc] ∧ hb'.length = h.length ∧ I (i + 1) acc hb') (fun _ _ => False)) (fun _ _ => False))
    (fin : ∀ acc hb, I xs.length acc hb → hb.length = h.length → Hok hb ∧ D.lows 0 acc = true ∧ Q (.lst acc) hb) : wpO (mLcF (mLc mi tg ts e vs) l h) Q X := by
  simp only [wpO_def, wpS_def] at *
  exact r_w_lcF xs I hi step fin
end
section
variable {c : Fam} {n np N : Nat} {x : Str} {ds : List D} {h : Hh} {Q : D → Hh → Prop} {X : XP} {m : (Str → List D → Hh → Out D) → MS}
theorem Is.wp (F : Is c x np N false false m) (hl : ds.length = np) (w : wpS (m (c n) (ds.map some ++ List.replicate (N - ds.length) none) h) (Ks.fin h Q X)) : wpO (c (n + 1) x ds h) Q X := by
  simp only [wpO_def, wpS_def] at *
  exact F.r_wp hl w
theorem Is.wpV (F : Is c x np N true false m) (hl : np ≤ ds.length ∧ ds.length ≤ 1000) (w : wpS (m (c n) ((ds.take np ++ [D.tup (ds.drop np)]).map some ++ List.replicate (N - (np + 1)) none) h) (Ks.fin h Q X)) : wpO (c (n + 1) x ds h) Q X := by
  simp only [wpO_def, wpS_def] at *
  exact F.r_wpV hl w
theorem Is.wpK (F : Is c x np N false true m) (hl : ds.length = np) (w : WW.wpS (m (c n) (ds.map some ++ List.replicate (N - ds.length) none) h) (Ks.body (fun v h' => ∃ xs, v = .ref h.length ∧ h' = h ++ [.lst xs] ∧ olds h.length h' = true ∧ D.lows h.length xs = true ∧ Q (.ref h.length) (h ++ [.lst xs])) fun _ _ => False)) : wpO (c (n + 1) x ds h) Q X := by
  simp only [wpO_def, wpS_def] at *
  exact F.r_wpK hl w
theorem eq_of_wp {o : Out D} {v : D} (w : wpO o (fun a h' => a = v ∧ h' = h) fun _ _ => False) : o = .ok v h := by
  simp only [wpO_def, wpS_def] at *
  exact r_eq_of_wp w
end
section
variable {Q : D → Hh → Prop} {X : XP} {l : Lc} {h : Hh}
theorem w_isX {xs : List Xd} {T : Str} {m : ME D} : wpO (mIsX xs T m l h) Q X = wpO (m l h) (fun x h1 => getO (isXD xs T x) fun b => Q (.bl b) h1) X := by
  simp only [wpO_def, wpS_def]
  exact r_w_isX
theorem w_fld {xs : List Xd} {f : Str} {m : ME D} : wpO (mFld xs f m l h) Q X = wpO (m l h) (fun x h1 => getO (fldX xs f x) fun v => Q v h1) X := by
  simp only [wpO_def, wpS_def]
  exact r_w_fld
theorem w_callC {F : List D → Hh → Out D} {ms : ME (List D)} : wpO (mCallC F ms l h) Q X = wpO (ms l h) (fun ds h1 => lowsOk ds h1 = true ∧ wpO (F ds h1) Q X) X := by
  simp only [wpO_def, wpS_def]
  exact r_w_callC
theorem w_act {i : Nat} {tk : Thk} {ms : ME (List D)} (hl : l[i]? = some (some .thk)) : wpO (mAct i tk ms l h) Q X = wpO (ms l h) (fun ds h1 => lowsOk ds h1 = true ∧ wpO (tk ds h1) Q X) X := by
  simp only [wpO_def, wpS_def]
  exact r_w_act hl
theorem w_lam {F : Thk → List D → Hh → Out D} {n : Nat} {ms : ME (List D)} {mb : ME D} : wpO (mLam F n ms mb l h) Q X = wpO (ms l h) (fun ds h1 => wpO (F (lamD n l mb) ds h1) (fun d h2 => lowsOk [d] h2 = true ∧ Q d h2) fun _ _ => False) X := by
  simp only [wpO_def, wpS_def]
  exact r_w_lam
theorem w_lamD {n : Nat} {mb : ME D} {ds : List D} (hl : ds.length = n) : wpO (lamD n l mb ds h) Q X = wpO (mb (l ++ ds.map some) h) Q X := by
  simp only [wpO_def, wpS_def]
  exact r_lamD hl
theorem w_all_nil {Q : List D → Hh → Prop} : wpO (mAll [] l h) Q X = Q [] h := by
  simp only [wpO_def, wpS_def]
  exact r_w_all_nil
theorem w_all_cons {m : ME D} {ms : List (ME D)} {Q : List D → Hh → Prop} : wpO (mAll (m :: ms) l h) Q X = wpO (m l h) (fun x h1 => wpO (mAll ms l h1) (fun xs h2 => Q (x :: xs) h2) X) X := by
  simp only [wpO_def, wpS_def]
  exact r_w_all_cons
end
section
variable {K : Ks} {l : Lc} {h : Hh}
theorem s_raise {x : Str} {f : Option Str} {m : ME D} : wpS (sRaise x f m l h) K = wpO (m l h) (fun v h1 => K.ex ⟨x, f.map fun y => (y, v)⟩ l h1) (fun e h1 => K.ex e l h1) := by
  simp only [wpO_def, wpS_def]
  exact r_s_raise
theorem s_try {xs : List Xd} {m : MS} {hs : List Hdl} : wpS (sTry xs m hs l h) K = wpS (m l h) { K with ex := fun e l h => wpS (hndl xs e l h hs) K } := by
  simp only [wpO_def, wpS_def]
  exact r_s_try
theorem h_nil {xs : List Xd} {e : Exn} : wpS (hndl xs e l h []) K = K.ex e l h := by
  simp only [wpO_def, wpS_def]
  exact r_hndl_nil
theorem h_yes {xs : List Xd} {e : Exn} {y : Str} {io : Option Nat} {ms : MS} {r : List Hdl} {d : Xd} (hf : findX xs e.cls = some d) (hs : d.sup.contains y = true) : wpS (hndl xs e l h ((y, io, ms) :: r)) K = wpS (ms (lSu l io e) h) K.su := by
  simp only [wpO_def, wpS_def]
  exact r_hndl_yes hf hs
theorem h_no {xs : List Xd} {e : Exn} {y : Str} {io : Option Nat} {ms : MS} {r : List Hdl} {d : Xd} (hf : findX xs e.cls = some d) (hs : d.sup.contains y = false) : wpS (hndl xs e l h ((y, io, ms) :: r)) K = wpS (hndl xs e l h r) K := by
  simp only [wpO_def, wpS_def]
  exact r_hndl_no hf hs
end
section
variable {c : Fam} {cT : FamT} {n np N : Nat} {x : Str} {ds : List D} {h : Hh} {Q : D → Hh → Prop} {X : XP}
theorem IsL.wp {m : (Str → List D → Hh → Out D) → (Str → List D → Hh → Out D) → (Str → Thk → List D → Hh → Out D) → MS} (F : IsL c cT x np N m) (hl : ds.length = np) (w : wpS (m (c (n + 2)) (c n) (cT (n + 2)) (ds.map some ++ List.replicate (N - ds.length) none) h) (Ks.fin h Q X)) : wpO (c (n + 3) x ds h) Q X := by
  simp only [wpO_def, wpS_def] at *
  exact F.r_wp hl w
theorem IsT.wp {tk : Thk} {m : (Str → List D → Hh → Out D) → Thk → MS} (F : IsT c cT x np N m) (hl : ds.length + 1 = np) (w : wpS (m (c (n + 1)) tk ((ds ++ [D.thk]).map some ++ List.replicate (N - (ds.length + 1)) none) h) (Ks.fin h Q X)) : wpO (cT (n + 2) x tk ds h) Q X := by
  simp only [wpO_def, wpS_def] at *
  exact F.r_wp hl w
end
end WW
namespace Mr
open PySem WW
/-- all defs, as called -/
abbrev Cll : Type := Str → List D → Hh → Out D
abbrev CllT : Type := Str → Thk → List D → Hh → Out D
def xs : List Xd := [⟨"WordsError", none, ["WordsError", "ValueError"]⟩, ⟨"InvalidWidth", none, ["InvalidWidth", "WordsError", "ValueError"]⟩, ⟨"InvalidVector", none, ["InvalidVector", "WordsError", "ValueError"]⟩, ⟨"InvalidBasis", none, ["InvalidBasis", "WordsError", "ValueError"]⟩, ⟨"InvalidNumber", some "value", ["InvalidNumber", "IndexError", "LookupError"]⟩]
/-- _law_stream: 0 script, 1 at, 2 cell, 3 great, 4 mixed -/
noncomputable def m_law_stream (c : Cll) : MS :=
    (sSeq (sAsg (mBin .Add (mBin .Mult (mC (.int 11)) (mVar 1)) (mC (.int 4))) (gNm 2))
    (sSeq (sIf (mBlT (mCmp .Lt (mVar 1) (mBi fLen (mCons (mVar 0) mNil)))) (sAsg (mIx (mVar 0) (mVar 1)) (gNm 2)) sNext)
    (sSeq (sAsg (mBin .Mod (mBi fAbs (mCons (mVar 2) mNil)) (mBin .Pow (mBin .Pow (mC (.int 10)) (mC (.int 60))) (mC (.int 12)))) (gNm 3))
    (sSeq (sAsg (mBin .Mod (mBin .Add (mBin .Add (mBin .Add (mBin .Mult (mBin .Mod (mVar 3) (mC (.int 2147483587))) (mC (.int 69621))) (mBin .Mult (mC (.int 1009)) (mVar 1))) (mBin .Mult (mC (.int 3)) (mBi fInt (mCons (mCmp .Lt (mVar 2) (mC (.int 0))) mNil)))) (mC (.int 17))) (mC (.int 2147483647))) (gNm 4))
    (sRet (mNew (mLst (mCons (mBi fMax (mCons (mC (.int 0)) (mCons (mBin .Sub (mVar 3) (mBin .Pow (mC (.int 10)) (mC (.int 18)))) mNil))) (mCons (mVar 4) (mCons (mC (.int 0)) mNil))))))))))
/-- _law_draw: 0 stream, 1 total, 2 found, 3 one, 4 two -/
noncomputable def m_law_draw (c : Cll) : MS :=
    (sSeq (sIf (mBlT (mCmp .Gt (mIx (mVar 0) (mC (.int 0))) (mC (.int 0)))) (sSeq (sAsg (mBin .Mod (mIx (mVar 0) (mC (.int 0))) (mVar 1)) (gNm 2))
    (sSeq (sAsg (mBin .FloorDiv (mIx (mVar 0) (mC (.int 0))) (mVar 1)) (gIx (mVar 0) (mC (.int 0))))
    (sRet (mVar 2)))) sNext)
    (sSeq (sAsg (mBin .Add (mIx (mVar 0) (mC (.int 2))) (mC (.int 1))) (gIx (mVar 0) (mC (.int 2))))
    (sSeq (sAsg (mBin .Mod (mBin .Add (mIx (mVar 0) (mC (.int 1))) (mBin .Mult (mC (.int 1000033)) (mIx (mVar 0) (mC (.int 2))))) (mC (.int 2305843009213693951))) (gNm 3))
    (sSeq (sAsg (mBin .Mod (mBin .Add (mBin .Mult (mBin .Mod (mBin .Mult (mVar 3) (mVar 3)) (mC (.int 2305843009213693921))) (mVar 3)) (mBin .Mult (mC (.int 7919)) (mIx (mVar 0) (mC (.int 2))))) (mC (.int 2305843009213693907))) (gNm 4))
    (sRet (mBin .Mod (mBin .FloorDiv (mVar 4) (mC (.int 8192))) (mVar 1)))))))
/-- is_integer: 0 value -/
noncomputable def m_is_integer (c : Cll) : MS :=
    (sRet (mAndV (mIsT "int" (mVar 0)) (mNotV (mIsT "bool" (mVar 0)))))
/-- is_between: 0 value, 1 low, 2 high -/
noncomputable def m_is_between (c : Cll) : MS :=
    (sRet (mAndV (mCall (c "is_integer") (mCons (mVar 0) mNil)) (mChain .LtE .LtE (mVar 1) (mVar 0) (mVar 2))))
/-- is_width: 0 value -/
noncomputable def m_is_width (c : Cll) : MS :=
    (sRet (mCall (c "is_between") (mCons (mVar 0) (mCons (mC (.int 1)) (mCons (mC (.int 16)) mNil)))))
/-- is_size: 0 value -/
noncomputable def m_is_size (c : Cll) : MS :=
    (sRet (mCall (c "is_between") (mCons (mVar 0) (mCons (mC (.int 1)) (mCons (mC (.int 40)) mNil)))))
/-- require_width: 0 width -/
noncomputable def m_require_width (c : Cll) : MS :=
    (sIf (mNotT (mTru (mCall (c "is_width") (mCons (mVar 0) mNil)))) (sRaise "InvalidWidth" none (mC (.str "not a width"))) sNext)
/-- require_size: 0 size -/
noncomputable def m_require_size (c : Cll) : MS :=
    (sIf (mNotT (mTru (mCall (c "is_size") (mCons (mVar 0) mNil)))) (sRaise "InvalidNumber" (some "value") (mVar 0)) sNext)
/-- modulus_of: 0 width -/
noncomputable def m_modulus_of (c : Cll) : MS :=
    (sRet (mBin .LShift (mC (.int 1)) (mVar 0)))
/-- is_word_of: 0 width, 1 value -/
noncomputable def m_is_word_of (c : Cll) : MS :=
    (sRet (mCall (c "is_between") (mCons (mVar 1) (mCons (mC (.int 0)) (mCons (mBin .Sub (mCall (c "modulus_of") (mCons (mVar 0) mNil)) (mC (.int 1))) mNil)))))
/-- are_words: 0 width, 1 value, 2 word -/
noncomputable def m_are_words (c : Cll) : MS :=
    (sRet (mAndV (mIsT "tuple" (mVar 1)) (mBi fAll (mCons (mLcF (mLc (mIter (mVar 1)) (gNm 2) (mRet true) (mCall (c "is_word_of") (mCons (mVar 0) (mCons (mVar 2) mNil))) [2])) mNil))))
/-- is_vector_of: 0 width, 1 size, 2 value -/
noncomputable def m_is_vector_of (c : Cll) : MS :=
    (sRet (mAndV (mCall (c "are_words") (mCons (mVar 0) (mCons (mVar 2) mNil))) (mCmp .Eq (mBi fLen (mCons (mVar 2) mNil)) (mVar 1))))
/-- is_word: 0 width, 1 value -/
noncomputable def m_is_word (c : Cll) : MS :=
    (sSeq (sDrop (mCall (c "require_width") (mCons (mVar 0) mNil)))
    (sRet (mCall (c "is_word_of") (mCons (mVar 0) (mCons (mVar 1) mNil)))))
/-- is_vector: 0 width, 1 size, 2 value -/
noncomputable def m_is_vector (c : Cll) : MS :=
    (sSeq (sDrop (mCall (c "require_width") (mCons (mVar 0) mNil)))
    (sSeq (sDrop (mCall (c "require_size") (mCons (mVar 1) mNil)))
    (sRet (mCall (c "is_vector_of") (mCons (mVar 0) (mCons (mVar 1) (mCons (mVar 2) mNil)))))))
/-- _law_row: 0 stream, 1 width, 2 size, 3 some, 4 top, 5 at -/
noncomputable def m_law_row (c : Cll) : MS :=
    (sSeq (sPar 3 4 (mCons (mNew (mLst mNil)) (mCons (mBin .LShift (mC (.int 1)) (mVar 1)) mNil)))
    (sSeq (sFor (mRange1 (mCons (mVar 2) mNil)) (gNm 5) (sDrop (mMth "list" fApp (mVar 3) (mCons (mIx (mFz (mLst (mCons (mC (.int 0)) (mCons (mC (.int 1)) (mCons (mC (.int 0)) (mCons (mC (.int 1)) (mCons (mBin .Mod (mC (.int 2)) (mVar 4)) (mCons (mBin .Sub (mVar 4) (mC (.int 1))) (mCons (mBin .FloorDiv (mVar 4) (mC (.int 2))) (mCons (mCall (c "_law_draw") (mCons (mVar 0) (mCons (mVar 4) mNil))) mNil)))))))))) (mCall (c "_law_draw") (mCons (mVar 0) (mCons (mC (.int 8)) mNil)))) mNil))))
    (sRet (mBi fTup (mCons (mVar 3) mNil)))))
/-- is_any_vector: 0 width, 1 value -/
noncomputable def m_is_any_vector (c : Cll) : MS :=
    (sRet (mAndV (mCall (c "are_words") (mCons (mVar 0) (mCons (mVar 1) mNil))) (mChain .LtE .LtE (mC (.int 1)) (mBi fLen (mCons (mVar 1) mNil)) (mC (.int 40)))))
/-- require_vector: 0 width, 1 size, 2 vector -/
noncomputable def m_require_vector (c : Cll) : MS :=
    (sIf (mNotT (mTru (mCall (c "is_vector_of") (mCons (mVar 0) (mCons (mVar 1) (mCons (mVar 2) mNil)))))) (sRaise "InvalidVector" none (mC (.str "not a vector of this size"))) sNext)
/-- require_word: 0 width, 1 word -/
noncomputable def m_require_word (c : Cll) : MS :=
    (sIf (mNotT (mTru (mCall (c "is_word_of") (mCons (mVar 0) (mCons (mVar 1) mNil))))) (sRaise "InvalidNumber" (some "value") (mVar 1)) sNext)
/-- sum_by: 0 width, 1 one, 2 other, 3 modulus, 4 first, 5 second -/
noncomputable def m_sum_by (c : Cll) : MS :=
    (sSeq (sAsg (mCall (c "modulus_of") (mCons (mVar 0) mNil)) (gNm 3))
    (sRet (mBi fTup (mCons (mLcF (mLc (mZip (mCons (mVar 1) (mCons (mVar 2) mNil))) (gTp 2 (gsCons (gNm 4) (gsCons (gNm 5) gsNil))) (mRet true) (mBin .Mod (mBin .Add (mVar 4) (mVar 5)) (mVar 3)) [4, 5])) mNil))))
/-- multiple_by: 0 width, 1 vector, 2 factor, 3 modulus, 4 word -/
noncomputable def m_multiple_by (c : Cll) : MS :=
    (sSeq (sAsg (mCall (c "modulus_of") (mCons (mVar 0) mNil)) (gNm 3))
    (sRet (mBi fTup (mCons (mLcF (mLc (mIter (mVar 1)) (gNm 4) (mRet true) (mBin .Mod (mBin .Mult (mVar 2) (mVar 4)) (mVar 3)) [4])) mNil))))
/-- dot_by: 0 width, 1 one, 2 other, 3 first, 4 second -/
noncomputable def m_dot_by (c : Cll) : MS :=
    (sRet (mBin .Mod (mBi fSum (mCons (mLcF (mLc (mZip (mCons (mVar 1) (mCons (mVar 2) mNil))) (gTp 2 (gsCons (gNm 3) (gsCons (gNm 4) gsNil))) (mRet true) (mBin .Mult (mVar 3) (mVar 4)) [3, 4])) mNil)) (mCall (c "modulus_of") (mCons (mVar 0) mNil))))
/-- vector_sum: 0 width, 1 size, 2 vectors, 3 found, 4 vector -/
noncomputable def m_vector_sum (c : Cll) : MS :=
    (sSeq (sDrop (mCall (c "require_width") (mCons (mVar 0) mNil)))
    (sSeq (sDrop (mCall (c "require_size") (mCons (mVar 1) mNil)))
    (sSeq (sAsg (mBin .Mult (mTup (mCons (mC (.int 0)) mNil)) (mVar 1)) (gNm 3))
    (sSeq (sFor (mIter (mVar 2)) (gNm 4) (sSeq (sDrop (mCall (c "require_vector") (mCons (mVar 0) (mCons (mVar 1) (mCons (mVar 4) mNil)))))
    (sAsg (mCall (c "sum_by") (mCons (mVar 0) (mCons (mVar 3) (mCons (mVar 4) mNil)))) (gNm 3))))
    (sRet (mVar 3))))))
/-- vector_multiple: 0 width, 1 vector, 2 factor -/
noncomputable def m_vector_multiple (c : Cll) : MS :=
    (sSeq (sDrop (mCall (c "require_width") (mCons (mVar 0) mNil)))
    (sSeq (sIf (mNotT (mTru (mCall (c "is_any_vector") (mCons (mVar 0) (mCons (mVar 1) mNil))))) (sRaise "InvalidVector" none (mC (.str "not a vector"))) sNext)
    (sSeq (sDrop (mCall (c "require_word") (mCons (mVar 0) (mCons (mVar 2) mNil))))
    (sRet (mCall (c "multiple_by") (mCons (mVar 0) (mCons (mVar 1) (mCons (mVar 2) mNil))))))))
/-- dot_product: 0 width, 1 first, 2 second -/
noncomputable def m_dot_product (c : Cll) : MS :=
    (sSeq (sDrop (mCall (c "require_width") (mCons (mVar 0) mNil)))
    (sSeq (sIf (mOrT (mNotT (mTru (mCall (c "is_any_vector") (mCons (mVar 0) (mCons (mVar 1) mNil))))) (mOrT (mNotT (mTru (mCall (c "is_any_vector") (mCons (mVar 0) (mCons (mVar 2) mNil))))) (mBlT (mCmp .NotEq (mBi fLen (mCons (mVar 1) mNil)) (mBi fLen (mCons (mVar 2) mNil)))))) (sRaise "InvalidVector" none (mC (.str "not two vectors of one size"))) sNext)
    (sRet (mCall (c "dot_by") (mCons (mVar 0) (mCons (mVar 1) (mCons (mVar 2) mNil)))))))
/-- level_of: 0 width, 1 word, 2 level -/
noncomputable def m_level_of (c : Cll) : MS :=
    (sSeq (sIf (mBlT (mCmp .Eq (mVar 1) (mC (.int 0)))) (sRet (mVar 0)) sNext)
    (sSeq (sAsg (mC (.int 0)) (gNm 2))
    (sSeq (sWhile (mBlT (mCmp .Eq (mBin .BitAnd (mBin .RShift (mVar 1) (mVar 2)) (mC (.int 1))) (mC (.int 0)))) (sAug 2 .Add (mC (.int 1))))
    (sRet (mVar 2)))))
/-- inverse_of: 0 width, 1 word, 2 modulus, 3 found, 4 bits -/
noncomputable def m_inverse_of (c : Cll) : MS :=
    (sSeq (sAsg (mCall (c "modulus_of") (mCons (mVar 0) mNil)) (gNm 2))
    (sSeq (sAsg (mTup (mCons (mC (.int 1)) (mCons (mC (.int 1)) mNil))) (gSq 2 (gsCons (gNm 3) (gsCons (gNm 4) gsNil))))
    (sSeq (sWhile (mBlT (mCmp .Lt (mVar 4) (mVar 0))) (sSeq (sAsg (mBin .Mod (mBin .Mult (mVar 3) (mBin .Sub (mC (.int 2)) (mBin .Mult (mVar 1) (mVar 3)))) (mVar 2)) (gNm 3))
    (sAug 4 .Mult (mC (.int 2)))))
    (sRet (mVar 3)))))
/-- word_level: 0 width, 1 word -/
noncomputable def m_word_level (c : Cll) : MS :=
    (sSeq (sDrop (mCall (c "require_width") (mCons (mVar 0) mNil)))
    (sSeq (sDrop (mCall (c "require_word") (mCons (mVar 0) (mCons (mVar 1) mNil))))
    (sRet (mCall (c "level_of") (mCons (mVar 0) (mCons (mVar 1) mNil))))))
/-- word_inverse: 0 width, 1 word -/
noncomputable def m_word_inverse (c : Cll) : MS :=
    (sSeq (sDrop (mCall (c "require_width") (mCons (mVar 0) mNil)))
    (sSeq (sIf (mOrT (mNotT (mTru (mCall (c "is_word_of") (mCons (mVar 0) (mCons (mVar 1) mNil))))) (mBlT (mCmp .Eq (mBin .Mod (mVar 1) (mC (.int 2))) (mC (.int 0))))) (sRaise "InvalidNumber" (some "value") (mVar 1)) sNext)
    (sRet (mCall (c "inverse_of") (mCons (mVar 0) (mCons (mVar 1) mNil))))))
/-- require_vectors: 0 width, 1 size, 2 vectors, 3 vector -/
noncomputable def m_require_vectors (c : Cll) : MS :=
    (sIf (mOrT (mNotT (mTru (mIsT "tuple" (mVar 2)))) (mNotT (mTru (mBi fAll (mCons (mLcF (mLc (mIter (mVar 2)) (gNm 3) (mRet true) (mCall (c "is_vector_of") (mCons (mVar 0) (mCons (mVar 1) (mCons (mVar 3) mNil)))) [3])) mNil))))) (sRaise "InvalidVector" none (mC (.str "not a tuple of vectors of this size"))) sNext)
/-- _law_pick: 0 stream, 1 items -/
noncomputable def m_law_pick (c : Cll) : MS :=
    (sRet (mIx (mVar 1) (mCall (c "_law_draw") (mCons (mVar 0) (mCons (mBi fLen (mCons (mVar 1) mNil)) mNil)))))
/-- _law_other: 0 stream, 1 some -/
noncomputable def m_law_other (c : Cll) : MS :=
    (sSeq (sAsg (mFz (mLst (mCons (mC .non) (mCons (mC (.bl true)) (mCons (mC (.bl false)) (mCons (mNeg (mC (.int 1))) (mCons (mC (.int 0)) (mCons (mC (.int 1)) (mCons (mC (.int 2)) (mCons (mC (.int 15)) (mCons (mC (.int 16)) (mCons (mC (.int 17)) (mCons (mC (.int 40)) (mCons (mC (.int 41)) (mCons (mBin .Pow (mC (.int 10)) (mC (.int 39))) (mCons (mBin .Sub (mC (.int 0)) (mBin .Pow (mC (.int 10)) (mC (.int 39)))) (mCons (mC (.str "")) (mCons (mC (.str "a")) (mCons (mC (.str "1")) (mCons (mTup mNil) (mCons (mFz (mLst mNil)) (mCons mDic0 (mCons (mTup (mCons (mC (.int 0)) mNil)) mNil))))))))))))))))))))))) (gNm 1))
    (sSeq (sAsg (mBin .Add (mVar 1) (mFz (mLst (mCons (mTup (mCons (mC (.bl true)) mNil)) (mCons (mTup (mCons (mTup mNil) mNil)) (mCons (mFz (mLst (mCons (mC (.int 1)) mNil))) (mCons (mTup (mCons (mC (.int 1)) (mCons (mC (.int 0)) mNil))) (mCons (mTup (mCons (mC .non) mNil)) (mCons (mC (.dic [(.inl 0, .int 1)])) (mCons (mTup (mCons (mC (.str "1")) mNil)) (mCons (mTup (mCons (mTup (mCons (mC (.int 1)) (mCons (mC (.int 0)) mNil))) mNil)) (mCons (mFz (mLst (mCons (mTup (mCons (mC (.int 1)) mNil)) mNil))) (mCons (mTup (mCons (mC (.int 0)) (mCons (mNeg (mC (.int 1))) mNil))) (mCons (mTup (mCons (mC (.int 65536)) mNil)) mNil)))))))))))))) (gNm 1))
    (sRet (mCall (c "_law_pick") (mCons (mVar 0) (mCons (mVar 1) mNil))))))
/-- _law_width: 0 stream -/
noncomputable def m_law_width (c : Cll) : MS :=
    (sRet (mIx (mFz (mLst (mCons (mC (.int 1)) (mCons (mC (.int 2)) (mCons (mC (.int 3)) (mCons (mC (.int 4)) (mCons (mC (.int 8)) (mCons (mC (.int 16)) (mCons (mC (.int 5)) (mCons (mBin .Add (mC (.int 1)) (mCall (c "_law_draw") (mCons (mVar 0) (mCons (mC (.int 16)) mNil)))) mNil)))))))))) (mCall (c "_law_draw") (mCons (mVar 0) (mCons (mC (.int 8)) mNil)))))
/-- _law_size: 0 stream -/
noncomputable def m_law_size (c : Cll) : MS :=
    (sRet (mIx (mFz (mLst (mCons (mC (.int 1)) (mCons (mC (.int 2)) (mCons (mC (.int 3)) (mCons (mC (.int 2)) (mCons (mC (.int 4)) (mCons (mBin .Add (mC (.int 1)) (mCall (c "_law_draw") (mCons (mVar 0) (mCons (mC (.int 40)) mNil)))) mNil)))))))) (mCall (c "_law_draw") (mCons (mVar 0) (mCons (mC (.int 6)) mNil)))))
/-- _law_is_word: 0 width, 1 value -/
noncomputable def m_law_is_word (c : Cll) : MS :=
    (sRet (mAndV (mIsT "int" (mVar 1)) (mAndV (mNotV (mIsT "bool" (mVar 1))) (mChain .LtE .Lt (mC (.int 0)) (mVar 1) (mBin .LShift (mC (.int 1)) (mVar 0))))))
/-- _law_is_vector: 0 width, 1 size, 2 value, 3 word -/
noncomputable def m_law_is_vector (c : Cll) : MS :=
    (sSeq (sIf (mOrT (mNotT (mTru (mIsT "tuple" (mVar 2)))) (mBlT (mCmp .NotEq (mBi fLen (mCons (mVar 2) mNil)) (mVar 1)))) (sRet (mC (.bl false))) sNext)
    (sRet (mCmp .Eq (mLcF (mLc (mIter (mVar 2)) (gNm 3) (mNotT (mTru (mCall (c "_law_is_word") (mCons (mVar 0) (mCons (mVar 3) mNil))))) (mC (.int 1)) [3])) (mFz (mLst mNil)))))
/-- _law_bent: 0 stream, 1 value, 2 at, 3 some -/
noncomputable def m_law_bent_k01 (c : Cll) : MS :=
    (sSeq (sIf (mAndT (mTru (mIsT "tuple" (mVar 1))) (mAndT (mBlT (mCmp .NotEq (mVar 1) (mTup mNil))) (mBlT (mCmp .Gt (mCall (c "_law_draw") (mCons (mVar 0) (mCons (mC (.int 3)) mNil))) (mC (.int 0)))))) (sSeq (sAsg (mCall (c "_law_draw") (mCons (mVar 0) (mCons (mBi fLen (mCons (mVar 1) mNil)) mNil))) (gNm 2))
    (sRet (mBin .Add (mBin .Add (mSl (mVar 1) mNoP (mP (mVar 2))) (mTup (mCons (mCall (c "_law_bent") (mCons (mVar 0) (mCons (mIx (mVar 1) (mVar 2)) mNil))) mNil))) (mSl (mVar 1) (mP (mBin .Add (mVar 2) (mC (.int 1)))) mNoP)))) sNext)
    (sSeq (sIf (mTru (mIsT "tuple" (mVar 1))) (sSeq (sAsg (mFz (mLst (mCons (mFz (mList (mVar 1))) (mCons (mSl (mVar 1) mNoP (mP (mNeg (mC (.int 1))))) (mCons (mBin .Add (mVar 1) (mSl (mVar 1) (mP (mNeg (mC (.int 1)))) mNoP)) (mCons (mSl (mVar 1) (mP (mC (.int 1))) mNoP) (mCons (mBin .Add (mVar 1) (mTup (mCons (mC (.int 0)) mNil))) (mCons (mTup (mCons (mVar 1) mNil)) (mCons (mRev (mVar 1)) (mCons (mTup mNil) (mCons (mC .non) mNil))))))))))) (gNm 3))
    (sRet (mCall (c "_law_pick") (mCons (mVar 0) (mCons (mBin .Add (mVar 3) (mFz (mLst (mCons (mCall (c "_law_other") (mCons (mVar 0) mNil)) mNil)))) mNil))))) sNext)
    (sSeq (sIf (mAndT (mTru (mIsT "int" (mVar 1))) (mNotT (mTru (mIsT "bool" (mVar 1))))) (sSeq (sAsg (mFz (mLst (mCons (mBin .Add (mVar 1) (mC (.int 1))) (mCons (mBin .Sub (mVar 1) (mC (.int 1))) (mCons (mBin .Sub (mC (.int 0)) (mVar 1)) (mCons (mBin .Mult (mC (.int 2)) (mVar 1)) (mCons (mBi fStr (mCons (mVar 1) mNil)) (mCons (mCmp .Eq (mVar 1) (mC (.int 1))) (mCons (mC .non) (mCons (mTup (mCons (mVar 1) mNil)) (mCons (mFz (mLst (mCons (mVar 1) mNil))) (mCons (mC (.int 65536)) mNil)))))))))))) (gNm 3))
    (sRet (mCall (c "_law_pick") (mCons (mVar 0) (mCons (mBin .Add (mVar 3) (mFz (mLst (mCons (mCall (c "_law_other") (mCons (mVar 0) mNil)) mNil)))) mNil))))) sNext)
    (sRet (mCall (c "_law_other") (mCons (mVar 0) mNil))))))
/-- _law_bad: 0 stream, 1 is_good, 2 value, 3 turn -/
noncomputable def m_law_bad (c : Cll) (tk : Thk) : MS :=
    (sSeq (sAsg (mCallC (c "_law_other") (mCons (mVar 0) mNil)) (gNm 2))
    (sSeq (sFor (mRange1 (mCons (mC (.int 40)) mNil)) (gNm 3) (sIf (mTru (mAct 1 tk (mAll [(mVar 2)]))) (sAsg (mCallC (c "_law_other") (mCons (mVar 0) mNil)) (gNm 2)) sNext))
    (sRet (mIfE (mNotT (mTru (mAct 1 tk (mAll [(mVar 2)])))) (mVar 2) (mC .non)))))
/-- _law_bad_width: 0 stream -/
noncomputable def m_law_bad_width (c cL : Cll) (cT : CllT) : MS :=
    (sRet (mLam (cT "_law_bad") 1 (mAll [(mVar 0)]) (mAndV (mCall (cL "_law_is_word") (mCons (mC (.int 5)) (mCons (mVar 1) mNil))) (mChain .LtE .LtE (mC (.int 1)) (mVar 1) (mC (.int 16))))))
/-- _law_bad_size: 0 stream -/
noncomputable def m_law_bad_size (c cL : Cll) (cT : CllT) : MS :=
    (sRet (mLam (cT "_law_bad") 1 (mAll [(mVar 0)]) (mAndV (mCall (cL "_law_is_word") (mCons (mC (.int 6)) (mCons (mVar 1) mNil))) (mChain .LtE .LtE (mC (.int 1)) (mVar 1) (mC (.int 40))))))
/-- _law_word: 0 stream, 1 width -/
noncomputable def m_law_word (c : Cll) : MS :=
    (sRet (mIx (mCall (c "_law_row") (mCons (mVar 0) (mCons (mVar 1) (mCons (mC (.int 1)) mNil)))) (mC (.int 0))))
/-- _law_refusal: 0 call, 1 e, 2 kinds -/
noncomputable def m_law_refusal (c : Cll) (tk : Thk) : MS :=
    (sSeq (sTry xs (sDrop (mAct 0 tk (mAll []))) [("InvalidNumber", some 1, (sRet (mIfE (mNotT (mTru (mIsX xs "WordsError" (mVar 1)))) (mBin .Add (mC (.str "number ")) (mBi fRepr (mCons (mFld xs "value" (mVar 1)) mNil))) (mC (.str "other"))))),
      ("WordsError", some 1, (sSeq (sAsg (mFz (mLst (mCons (mIsX xs "InvalidWidth" (mVar 1)) (mCons (mIsX xs "InvalidVector" (mVar 1)) (mCons (mIsX xs "InvalidBasis" (mVar 1)) mNil))))) (gNm 2))
    (sRet (mIfE (mBlT (mCmp .Eq (mMth "list" fCount (mVar 2) (mCons (mC (.bl true)) mNil)) (mC (.int 1)))) (mIx (mFz (mLst (mCons (mC (.str "width")) (mCons (mC (.str "vector")) (mCons (mC (.str "basis")) mNil))))) (mMth "list" fIndex (mVar 2) (mCons (mC (.bl true)) mNil))) (mC (.str "other"))))))])
    (sRet (mC (.str "returned"))))
/-- _law_word_right: 0 width, 1 word, 2 level, 3 found -/
noncomputable def m_law_word_right (c cL : Cll) (cT : CllT) : MS :=
    (sSeq (sAsg (mC (.int 0)) (gNm 2))
    (sSeq (sWhile (mAndT (mBlT (mCmp .Lt (mVar 2) (mVar 0))) (mBlT (mCmp .Eq (mBin .Mod (mVar 1) (mBin .LShift (mC (.int 2)) (mVar 2))) (mC (.int 0))))) (sAsg (mBin .Add (mVar 2) (mC (.int 1))) (gNm 2)))
    (sSeq (sIf (mBlT (mCmp .NotEq (mBi fRepr (mCons (mCall (c "word_level") (mCons (mVar 0) (mCons (mVar 1) mNil))) mNil)) (mBi fRepr (mCons (mVar 2) mNil)))) (sRet (mC (.bl false))) sNext)
    (sSeq (sIf (mBlT (mCmp .Eq (mBin .Mod (mVar 1) (mC (.int 2))) (mC (.int 0)))) (sRet (mCmp .Eq (mLam (cT "_law_refusal") 0 (mAll []) (mCall (cL "word_inverse") (mCons (mVar 0) (mCons (mVar 1) mNil)))) (mBin .Add (mC (.str "number ")) (mBi fRepr (mCons (mVar 1) mNil))))) sNext)
    (sSeq (sAsg (mCall (c "word_inverse") (mCons (mVar 0) (mCons (mVar 1) mNil))) (gNm 3))
    (sRet (mAndV (mCall (c "_law_is_word") (mCons (mVar 0) (mCons (mVar 3) mNil))) (mCmp .Eq (mBin .Mod (mBin .Mult (mVar 3) (mVar 1)) (mBin .LShift (mC (.int 1)) (mVar 0))) (mC (.int 1))))))))))
/-- _law_bad_word: 0 stream, 1 width -/
noncomputable def m_law_bad_word (c cL : Cll) (cT : CllT) : MS :=
    (sRet (mLam (cT "_law_bad") 1 (mAll [(mVar 0)]) (mCall (cL "_law_is_word") (mCons (mVar 1) (mCons (mVar 2) mNil)))))
/-- _law_bad_vector: 0 stream, 1 width, 2 size, 3 vector, 4 value, 5 turn -/
noncomputable def m_law_bad_vector (c : Cll) : MS :=
    (sSeq (sAsg (mCall (c "_law_row") (mCons (mVar 0) (mCons (mVar 1) (mCons (mVar 2) mNil)))) (gNm 3))
    (sSeq (sAsg (mCall (c "_law_bent") (mCons (mVar 0) (mCons (mVar 3) mNil))) (gNm 4))
    (sSeq (sFor (mRange1 (mCons (mC (.int 20)) mNil)) (gNm 5) (sIf (mTru (mCall (c "_law_is_vector") (mCons (mVar 1) (mCons (mVar 2) (mCons (mVar 4) mNil))))) (sAsg (mCall (c "_law_bent") (mCons (mVar 0) (mCons (mVar 3) mNil))) (gNm 4)) sNext))
    (sRet (mIfE (mNotT (mTru (mCall (c "_law_is_vector") (mCons (mVar 1) (mCons (mVar 2) (mCons (mVar 4) mNil)))))) (mVar 4) (mFz (mList (mVar 3))))))))
/-- _law_is_any: 0 width, 1 value -/
noncomputable def m_law_is_any (c : Cll) : MS :=
    (sRet (mAndV (mIsT "tuple" (mVar 1)) (mAndV (mChain .LtE .LtE (mC (.int 1)) (mBi fLen (mCons (mVar 1) mNil)) (mC (.int 40))) (mCall (c "_law_is_vector") (mCons (mVar 0) (mCons (mBi fLen (mCons (mVar 1) mNil)) (mCons (mVar 1) mNil)))))))
/-- _law_errors_right: 0 stream, 1 width, 2 size, 3 wide, 4 many, 5 word, 6 good, 7 odd, 8 free, 9 found, 10 words, 11 due -/
noncomputable def m_law_errors_right_k03 (c cL : Cll) (cT : CllT) : MS :=
    (sSeq (sAsg (mTup (mCons (mCall (c "_law_bad_width") (mCons (mVar 0) mNil)) (mCons (mCall (c "_law_bad_size") (mCons (mVar 0) mNil)) mNil))) (gSq 2 (gsCons (gNm 3) (gsCons (gNm 4) gsNil))))
    (sSeq (sAsg (mTup (mCons (mCall (c "_law_bad_word") (mCons (mVar 0) (mCons (mVar 1) mNil))) (mCons (mCall (c "_law_row") (mCons (mVar 0) (mCons (mVar 1) (mCons (mVar 2) mNil)))) mNil))) (gSq 2 (gsCons (gNm 5) (gsCons (gNm 6) gsNil))))
    (sSeq (sAsg (mCall (c "_law_bad_vector") (mCons (mVar 0) (mCons (mVar 1) (mCons (mVar 2) mNil)))) (gNm 7))
    (sSeq (sAsg (mIfE (mNotT (mTru (mCall (c "_law_is_any") (mCons (mVar 1) (mCons (mVar 7) mNil))))) (mVar 7) (mFz (mList (mVar 6)))) (gNm 8))
    (sSeq (sAsg (mNew (mLst (mCons (mLam (cT "_law_refusal") 0 (mAll []) (mCall (cL "vector_sum") (mCons (mVar 3) (mCons (mVar 4) (mCons (mVar 7) mNil))))) mNil))) (gNm 9))
    (sSeq (sDrop (mMth "list" fApp (mVar 9) (mCons (mLam (cT "_law_refusal") 0 (mAll []) (mCall (cL "vector_sum") (mCons (mVar 1) (mCons (mVar 4) (mCons (mVar 7) mNil))))) mNil)))
    (sSeq (sDrop (mMth "list" fApp (mVar 9) (mCons (mLam (cT "_law_refusal") 0 (mAll []) (mCall (cL "vector_sum") (mCons (mVar 1) (mCons (mVar 2) (mCons (mVar 7) mNil))))) mNil)))
    (sSeq (sDrop (mMth "list" fApp (mVar 9) (mCons (mLam (cT "_law_refusal") 0 (mAll []) (mCall (cL "vector_sum") (mCons (mVar 1) (mCons (mVar 2) (mCons (mVar 6) (mCons (mVar 7) mNil)))))) mNil)))
    (sSeq (sDrop (mMth "list" fApp (mVar 9) (mCons (mLam (cT "_law_refusal") 0 (mAll []) (mCall (cL "vector_multiple") (mCons (mVar 3) (mCons (mVar 8) (mCons (mVar 5) mNil))))) mNil)))
    (sSeq (sDrop (mMth "list" fApp (mVar 9) (mCons (mLam (cT "_law_refusal") 0 (mAll []) (mCall (cL "vector_multiple") (mCons (mVar 1) (mCons (mVar 8) (mCons (mVar 5) mNil))))) mNil)))
    (sSeq (sDrop (mMth "list" fApp (mVar 9) (mCons (mLam (cT "_law_refusal") 0 (mAll []) (mCall (cL "vector_multiple") (mCons (mVar 1) (mCons (mVar 6) (mCons (mVar 5) mNil))))) mNil)))
    (sSeq (sDrop (mMth "list" fApp (mVar 9) (mCons (mLam (cT "_law_refusal") 0 (mAll []) (mCall (cL "dot_product") (mCons (mVar 3) (mCons (mVar 8) (mCons (mC (.int 0)) mNil))))) mNil)))
    (sSeq (sDrop (mMth "list" fApp (mVar 9) (mCons (mLam (cT "_law_refusal") 0 (mAll []) (mCall (cL "dot_product") (mCons (mVar 1) (mCons (mVar 8) (mCons (mVar 6) mNil))))) mNil)))
    (sSeq (sDrop (mMth "list" fApp (mVar 9) (mCons (mLam (cT "_law_refusal") 0 (mAll []) (mCall (cL "dot_product") (mCons (mVar 1) (mCons (mVar 6) (mCons (mVar 7) mNil))))) mNil)))
    (sSeq (sDrop (mMth "list" fApp (mVar 9) (mCons (mLam (cT "_law_refusal") 0 (mAll []) (mCall (cL "word_level") (mCons (mVar 3) (mCons (mVar 5) mNil)))) mNil)))
    (sSeq (sDrop (mMth "list" fApp (mVar 9) (mCons (mLam (cT "_law_refusal") 0 (mAll []) (mCall (cL "word_level") (mCons (mVar 1) (mCons (mVar 5) mNil)))) mNil)))
    (sSeq (sDrop (mMth "list" fApp (mVar 9) (mCons (mLam (cT "_law_refusal") 0 (mAll []) (mCall (cL "word_inverse") (mCons (mVar 3) (mCons (mVar 5) mNil)))) mNil)))
    (sSeq (sDrop (mMth "list" fApp (mVar 9) (mCons (mLam (cT "_law_refusal") 0 (mAll []) (mCall (cL "word_inverse") (mCons (mVar 1) (mCons (mVar 5) mNil)))) mNil)))
    (sSeq (sAsg (mFz (mLst (mCons (mBin .Add (mC (.str "number ")) (mBi fRepr (mCons (mVar 4) mNil))) (mCons (mBin .Add (mC (.str "number ")) (mBi fRepr (mCons (mVar 5) mNil))) mNil)))) (gNm 10))
    (sSeq (sAsg (mFz (mLst (mCons (mC (.str "width")) (mCons (mIx (mVar 10) (mC (.int 0))) (mCons (mC (.str "vector")) (mCons (mC (.str "vector")) (mCons (mC (.str "width")) (mCons (mC (.str "vector")) (mCons (mIx (mVar 10) (mC (.int 1))) (mCons (mC (.str "width")) (mCons (mC (.str "vector")) (mCons (mC (.str "vector")) mNil)))))))))))) (gNm 11))
    (sRet (mCmp .Eq (mVar 9) (mBin .Add (mVar 11) (mBin .Mult (mFz (mLst (mCons (mC (.str "width")) (mCons (mIx (mVar 10) (mC (.int 1))) mNil)))) (mC (.int 2))))))))))))))))))))))))))
/-- _law_long_right: 0 word, 1 found -/
noncomputable def m_law_long_right_k03 (c cL : Cll) (cT : CllT) : MS :=
    (sSeq (sFor (mIter (mTup (mCons (mC (.int 3)) (mCons (mC (.int 5)) (mCons (mC (.int 7)) (mCons (mC (.int 12345)) (mCons (mC (.int 40503)) (mCons (mC (.int 65533)) (mCons (mC (.int 32768)) (mCons (mC (.int 49152)) mNil)))))))))) (gNm 0) (sIf (mNotT (mTru (mCall (c "_law_word_right") (mCons (mC (.int 16)) (mCons (mVar 0) mNil))))) (sRet (mC (.bl false))) sNext))
    (sSeq (sAsg (mNew (mLst (mCons (mLam (cT "_law_refusal") 0 (mAll []) (mCall (cL "vector_multiple") (mCons (mC (.int 3)) (mCons (mBin .Mult (mTup (mCons (mC (.int 1)) mNil)) (mC (.int 41))) (mCons (mC (.int 1)) mNil))))) mNil))) (gNm 1))
    (sSeq (sDrop (mMth "list" fApp (mVar 1) (mCons (mLam (cT "_law_refusal") 0 (mAll []) (mCall (cL "vector_multiple") (mCons (mC (.int 3)) (mCons (mTup mNil) (mCons (mC (.int 1)) mNil))))) mNil)))
    (sSeq (sDrop (mMth "list" fApp (mVar 1) (mCons (mLam (cT "_law_refusal") 0 (mAll []) (mCall (cL "dot_product") (mCons (mC (.int 3)) (mCons (mBin .Mult (mTup (mCons (mC (.int 1)) mNil)) (mC (.int 41))) (mCons (mBin .Mult (mTup (mCons (mC (.int 1)) mNil)) (mC (.int 41))) mNil))))) mNil)))
    (sSeq (sDrop (mMth "list" fApp (mVar 1) (mCons (mLam (cT "_law_refusal") 0 (mAll []) (mCall (cL "dot_product") (mCons (mC (.int 3)) (mCons (mTup mNil) (mCons (mTup mNil) mNil))))) mNil)))
    (sRet (mAndV (mCmp .Eq (mVar 1) (mBin .Mult (mFz (mLst (mCons (mC (.str "vector")) mNil))) (mC (.int 4)))) (mCmp .Eq (mCall (c "vector_multiple") (mCons (mC (.int 3)) (mCons (mBin .Mult (mTup (mCons (mC (.int 5)) mNil)) (mC (.int 40))) (mCons (mC (.int 3)) mNil)))) (mBin .Mult (mTup (mCons (mC (.int 7)) mNil)) (mC (.int 40)))))))))))
/-- law: 0 script, 1 k, 2 stream, 3 width, 4 size, 5 some, 6 turn, 7 word -/
noncomputable def m_law_k03 (c : Cll) : MS :=
    (sSeq (sFor (mRange1 (mCons (mBi fMax (mCons (mC (.int 1)) (mCons (mBi fMin (mCons (mC (.int 8)) (mCons (mBi fLen (mCons (mVar 0) mNil)) mNil))) mNil))) mNil)) (gNm 1) (sSeq (sAsg (mCall (c "_law_stream") (mCons (mVar 0) (mCons (mVar 1) mNil))) (gNm 2))
    (sSeq (sAsg (mTup (mCons (mCall (c "_law_width") (mCons (mVar 2) mNil)) (mCons (mCall (c "_law_size") (mCons (mVar 2) mNil)) mNil))) (gSq 2 (gsCons (gNm 3) (gsCons (gNm 4) gsNil))))
    (sSeq (sAsg (mLcF (mLc (mRange1 (mCons (mC (.int 12)) mNil)) (gNm 6) (mRet true) (mCall (c "_law_word") (mCons (mVar 2) (mCons (mVar 3) mNil))) [6])) (gNm 5))
    (sSeq (sIf (mBlT (mCmp .Lt (mVar 3) (mC (.int 5)))) (sAsg (mFz (mListR (mBin .LShift (mC (.int 1)) (mVar 3)))) (gNm 5)) sNext)
    (sSeq (sFor (mIter (mBin .Add (mVar 5) (mFz (mLst (mCons (mC (.int 0)) (mCons (mC (.int 1)) (mCons (mBin .Sub (mBin .LShift (mC (.int 1)) (mVar 3)) (mC (.int 1))) mNil))))))) (gNm 7) (sIf (mNotT (mTru (mCall (c "_law_word_right") (mCons (mVar 3) (mCons (mVar 7) mNil))))) (sRet (mC (.bl false))) sNext))
    (sIf (mNotT (mTru (mCall (c "_law_errors_right") (mCons (mVar 2) (mCons (mVar 3) (mCons (mVar 4) mNil)))))) (sRet (mC (.bl false))) sNext)))))))
    (sRet (mCall (c "_law_long_right") mNil)))
end Mr
namespace Pw
open PySem WW Mr
theorem vw_non {h : Hh} : vw h .non = .non := rfl
theorem vw_bl {h : Hh} {b : Bool} : vw h (.bl b) = .bl b := rfl
theorem vw_int {h : Hh} {i : Int} : vw h (.int i) = .int i := rfl
theorem vw_str {h : Hh} {i : Str} : vw h (.str i) = .str i := rfl
theorem vw_tup {h : Hh} {i : List D} : vw h (.tup i) = .tup i := rfl
theorem vw_lst {h : Hh} {i : List D} : vw h (.lst i) = .lst i := rfl
theorem vw_lok {h : Hh} {i : List D} : vw h (.lok i) = .lok i := rfl
theorem vw_dic {h : Hh} {i : List (L2.Key × D)} : vw h (.dic i) = .dic i := rfl
theorem fin_rt {h h' : Hh} {Q : D → Hh → Prop} {X : XP} {v : D} : (Ks.fin h Q X).rt v h' = (olds h.length h' = true ∧ v.low h.length = true ∧ Q v (h'.take h.length)) := rfl
theorem fin_nx {h h' : Hh} {Q : D → Hh → Prop} {X : XP} {l : Lc} : (Ks.fin h Q X).nx l h' = (olds h.length h' = true ∧ D.low h.length .non = true ∧ Q .non (h'.take h.length)) := rfl
/-- the heap is as it was -/
theorem end_rt {h : Hh} {Q : D → Hh → Prop} {X : XP} {v : D} (H : Hok h) (hv : v.low 0 = true) (q : Q v h) : (Ks.fin h Q X).rt v h := ⟨olds_of H _, low_mono (Nat.zero_le _) hv, by rw [List.take_length]; exact q⟩
theorem end_nx {h : Hh} {Q : D → Hh → Prop} {X : XP} {l : Lc} (H : Hok h) (q : Q .non h) : (Ks.fin h Q X).nx l h := ⟨olds_of H _, by rw [D.low], by rw [List.take_length]; exact q⟩
theorem end_eq {h : Hh} {X : XP} {v w : D} (H : Hok h) (hv : v.low 0 = true) (q : v = w) : (Ks.fin h (fun a h' => a = w ∧ h' = h) X).rt v h := end_rt H hv ⟨q, rfl⟩
theorem low_bl {n : Nat} {b : Bool} : D.low n (.bl b) = true := by rw [D.low]
theorem low_int {n : Nat} {b : Int} : D.low n (.int b) = true := by rw [D.low]
theorem low_str {n : Nat} {b : Str} : D.low n (.str b) = true := by rw [D.low]
theorem low_non {n : Nat} : D.low n .non = true := by rw [D.low]
theorem low_tup {n : Nat} {xs : List D} : D.low n (.tup xs) = D.lows n xs := by rw [D.low]
theorem low_lst {n : Nat} {xs : List D} : D.low n (.lst xs) = D.lows n xs := by rw [D.low]
mutual
theorem lay_low : ∀ {d : D}, d.lay = true → d.low 0 = true
  | .non, _ | .bl _, _ | .int _, _ | .str _, _ => by unfold D.low; rfl
  | .tup xs, h => by unfold D.lay at h; unfold D.low; exact lays_lows h
  | .lst xs, h => by unfold D.lay at h; unfold D.low; exact lays_lows h
  | .dic kvs, h => by unfold D.lay at h; unfold D.low; exact layk_lowk h
  | .lok _, h | .ref _, h | .thk, h | .exo _ _, h => by unfold D.lay at h; cases h
theorem lays_lows : ∀ {ds : List D}, D.lays ds = true → D.lows 0 ds = true
  | [], _ => by unfold D.lows; rfl
  | d :: ds, h => by
    unfold D.lays at h
    unfold D.lows
    obtain ⟨h1, h2⟩ := Bool.and_eq_true_iff.mp h
    rw [lay_low h1, lays_lows h2]; rfl
theorem layk_lowk : ∀ {ds : List (L2.Key × D)}, D.layk ds = true → D.lowk 0 ds = true
  | [], _ => by unfold D.lowk; rfl
  | (_, d) :: ds, h => by
    unfold D.layk at h
    unfold D.lowk
    obtain ⟨h1, h2⟩ := Bool.and_eq_true_iff.mp h
    rw [lay_low h1, layk_lowk h2]; rfl
end
theorem lays_get {ds : List D} {i : Nat} {d : D} (h : D.lays ds = true) (e : ds[i]? = some d) : d.lay = true := by
  induction ds generalizing i with
  | nil => simp at e
  | cons x xs ih =>
    unfold D.lays at h
    obtain ⟨h1, h2⟩ := Bool.and_eq_true_iff.mp h
    cases i with
    | zero => simp at e; rw [← e]; exact h1
    | succ i => exact ih h2 (by simpa using e)
theorem lay_vw {h : Hh} {v : D} (hv : v.lay = true) : vw h v = v := by
  cases v <;> first | rfl | (unfold D.lay at hv; cases hv)
theorem lay_ty {v : D} (hv : v.lay = true) : ∃ t, tyD v = some t := by
  cases v <;> first | exact ⟨_, rfl⟩ | (unfold D.lay at hv; cases hv)
/-- is it an int that is no bool -/
def isI : D → Bool
  | .int _ => true
  | _ => false
def btw (v : D) (lo hi : Int) : Bool := match v with
  | .int i => decide (lo ≤ i ∧ i ≤ hi)
  | _ => false
def tupB : D → Bool
  | .tup _ => true
  | _ => false
section
variable {c : Fam} {n : Nat} {h : Hh}
theorem is_integer_v (F : Is c "is_integer" 1 1 false false m_is_integer) {v : D} (hv : v.lay = true) (H : Hok h) : c (n + 1) "is_integer" [v] h = .ok (.bl (isI v)) h := by
  refine eq_of_wp (F.wp rfl ?_)
  unfold m_is_integer
  simp only [w_ret, w_bad, w_var, w_c, w_dic0, w_bin, w_cmp, w_ix, w_tru, w_notV, w_andV, w_orV, w_ifE, w_notT, w_andT, w_orT, w_blT, w_chain, w_nil, w_cons, w_tup, w_lst, w_fz, w_new, w_neg, w_noP, w_P, w_sl, w_rev, w_bi, w_isT, w_call, w_list, w_listR, w_cat, w_mth, s_next, s_bad, s_break, s_cont, s_retN, s_seq, s_drop, s_ret, s_if, s_set, s_asg, g_nm, gs_nil, gs_cons, g_tp, g_sq, g_ix, s_par, s_par3, i_iter, i_zip, i_enm, i_range1, i_range2, wpO_ok, getO_some, isBl_bl, isInt_int, List.getElem?_cons_zero, List.getElem?_cons_succ, List.map_cons, List.map_nil, List.length_cons, List.length_nil, List.cons_append, List.nil_append, Nat.zero_add, Nat.reduceAdd, Nat.reduceSub, List.replicate_succ, List.replicate_zero, List.set_cons_zero, List.set_cons_succ, vw_non, vw_bl, vw_int, vw_str, vw_tup, vw_lst, vw_dic, vw_lok, Bool.not_true, Bool.not_false, Bool.false_eq_true, if_true, if_false, reduceIte, lay_vw hv]
  cases v <;> first | (unfold D.lay at hv; cases hv; done) | exact end_eq H low_bl rfl
theorem is_between_v (F0 : Is c "is_integer" 1 1 false false m_is_integer) (F : Is c "is_between" 3 3 false false m_is_between) {v : D} {lo hi : Int} (hv : v.lay = true) (H : Hok h) : c (n + 2) "is_between" [v, .int lo, .int hi] h = .ok (.bl (btw v lo hi)) h := by
  refine eq_of_wp (F.wp rfl ?_)
  unfold m_is_between
  simp only [w_ret, w_bad, w_var, w_c, w_dic0, w_bin, w_cmp, w_ix, w_tru, w_notV, w_andV, w_orV, w_ifE, w_notT, w_andT, w_orT, w_blT, w_chain, w_nil, w_cons, w_tup, w_lst, w_fz, w_new, w_neg, w_noP, w_P, w_sl, w_rev, w_bi, w_isT, w_call, w_list, w_listR, w_cat, w_mth, s_next, s_bad, s_break, s_cont, s_retN, s_seq, s_drop, s_ret, s_if, s_set, s_asg, g_nm, gs_nil, gs_cons, g_tp, g_sq, g_ix, s_par, s_par3, i_iter, i_zip, i_enm, i_range1, i_range2, wpO_ok, getO_some, isBl_bl, isInt_int, List.getElem?_cons_zero, List.getElem?_cons_succ, List.map_cons, List.map_nil, List.length_cons, List.length_nil, List.cons_append, List.nil_append, Nat.zero_add, Nat.reduceAdd, Nat.reduceSub, List.replicate_succ, List.replicate_zero, List.set_cons_zero, List.set_cons_succ, vw_non, vw_bl, vw_int, vw_str, vw_tup, vw_lst, vw_dic, vw_lok, Bool.not_true, Bool.not_false, Bool.false_eq_true, if_true, if_false, reduceIte, is_integer_v F0 hv H, truD, lay_vw hv]
  cases v with
  | int i =>
    simp only [isI, cmpD, getO_some, vw_int, if_true]
    by_cases h1 : lo ≤ i
    · simp only [h1, decide_true, if_true]
      refine end_eq H low_bl ?_
      unfold btw
      simp [h1]
    · simp only [h1, decide_false, Bool.false_eq_true, if_false]
      refine end_eq H low_bl ?_
      unfold btw
      simp [h1]
  | _ => first | exact end_eq H low_bl rfl | (unfold D.lay at hv; cases hv)
/-- the words' defs -/
structure W0 (c : Fam) : Prop where
  f0 : Is c "is_integer" 1 1 false false m_is_integer
  f1 : Is c "is_between" 3 3 false false m_is_between
  f2 : Is c "is_width" 1 1 false false m_is_width
  f3 : Is c "modulus_of" 1 1 false false m_modulus_of
  f4 : Is c "is_word_of" 2 2 false false m_is_word_of
  f5 : Is c "are_words" 2 3 false false m_are_words
  f6 : Is c "is_vector_of" 3 3 false false m_is_vector_of
theorem W0.between (W : W0 c) {v : D} {lo hi : Int} (hv : v.lay = true) (H : Hok h) : c (n + 2) "is_between" [v, .int lo, .int hi] h = .ok (.bl (btw v lo hi)) h := is_between_v W.f0 W.f1 hv H
theorem W0.width (W : W0 c) {v : D} (hv : v.lay = true) (H : Hok h) : c (n + 3) "is_width" [v] h = .ok (.bl (btw v 1 16)) h := by
  refine eq_of_wp (W.f2.wp rfl ?_)
  unfold m_is_width
  simp only [w_ret, w_bad, w_var, w_c, w_dic0, w_bin, w_cmp, w_ix, w_tru, w_notV, w_andV, w_orV, w_ifE, w_notT, w_andT, w_orT, w_blT, w_chain, w_nil, w_cons, w_tup, w_lst, w_fz, w_new, w_neg, w_noP, w_P, w_sl, w_rev, w_bi, w_isT, w_call, w_list, w_listR, w_cat, w_mth, s_next, s_bad, s_break, s_cont, s_retN, s_seq, s_drop, s_ret, s_if, s_set, s_asg, g_nm, gs_nil, gs_cons, g_tp, g_sq, g_ix, s_par, s_par3, i_iter, i_zip, i_enm, i_range1, i_range2, wpO_ok, getO_some, isBl_bl, isInt_int, List.getElem?_cons_zero, List.getElem?_cons_succ, List.map_cons, List.map_nil, List.length_cons, List.length_nil, List.cons_append, List.nil_append, Nat.zero_add, Nat.reduceAdd, Nat.reduceSub, List.replicate_succ, List.replicate_zero, List.set_cons_zero, List.set_cons_succ, vw_non, vw_bl, vw_int, vw_str, vw_tup, vw_lst, vw_dic, vw_lok, Bool.not_true, Bool.not_false, Bool.false_eq_true, if_true, if_false, reduceIte, W.between hv H]
  exact end_eq H low_bl rfl
theorem W0.modulus (W : W0 c) {w : Int} (h0 : 0 ≤ w) (h1 : w ≤ 1000) (H : Hok h) : c (n + 1) "modulus_of" [.int w] h = .ok (.int (2 ^ w.toNat)) h := by
  refine eq_of_wp (W.f3.wp rfl ?_)
  unfold m_modulus_of
  have e : (0 ≤ w ∧ (Builtin.Int.intBits 1 : Int) + w ≤ 2 ^ 27) := ⟨h0, by
    have : (Builtin.Int.intBits 1 : Int) = 1 := by decide +kernel
    rw [this]; omega⟩
  simp only [w_ret, w_bad, w_var, w_c, w_dic0, w_bin, w_cmp, w_ix, w_tru, w_notV, w_andV, w_orV, w_ifE, w_notT, w_andT, w_orT, w_blT, w_chain, w_nil, w_cons, w_tup, w_lst, w_fz, w_new, w_neg, w_noP, w_P, w_sl, w_rev, w_bi, w_isT, w_call, w_list, w_listR, w_cat, w_mth, s_next, s_bad, s_break, s_cont, s_retN, s_seq, s_drop, s_ret, s_if, s_set, s_asg, g_nm, gs_nil, gs_cons, g_tp, g_sq, g_ix, s_par, s_par3, i_iter, i_zip, i_enm, i_range1, i_range2, wpO_ok, getO_some, isBl_bl, isInt_int, List.getElem?_cons_zero, List.getElem?_cons_succ, List.map_cons, List.map_nil, List.length_cons, List.length_nil, List.cons_append, List.nil_append, Nat.zero_add, Nat.reduceAdd, Nat.reduceSub, List.replicate_succ, List.replicate_zero, List.set_cons_zero, List.set_cons_succ, vw_non, vw_bl, vw_int, vw_str, vw_tup, vw_lst, vw_dic, vw_lok, Bool.not_true, Bool.not_false, Bool.false_eq_true, if_true, if_false, reduceIte, binD, if_pos e]
  exact end_eq H low_int (by rw [Int.one_mul])
/-- the words of a width, by 2 ** width -/
def wordB (w : Int) (v : D) : Bool := btw v 0 (2 ^ w.toNat - 1)
theorem W0.word (W : W0 c) {w : Int} {v : D} (h0 : 0 ≤ w) (h1 : w ≤ 1000) (hv : v.lay = true) (H : Hok h) : c (n + 3) "is_word_of" [.int w, v] h = .ok (.bl (wordB w v)) h := by
  refine eq_of_wp (W.f4.wp rfl ?_)
  unfold m_is_word_of
  simp only [w_ret, w_bad, w_var, w_c, w_dic0, w_bin, w_cmp, w_ix, w_tru, w_notV, w_andV, w_orV, w_ifE, w_notT, w_andT, w_orT, w_blT, w_chain, w_nil, w_cons, w_tup, w_lst, w_fz, w_new, w_neg, w_noP, w_P, w_sl, w_rev, w_bi, w_isT, w_call, w_list, w_listR, w_cat, w_mth, s_next, s_bad, s_break, s_cont, s_retN, s_seq, s_drop, s_ret, s_if, s_set, s_asg, g_nm, gs_nil, gs_cons, g_tp, g_sq, g_ix, s_par, s_par3, i_iter, i_zip, i_enm, i_range1, i_range2, wpO_ok, getO_some, isBl_bl, isInt_int, List.getElem?_cons_zero, List.getElem?_cons_succ, List.map_cons, List.map_nil, List.length_cons, List.length_nil, List.cons_append, List.nil_append, Nat.zero_add, Nat.reduceAdd, Nat.reduceSub, List.replicate_succ, List.replicate_zero, List.set_cons_zero, List.set_cons_succ, vw_non, vw_bl, vw_int, vw_str, vw_tup, vw_lst, vw_dic, vw_lok, Bool.not_true, Bool.not_false, Bool.false_eq_true, if_true, if_false, reduceIte, W.modulus h0 h1 H, binD, W.between hv H]
  exact end_eq H low_bl rfl
def wordsB (w : Int) (v : D) : Bool := match v with
  | .tup xs => xs.all (wordB w)
  | _ => false
theorem blsD_map {xs : List Bool} : blsD (xs.map D.bl) = some xs := by
  induction xs with
  | nil => rfl
  | cons x xs ih => rw [List.map_cons]; unfold blsD; rw [ih]; rfl
theorem lows_bl {n : Nat} {xs : List Bool} : D.lows n (xs.map D.bl) = true := by
  induction xs with
  | nil => exact lows_nil
  | cons x xs ih => rw [List.map_cons, lows_cons, low_bl, ih]; rfl
theorem lows_int {n : Nat} {xs : List Int} : D.lows n (xs.map D.int) = true := by
  induction xs with
  | nil => exact lows_nil
  | cons x xs ih => rw [List.map_cons, lows_cons, low_int, ih]; rfl
end
/-! ### comprehensions that change nothing -/
/-- what is walked, whatever is laid behind -/
def SeqH (it : DIt) (h : Hh) (xs : List D) : Prop := (∀ t j, itAt it (h ++ t) j = some xs[j]?) ∧ xs.length ≤ itLen it h
theorem sqh_fix {xs : List D} {h : Hh} : SeqH (.fix xs) h xs := ⟨fun t j => by rw [itAt], by rw [itLen]; exact Nat.le_refl _⟩
theorem sqh_cell {xs : List D} {h : Hh} {r : Nat} (e : h[r]? = some (.lst xs)) : SeqH (.cell r) h xs := ⟨fun t j => by
  rw [itAt, List.getElem?_append_left (List.getElem?_eq_some_iff.mp e).1, e], by rw [itLen, e]; exact Nat.le_refl _⟩
theorem sqh_zip {xs ys : List D} {h : Hh} {a b : DIt} (ha : SeqH a h xs) (hb : SeqH b h ys) : SeqH (.zip a b) h (zipT xs ys) := by
  refine ⟨fun t i => ?_, ?_⟩
  · rw [itAt, ha.1 t i, hb.1 t i]
    unfold zipT
    rw [List.getElem?_zipWith]
    cases xs[i]? with
    | none => cases ys[i]? <;> rfl
    | some x => cases ys[i]? <;> rfl
  · rw [itLen]
    unfold zipT
    rw [List.length_zipWith]
    have := ha.2
    have := hb.2
    omega
theorem sqh_enm {xs : List D} {h : Hh} {a : DIt} (ha : SeqH a h xs) : SeqH (.enm a) h (enumT xs) := by
  refine ⟨fun t i => ?_, ?_⟩
  · rw [itAt, ha.1 t i]
    unfold enumT
    rw [List.getElem?_zipWith]
    cases e : xs[i]? with
    | none => cases (List.range xs.length)[i]? <;> rfl
    | some x =>
      rw [List.getElem?_range (List.getElem?_eq_some_iff.mp e).1]
      rfl
  · rw [itLen]
    unfold enumT
    rw [List.length_zipWith, List.length_range]
    have := ha.2
    omega
theorem lows_filter {xs : List D} {f : D → D} {p : D → Bool} (h : ∀ d ∈ xs, p d = true → (f d).low 0 = true) : D.lows 0 ((xs.filter p).map f) = true := by
  induction xs with
  | nil => exact lows_nil
  | cons x xs ih =>
    have ih := ih fun d hd => h d (List.mem_cons_of_mem _ hd)
    rw [List.filter_cons]
    split
    · rename_i hp
      rw [List.map_cons, lows_cons, h x List.mem_cons_self hp, ih]; rfl
    · exact ih
/-- [f(d) for d in xs if p(d)] -/
theorem w_lcP {l : Lc} {h : Hh} {Q : D → Hh → Prop} {X : XP} {mi : ME DIt} {tg : MG} {ts : ME Bool} {e : ME D} {vs : List Nat} (H : Hok h) (xs : List D) (f : D → D) (p : D → Bool)
    (hi : wpO (mi l h) (fun it h1 => h1 = h ∧ xs.length ≤ sizeLine ∧ SeqH it h xs) X)
    (step : ∀ d hb, d ∈ xs → Hok hb → wpO (tg d (wipeL l vs) hb) (fun l1 h2 => h2 = hb ∧ wpO (ts l1 hb) (fun b h3 => b = p d ∧ h3 = hb ∧ (p d = true → wpO (e l1 hb) (fun y h4 => y = f d ∧ h4 = hb) fun _ _ => False)) fun _ _ => False) fun _ _ => False)
    (low : ∀ d ∈ xs, p d = true → (f d).low 0 = true) (q : Q (.lst ((xs.filter p).map f)) h) : wpO (mLcF (mLc mi tg ts e vs) l h) Q X := by
  refine w_lcF xs (fun i acc hb => hb = h ∧ acc = ((xs.take i).filter p).map f) (wpO_mono hi (fun it h1 w => ?_) fun _ _ w => w) (fun i d acc hb ed hn w => ?_) fun acc hb w hn => ?_
  · obtain ⟨rfl, w1, w2⟩ := w
    refine ⟨w2.2, w1, rfl, ⟨rfl, by simp⟩, fun i acc hb hi w j => ?_⟩
    rw [w.1]
    exact w2.1 _ j
  · obtain ⟨rfl, ea⟩ := w
    have hmem := List.mem_of_getElem? ed
    have hacc : D.lows 0 acc = true := by rw [ea]; exact lows_filter fun d hd => low d (List.mem_of_mem_take hd)
    refine wpO_mono (step d (hb ++ [.lst acc]) hmem (H.push hacc)) (fun l1 h2 w => ?_) fun _ _ w => w
    obtain ⟨rfl, w⟩ := w
    refine wpO_mono w (fun b h3 w => ?_) fun _ _ w => w
    obtain ⟨rfl, rfl, w⟩ := w
    have tk : xs.take (i + 1) = xs.take i ++ [d] := by
      rw [List.take_add_one, ed]; rfl
    by_cases hp : p d = true
    · rw [if_pos hp]
      refine wpO_mono (w hp) (fun y h4 w => ?_) fun _ _ w => w
      obtain ⟨rfl, rfl⟩ := w
      refine ⟨hb, rfl, rfl, rfl, ?_⟩
      rw [tk, List.filter_append, List.map_append, ← ea, List.filter_cons, if_pos hp]
      rfl
    · rw [if_neg hp]
      refine ⟨hb, rfl, rfl, rfl, ?_⟩
      rw [tk, List.filter_append, List.map_append, ← ea, List.filter_cons, if_neg hp]
      simp
  · obtain ⟨rfl, ea⟩ := w
    rw [List.take_length] at ea
    subst ea
    exact ⟨H, lows_filter low, q⟩
/-- [f(d) for d in xs] -/
theorem w_lcA {l : Lc} {h : Hh} {Q : D → Hh → Prop} {X : XP} {mi : ME DIt} {tg : MG} {e : ME D} {vs : List Nat} (H : Hok h) (xs : List D) (f : D → D)
    (hi : wpO (mi l h) (fun it h1 => h1 = h ∧ xs.length ≤ sizeLine ∧ SeqH it h xs) X)
    (step : ∀ d hb, d ∈ xs → Hok hb → wpO (tg d (wipeL l vs) hb) (fun l1 h2 => h2 = hb ∧ wpO (e l1 hb) (fun y h4 => y = f d ∧ h4 = hb) fun _ _ => False) fun _ _ => False)
    (low : ∀ d ∈ xs, (f d).low 0 = true) (q : Q (.lst (xs.map f)) h) : wpO (mLcF (mLc mi tg (mRet true) e vs) l h) Q X := by
  refine w_lcP H xs f (fun _ => true) hi (fun d hb hd Hb => wpO_mono (step d hb hd Hb) (fun l1 h2 w => ⟨w.1, rfl, rfl, fun _ => w.2⟩) fun _ _ w => w) (fun d hd _ => low d hd) ?_
  rw [List.filter_eq_self.mpr fun _ _ => rfl]
  exact q
section
variable {c : Fam} {n : Nat} {h : Hh}
theorem lays_mem {xs : List D} {d : D} (h : D.lays xs = true) (hd : d ∈ xs) : d.lay = true := by
  obtain ⟨i, e⟩ := List.mem_iff_getElem?.mp hd
  exact lays_get h e
theorem W0.words (W : W0 c) {w : Int} {v : D} (h0 : 0 ≤ w) (h1 : w ≤ 1000) (hv : v.lay = true) (hz : ∀ xs, v = .tup xs → xs.length ≤ sizeLine) (H : Hok h) : c (n + 4) "are_words" [.int w, v] h = .ok (.bl (wordsB w v)) h := by
  refine eq_of_wp (W.f5.wp rfl ?_)
  unfold m_are_words
  simp only [w_ret, w_bad, w_var, w_c, w_dic0, w_bin, w_cmp, w_ix, w_tru, w_notV, w_andV, w_orV, w_ifE, w_notT, w_andT, w_orT, w_blT, w_chain, w_nil, w_cons, w_tup, w_lst, w_fz, w_new, w_neg, w_noP, w_P, w_sl, w_rev, w_bi, w_isT, w_call, w_list, w_listR, w_cat, w_mth, s_next, s_bad, s_break, s_cont, s_retN, s_seq, s_drop, s_ret, s_if, s_set, s_asg, g_nm, gs_nil, gs_cons, g_tp, g_sq, g_ix, s_par, s_par3, i_iter, i_zip, i_enm, i_range1, i_range2, wpO_ok, getO_some, isBl_bl, isInt_int, List.getElem?_cons_zero, List.getElem?_cons_succ, List.map_cons, List.map_nil, List.length_cons, List.length_nil, List.cons_append, List.nil_append, Nat.zero_add, Nat.reduceAdd, Nat.reduceSub, List.replicate_succ, List.replicate_zero, List.set_cons_zero, List.set_cons_succ, vw_non, vw_bl, vw_int, vw_str, vw_tup, vw_lst, vw_dic, vw_lok, Bool.not_true, Bool.not_false, Bool.false_eq_true, if_true, if_false, reduceIte, lay_vw hv]
  cases v with
  | tup xs =>
    simp only [tyD, getO_some, isTy, truD]
    have hl : D.lays xs = true := by unfold D.lay at hv; exact hv
    refine w_lcA H xs (fun d => .bl (wordB w d)) ?_ (fun d hb hd Hb => ?_) (fun _ _ => low_bl) ?_
    · simp only [w_ret, w_bad, w_var, w_c, w_dic0, w_bin, w_cmp, w_ix, w_tru, w_notV, w_andV, w_orV, w_ifE, w_notT, w_andT, w_orT, w_blT, w_chain, w_nil, w_cons, w_tup, w_lst, w_fz, w_new, w_neg, w_noP, w_P, w_sl, w_rev, w_bi, w_isT, w_call, w_list, w_listR, w_cat, w_mth, s_next, s_bad, s_break, s_cont, s_retN, s_seq, s_drop, s_ret, s_if, s_set, s_asg, g_nm, gs_nil, gs_cons, g_tp, g_sq, g_ix, s_par, s_par3, i_iter, i_zip, i_enm, i_range1, i_range2, wpO_ok, getO_some, isBl_bl, isInt_int, List.getElem?_cons_zero, List.getElem?_cons_succ, List.map_cons, List.map_nil, List.length_cons, List.length_nil, List.cons_append, List.nil_append, Nat.zero_add, Nat.reduceAdd, Nat.reduceSub, List.replicate_succ, List.replicate_zero, List.set_cons_zero, List.set_cons_succ, vw_non, vw_bl, vw_int, vw_str, vw_tup, vw_lst, vw_dic, vw_lok, Bool.not_true, Bool.not_false, Bool.false_eq_true, if_true, if_false, reduceIte, iterO]
      exact ⟨trivial, hz xs rfl, sqh_fix⟩
    · simp only [w_ret, w_bad, w_var, w_c, w_dic0, w_bin, w_cmp, w_ix, w_tru, w_notV, w_andV, w_orV, w_ifE, w_notT, w_andT, w_orT, w_blT, w_chain, w_nil, w_cons, w_tup, w_lst, w_fz, w_new, w_neg, w_noP, w_P, w_sl, w_rev, w_bi, w_isT, w_call, w_list, w_listR, w_cat, w_mth, s_next, s_bad, s_break, s_cont, s_retN, s_seq, s_drop, s_ret, s_if, s_set, s_asg, g_nm, gs_nil, gs_cons, g_tp, g_sq, g_ix, s_par, s_par3, i_iter, i_zip, i_enm, i_range1, i_range2, wpO_ok, getO_some, isBl_bl, isInt_int, List.getElem?_cons_zero, List.getElem?_cons_succ, List.map_cons, List.map_nil, List.length_cons, List.length_nil, List.cons_append, List.nil_append, Nat.zero_add, Nat.reduceAdd, Nat.reduceSub, List.replicate_succ, List.replicate_zero, List.set_cons_zero, List.set_cons_succ, vw_non, vw_bl, vw_int, vw_str, vw_tup, vw_lst, vw_dic, vw_lok, Bool.not_true, Bool.not_false, Bool.false_eq_true, if_true, if_false, reduceIte, wipeL, W.word h0 h1 (lays_mem hl hd) Hb]
      exact ⟨trivial, trivial, trivial⟩
    · have e : xs.map (fun d => D.bl (wordB w d)) = (xs.map (wordB w)).map D.bl := by rw [List.map_map]; rfl
      simp only [vw_lst, fAll, e, blsD_map, Option.map_some, getO_some]
      refine end_eq H low_bl ?_
      unfold wordsB
      rw [List.all_map]
      rfl
  | _ => first | exact end_eq H low_bl rfl | (unfold D.lay at hv; cases hv)
def vecB (w : Int) (s : D) (v : D) : Bool := wordsB w v && (match v, s with
  | .tup xs, .int k => decide ((xs.length : Int) = k)
  | _, _ => false)
theorem W0.vec (W : W0 c) {w k : Int} {v : D} (h0 : 0 ≤ w) (h1 : w ≤ 1000) (hv : v.lay = true) (hz : ∀ xs, v = .tup xs → xs.length ≤ sizeLine) (H : Hok h) : c (n + 5) "is_vector_of" [.int w, .int k, v] h = .ok (.bl (vecB w (.int k) v)) h := by
  refine eq_of_wp (W.f6.wp rfl ?_)
  unfold m_is_vector_of
  simp only [w_ret, w_bad, w_var, w_c, w_dic0, w_bin, w_cmp, w_ix, w_tru, w_notV, w_andV, w_orV, w_ifE, w_notT, w_andT, w_orT, w_blT, w_chain, w_nil, w_cons, w_tup, w_lst, w_fz, w_new, w_neg, w_noP, w_P, w_sl, w_rev, w_bi, w_isT, w_call, w_list, w_listR, w_cat, w_mth, s_next, s_bad, s_break, s_cont, s_retN, s_seq, s_drop, s_ret, s_if, s_set, s_asg, g_nm, gs_nil, gs_cons, g_tp, g_sq, g_ix, s_par, s_par3, i_iter, i_zip, i_enm, i_range1, i_range2, wpO_ok, getO_some, isBl_bl, isInt_int, List.getElem?_cons_zero, List.getElem?_cons_succ, List.map_cons, List.map_nil, List.length_cons, List.length_nil, List.cons_append, List.nil_append, Nat.zero_add, Nat.reduceAdd, Nat.reduceSub, List.replicate_succ, List.replicate_zero, List.set_cons_zero, List.set_cons_succ, vw_non, vw_bl, vw_int, vw_str, vw_tup, vw_lst, vw_dic, vw_lok, Bool.not_true, Bool.not_false, Bool.false_eq_true, if_true, if_false, reduceIte, lay_vw hv, W.words h0 h1 hv hz H, truD]
  cases v with
  | tup xs =>
    have e0 : eqD (.int xs.length) (.int k) = some (decide ((xs.length : Int) = k)) := by
      show eqD0 _ _ = _
      unfold eqD0
      rw [if_pos (by simp [D.dat, D.py, SeqAt.shaped, PyData.canLay0, PyData.depth])]
      unfold D.py PyData.eqv
      rfl
    simp only [fLen, getO_some, vw_int, cmpD, e0]
    by_cases hw : wordsB w (.tup xs) = true
    · simp only [hw, if_true]
      refine end_eq H low_bl ?_
      unfold vecB
      rw [hw, Bool.true_and]
    · simp only [hw]
      rw [if_neg Bool.false_ne_true]
      refine end_eq H low_bl ?_
      unfold vecB
      rw [Bool.not_eq_true] at hw
      rw [hw, Bool.false_and]
  | _ => first | exact end_eq H low_bl rfl | (unfold D.lay at hv; cases hv)
end
end Pw
/-! the laws' stream of draws -/
namespace Pw
open PySem WW Mr
def stc (a b k : Int) : Cell := .lst [.int a, .int b, .int k]
def StOk (B : Nat) (a b k : Int) : Prop := 0 ≤ a ∧ 0 ≤ b ∧ b < 2 ^ 31 ∧ 0 ≤ k ∧ k ≤ B
def St (s B : Nat) (h : Hh) : Prop := ∃ a b k, h[s]? = some (stc a b k) ∧ StOk B a b k
/-- the stream at s has gone on, all else is as it was -/
def Ch (s B : Nat) (h h' : Hh) : Prop := ∃ a b k, h' = h.set s (stc a b k) ∧ StOk B a b k
section
variable {s B B' : Nat} {h h' h2 : Hh}
theorem StOk.mono {a b k : Int} (x : StOk B a b k) (e : B ≤ B') : StOk B' a b k := ⟨x.1, x.2.1, x.2.2.1, x.2.2.2.1, by have := x.2.2.2.2; omega⟩
theorem St.mono (x : St s B h) (e : B ≤ B') : St s B' h := let ⟨a, b, k, h1, h2⟩ := x; ⟨a, b, k, h1, h2.mono e⟩
theorem Ch.mono (x : Ch s B h h') (e : B ≤ B') : Ch s B' h h' := let ⟨a, b, k, h1, h2⟩ := x; ⟨a, b, k, h1, h2.mono e⟩
theorem St.lt (x : St s B h) : s < h.length := let ⟨_, _, _, h1, _⟩ := x; (List.getElem?_eq_some_iff.mp h1).1
theorem Ch.refl (x : St s B h) : Ch s B h h := by
  obtain ⟨a, b, k, h1, h2⟩ := x
  refine ⟨a, b, k, ?_, h2⟩
  apply List.ext_getElem?
  intro j
  by_cases e : s = j
  · subst e
    rw [List.getElem?_set_self (List.getElem?_eq_some_iff.mp h1).1, h1]
  · rw [List.getElem?_set_ne e]
theorem Ch.trans (x : Ch s B h h') (y : Ch s B' h' h2) : Ch s B' h h2 := by
  obtain ⟨a, b, k, rfl, h1⟩ := x
  obtain ⟨a', b', k', rfl, h2⟩ := y
  exact ⟨a', b', k', by rw [List.set_set], h2⟩
theorem Ch.st (x : Ch s B h h') (hs : s < h.length) : St s B h' := by
  obtain ⟨a, b, k, rfl, h1⟩ := x
  exact ⟨a, b, k, by rw [List.getElem?_set_self hs], h1⟩
theorem Ch.len (x : Ch s B h h') : h'.length = h.length := by
  obtain ⟨a, b, k, rfl, h1⟩ := x
  rw [List.length_set]
theorem low_stc {a b k : Int} : Cell.low 0 (stc a b k) = true := by
  show D.lows 0 _ = true
  simp only [lows_cons, lows_nil, low_int, Bool.and_self]
theorem Ch.ok (x : Ch s B h h') (H : Hok h) : Hok h' := by
  obtain ⟨a, b, k, rfl, h1⟩ := x
  exact H.set low_stc
theorem Ch.get (x : Ch s B h h') {j : Nat} (e : j ≠ s) : h'[j]? = h[j]? := by
  obtain ⟨a, b, k, rfl, h1⟩ := x
  rw [List.getElem?_set_ne (Ne.symm e)]
theorem Ch.left {t : Hh} (x : Ch s B (h ++ t) h2) (hs : s < h.length) : ∃ h', h2 = h' ++ t ∧ Ch s B h h' := by
  obtain ⟨a, b, k, rfl, h1⟩ := x
  refine ⟨h.set s (stc a b k), ?_, a, b, k, rfl, h1⟩
  rw [List.set_append, if_pos hs]
theorem St.left {t : Hh} (x : St s B h) : St s B (h ++ t) := by
  obtain ⟨a, b, k, h1, h2⟩ := x
  exact ⟨a, b, k, by rw [List.getElem?_append_left (List.getElem?_eq_some_iff.mp h1).1]; exact h1, h2⟩
theorem Ch.app {t : Hh} (x : Ch s B h h') (hs : s < h.length) : Ch s B (h ++ t) (h' ++ t) := by
  obtain ⟨a, b, k, rfl, h1⟩ := x
  exact ⟨a, b, k, by rw [List.set_append, if_pos hs], h1⟩
/-- the end of a def that has drawn -/
theorem end_ch {Q : D → Hh → Prop} {X : XP} {v : D} (H : Hok h) (x : Ch s B h h') (hv : v.low 0 = true) (q : Q v h') : (Ks.fin h Q X).rt v h' :=
  ⟨olds_of (x.ok H) _, low_mono (Nat.zero_le _) hv, by rw [← x.len, List.take_length]; exact q⟩
end
theorem getO_if {α : Type} {p : Prop} [Decidable p] {a : α} {P : α → Prop} (h : p) (q : P a) : getO (if p then some a else none) P := by rw [if_pos h]; exact q
theorem mul_ok {a b : Int} {m n : Nat} (h1 : a.natAbs < 2 ^ m) (h2 : b.natAbs < 2 ^ n) (h3 : m + n < 1000000) : mulOk a b = true := by
  unfold mulOk
  have l1 : ∀ (x : Int) (k : Nat), x.natAbs < 2 ^ k → x.natAbs.log2 ≤ k := fun x k hx => by
    by_cases e : x.natAbs = 0
    · rw [e]; exact Nat.le_trans (by decide) (Nat.zero_le k)
    · have := (Nat.log2_lt e).mpr hx
      omega
  have := l1 a m h1
  have := l1 b n h2
  exact decide_eq_true (by omega)
theorem abs_lt {a : Int} {m : Nat} (h0 : 0 ≤ a) (h : a < 2 ^ m) : a.natAbs < 2 ^ m := by
  have : (a.natAbs : Int) = a := Int.natAbs_of_nonneg h0
  have h2 : (a.natAbs : Int) < ((2 ^ m : Nat) : Int) := by rw [this]; push_cast; exact h
  exact Int.ofNat_lt.mp h2
theorem bin_add {i j : Int} : binD .Add (.int i) (.int j) = some (.int (i + j)) := rfl
theorem bin_sub {i j : Int} : binD .Sub (.int i) (.int j) = some (.int (i - j)) := rfl
theorem bin_mul {i j : Int} (h : mulOk i j = true) : binD .Mult (.int i) (.int j) = some (.int (i * j)) := by
  unfold binD
  dsimp only
  rw [if_pos h]
theorem bin_mod {i j : Int} (h : 0 < j) : binD .Mod (.int i) (.int j) = some (.int (i % j)) := by
  unfold binD
  dsimp only
  rw [if_pos h]
theorem bin_fdiv {i j : Int} (h : 0 < j) (h2 : j.natAbs.log2 < 9000) : binD .FloorDiv (.int i) (.int j) = some (.int (i / j)) := by
  unfold binD
  dsimp only
  rw [if_pos ⟨h, h2⟩]
theorem bin_shl {i j : Int} (h : 0 ≤ j) (h2 : (Builtin.Int.intBits i : Int) + j ≤ 2 ^ 27) : binD .LShift (.int i) (.int j) = some (.int (i * 2 ^ j.toNat)) := by
  unfold binD
  dsimp only
  rw [if_pos ⟨h, h2⟩]
theorem bin_pow {i j : Int} (h : 0 ≤ j) (h2 : (Builtin.Int.intBits i : Int) * j ≤ 2 ^ 27) : binD .Pow (.int i) (.int j) = some (.int (i ^ j.toNat)) := by
  unfold binD
  dsimp only
  rw [if_pos ⟨h, h2⟩]
theorem bin_shl1 {j : Int} (h : 0 ≤ j) (h2 : j ≤ 1000) : binD .LShift (.int 1) (.int j) = some (.int (2 ^ j.toNat)) := by
  rw [bin_shl h (by have : (Builtin.Int.intBits 1 : Int) = 1 := by decide +kernel
                    rw [this]; omega), Int.one_mul]
theorem setR_mono {o i v : D} {h : Hh} {P P' : Hh → Prop} (z : setR o i v h P) (k : ∀ h, P h → P' h) : setR o i v h P' := by
  unfold setR at z ⊢
  split at z
  · split at z
    · rename_i xs e
      cases e2 : L2.ixN xs.length _ with
      | none => rw [e2] at z; exact z.elim
      | some j => rw [e2] at z; exact k _ z
    · exact z.elim
  · exact z.elim
section
variable {c : Fam} {n s B : Nat} {h : Hh} {Q : D → Hh → Prop} {X : XP}
theorem ix3 {h : Hh} {a b k : Int} : ixD (.lst [.int a, .int b, .int k]) (.int 0) = some (.int a) ∧ ixD (.lst [.int a, .int b, .int k]) (.int 1) = some (.int b) ∧ ixD (.lst [.int a, .int b, .int k]) (.int 2) = some (.int k) := ⟨rfl, rfl, rfl⟩
theorem vw_at {h : Hh} {s : Nat} {xs : List D} (e : h[s]? = some (.lst xs)) : vw h (.ref s) = .lst xs := by
  unfold vw
  dsimp only
  rw [e]
theorem set_at {h : Hh} {s : Nat} {x : Cell} (hs : s < h.length) : (h.set s x)[s]? = some x := List.getElem?_set_self hs
theorem draw_w (F : Is c "_law_draw" 2 5 false false m_law_draw) (H : Hok h) (S : St s B h) (hB : B ≤ 2 ^ 60) {t : Int} (h0 : 0 < t) (h1 : t < 2 ^ 2000)
    (q : ∀ i h', 0 ≤ i → i < t → Ch s (B + 1) h h' → Q (.int i) h') : wpO (c (n + 1) "_law_draw" [.ref s, .int t] h) Q X := by
  refine F.wp rfl ?_
  have hs := S.lt
  obtain ⟨a, b, k, e, a0, b0, b1, k0, k1⟩ := S
  have e : h[s]? = some (.lst [.int a, .int b, .int k]) := e
  unfold m_law_draw
  simp only [w_ret, w_bad, w_var, w_c, w_dic0, w_bin, w_cmp, w_ix, w_tru, w_notV, w_andV, w_orV, w_ifE, w_notT, w_andT, w_orT, w_blT, w_chain, w_nil, w_cons, w_tup, w_lst, w_fz, w_new, w_neg, w_noP, w_P, w_sl, w_rev, w_bi, w_isT, w_call, w_list, w_listR, w_cat, w_mth, s_next, s_bad, s_break, s_cont, s_retN, s_seq, s_drop, s_ret, s_if, s_set, s_asg, g_nm, gs_nil, gs_cons, g_tp, g_sq, g_ix, s_par, s_par3, i_iter, i_zip, i_enm, i_range1, i_range2, wpO_ok, getO_some, isBl_bl, isInt_int, List.getElem?_cons_zero, List.getElem?_cons_succ, List.map_cons, List.map_nil, List.length_cons, List.length_nil, List.cons_append, List.nil_append, Nat.zero_add, Nat.reduceAdd, Nat.reduceSub, List.replicate_succ, List.replicate_zero, List.set_cons_zero, List.set_cons_succ, vw_non, vw_bl, vw_int, vw_str, vw_tup, vw_lst, vw_dic, vw_lok, Bool.not_true, Bool.not_false, Bool.false_eq_true, if_true, if_false, reduceIte]
  have hd : t.natAbs.log2 < 9000 := by
    have : t.natAbs < 2 ^ 2000 := abs_lt (by omega) h1
    by_cases e0 : t.natAbs = 0
    · rw [e0]; decide
    · have := (Nat.log2_lt e0).mpr this
      omega
  refine getO_of (by rw [vw_at e]; rfl) ?_
  refine getO_of (show cmpD .Gt (vw h (.int a)) (.int 0) = some (decide (0 < a)) from rfl) ?_
  by_cases ha : 0 < a
  · rw [if_pos (decide_eq_true ha)]
    refine getO_of (by rw [vw_at e]; rfl) ?_
    refine getO_of (bin_mod h0) ?_
    refine getO_of (by rw [vw_at e]; rfl) ?_
    refine getO_of (bin_fdiv h0 hd) ?_
    have z : setR (.ref s) (.int 0) (.int (a / t)) h fun h3 => (Ks.fin h Q X).rt (.int (a % t)) h3 := by
      unfold setR
      dsimp only
      rw [e]
      refine end_ch H ⟨a / t, b, k, rfl, Int.ediv_nonneg a0 (by omega), b0, b1, k0, by omega⟩ low_int ?_
      exact q _ _ (Int.emod_nonneg _ (by omega)) (Int.emod_lt_of_pos _ h0) ⟨a / t, b, k, rfl, Int.ediv_nonneg a0 (by omega), b0, b1, k0, by omega⟩
    exact z
  · rw [if_neg (by simpa using ha)]
    refine getO_of (by rw [vw_at e]; rfl) ?_
    refine getO_of bin_add ?_
    have z : setR (.ref s) (.int 2) (.int (k + 1)) h fun h3 => h3 = h.set s (stc a b (k + 1)) := by
      unfold setR
      dsimp only
      rw [e]
      rfl
    refine setR_mono z fun h3 e3 => ?_
    have e4 : h3[s]? = some (.lst [.int a, .int b, .int (k + 1)]) := by rw [e3]; exact set_at hs
    have ch : Ch s (B + 1) h h3 := ⟨a, b, k + 1, e3, a0, b0, b1, by omega, by push_cast; omega⟩
    refine getO_of (by rw [vw_at e4]; rfl) ?_
    refine getO_of (by rw [vw_at e4]; rfl) ?_
    have hk : (k + 1).natAbs < 2 ^ 61 := abs_lt (by omega) (by omega)
    have hone : ∀ z : Int, (z % 2305843009213693951).natAbs < 2 ^ 61 := fun z => abs_lt (Int.emod_nonneg _ (by decide)) (Int.lt_of_lt_of_le (Int.emod_lt_of_pos _ (by decide)) (by decide))
    have htwo : ∀ z : Int, (z % 2305843009213693921).natAbs < 2 ^ 61 := fun z => abs_lt (Int.emod_nonneg _ (by decide)) (Int.lt_of_lt_of_le (Int.emod_lt_of_pos _ (by decide)) (by decide))
    refine getO_of (bin_mul (mul_ok (m := 20) (by decide) hk (by decide))) ?_
    refine getO_of bin_add ?_
    refine getO_of (bin_mod (by decide)) ?_
    refine getO_of (bin_mul (mul_ok (hone _) (hone _) (by decide))) ?_
    refine getO_of (bin_mod (by decide)) ?_
    refine getO_of (bin_mul (mul_ok (htwo _) (hone _) (by decide))) ?_
    refine getO_of (by rw [vw_at e4]; rfl) ?_
    refine getO_of (bin_mul (mul_ok (m := 20) (by decide) hk (by decide))) ?_
    refine getO_of bin_add ?_
    refine getO_of (bin_mod (by decide)) ?_
    refine getO_of (bin_fdiv (by decide) (by decide +kernel)) ?_
    refine getO_of (bin_mod h0) ?_
    exact end_ch H ch low_int (q _ _ (Int.emod_nonneg _ (by omega)) (Int.emod_lt_of_pos _ h0) ch)
theorem end_chA {h' t : Hh} {Q : D → Hh → Prop} {X : XP} {v : D} (H : Hok h) (x : Ch s B h h') (hv : v.low 0 = true) (q : Q v h') : (Ks.fin h Q X).rt v (h' ++ t) := by
  have o := olds_of (x.ok H) h.length
  refine ⟨?_, low_mono (Nat.zero_le _) hv, by rw [← x.len, List.take_left]; exact q⟩
  unfold olds at o ⊢
  rw [List.take_append_of_le_length (by rw [x.len]; exact Nat.le_refl _)]
  exact o
theorem Hok.apd {h t : Hh} (H : Hok h) (H2 : Hok t) : Hok (h ++ t) := fun c hc => by
  rcases List.mem_append.mp hc with z | z
  · exact H c z
  · exact H2 c z
theorem eq_int {i j : Int} : eqD (.int i) (.int j) = some (decide (i = j)) := by
  show eqD0 _ _ = _
  unfold eqD0
  rw [if_pos (by simp [D.dat, D.py, SeqAt.shaped, PyData.canLay0, PyData.depth])]
  unfold D.py PyData.eqv
  rfl
theorem fmax_int (x y : Int) : fMax [.int x, .int y] = some (.int (if y > x then y else x)) := rfl
theorem stream_end (H : Hok h) (q : ∀ a b, StOk 0 a b 0 → Q (.ref h.length) (h ++ [stc a b 0])) (a b : Int) (ha : 0 ≤ a) (hb : 0 ≤ b) (hb2 : b < 2 ^ 31) :
    szOk 3 ∧ (Ks.body (fun v h' => ∃ xs, v = .ref h.length ∧ h' = h ++ [.lst xs] ∧ olds h.length h' = true ∧ D.lows h.length xs = true ∧ Q (.ref h.length) (h ++ [.lst xs])) fun _ _ => False).rt (.ref h.length) (h ++ [.lst [.int a, .int b, .int 0]]) := by
  refine ⟨szOk_of (by decide), [.int a, .int b, .int 0], rfl, rfl, ?_, ?_, q a b ⟨ha, hb, hb2, by omega, by omega⟩⟩
  · have o := olds_of H h.length
    unfold olds at o ⊢
    rw [List.take_append_of_le_length (Nat.le_refl _)]
    exact o
  · simp only [lows_cons, lows_nil, low_int, Bool.and_self]
theorem stream_w (F : Is c "_law_stream" 2 5 false true m_law_stream) (H : Hok h) {ns : List Int} {j : Nat} (hj : j ≤ 100) 
    (q : ∀ a b, StOk 0 a b 0 → Q (.ref h.length) (h ++ [stc a b 0])) : wpO (c (n + 1) "_law_stream" [.lok (ns.map D.int), .int j] h) Q X := by
  refine F.wpK rfl ?_
  unfold m_law_stream
  simp only [w_ret, w_bad, w_var, w_c, w_dic0, w_bin, w_cmp, w_ix, w_tru, w_notV, w_andV, w_orV, w_ifE, w_notT, w_andT, w_orT, w_blT, w_chain, w_nil, w_cons, w_tup, w_lst, w_fz, w_new, w_neg, w_noP, w_P, w_sl, w_rev, w_bi, w_isT, w_call, w_list, w_listR, w_cat, w_mth, s_next, s_bad, s_break, s_cont, s_retN, s_seq, s_drop, s_ret, s_if, s_set, s_asg, g_nm, gs_nil, gs_cons, g_tp, g_sq, g_ix, s_par, s_par3, i_iter, i_zip, i_enm, i_range1, i_range2, wpO_ok, getO_some, isBl_bl, isInt_int, List.getElem?_cons_zero, List.getElem?_cons_succ, List.map_cons, List.map_nil, List.length_cons, List.length_nil, List.cons_append, List.nil_append, Nat.zero_add, Nat.reduceAdd, Nat.reduceSub, List.replicate_succ, List.replicate_zero, List.set_cons_zero, List.set_cons_succ, vw_non, vw_bl, vw_int, vw_str, vw_tup, vw_lst, vw_dic, vw_lok, Bool.not_true, Bool.not_false, Bool.false_eq_true, if_true, if_false, reduceIte, fLen]
  refine getO_of (bin_mul (mul_ok (m := 20) (n := 20) (by decide) (abs_lt (by omega) (by omega)) (by decide))) ?_
  simp only [vw_int]
  refine getO_of bin_add ?_
  refine getO_of (show cmpD .Lt (.int j) (.int (ns.map D.int).length) = some (decide ((j : Int) < (ns.map D.int).length)) from rfl) ?_
  by_cases hl : j < ns.length
  · rw [if_pos (decide_eq_true (by rw [List.length_map]; omega))]
    refine getO_of (show ixD (.lok (ns.map D.int)) (.int j) = some (.int ns[j]) from L2.atI_nat (by rw [List.getElem?_map, List.getElem?_eq_getElem hl]; rfl)) ?_
    generalize ns[j] = z
    refine getO_of (show fAbs [vw h (.int z)] = some (.int (if z < 0 then -z else z)) from rfl) ?_
    refine getO_of (bin_pow (by decide) (by decide +kernel)) ?_
    refine getO_of (bin_pow (by decide) (by decide +kernel)) ?_
    refine getO_of (bin_mod (by decide +kernel)) ?_
    refine getO_of (bin_mod (by decide)) ?_
    refine getO_of (bin_mul (mul_ok (m := 40) (n := 40) (abs_lt (Int.emod_nonneg _ (by decide)) (Int.lt_of_lt_of_le (Int.emod_lt_of_pos _ (by decide)) (by decide))) (by decide) (by decide))) ?_
    refine getO_of (bin_mul (mul_ok (m := 20) (n := 20) (by decide) (abs_lt (by omega) (by omega)) (by decide))) ?_
    refine getO_of bin_add ?_
    refine getO_of (show cmpD .Lt (vw h (.int z)) (.int 0) = some (decide (z < 0)) from rfl) ?_
    refine getO_of (show fInt [.bl (decide (z < 0))] = some (.int (if decide (z < 0) = true then 1 else 0)) from rfl) ?_
    refine getO_of (bin_mul (mul_ok (m := 20) (n := 20) (by decide) (by split <;> decide) (by decide))) ?_
    refine getO_of bin_add ?_
    refine getO_of bin_add ?_
    refine getO_of (bin_mod (by decide)) ?_
    refine getO_of (bin_pow (by decide) (by decide +kernel)) ?_
    refine getO_of bin_sub ?_
    refine getO_of (fmax_int _ _) ?_
    exact stream_end H q _ _ (by split <;> omega) (Int.emod_nonneg _ (by decide)) (Int.lt_of_lt_of_le (Int.emod_lt_of_pos _ (by decide)) (by decide))
  · rw [if_neg (by rw [List.length_map]; simpa using hl)]
    generalize (11 * (j : Int) + 4) = z
    refine getO_of (show fAbs [vw h (.int z)] = some (.int (if z < 0 then -z else z)) from rfl) ?_
    refine getO_of (bin_pow (by decide) (by decide +kernel)) ?_
    refine getO_of (bin_pow (by decide) (by decide +kernel)) ?_
    refine getO_of (bin_mod (by decide +kernel)) ?_
    refine getO_of (bin_mod (by decide)) ?_
    refine getO_of (bin_mul (mul_ok (m := 40) (n := 40) (abs_lt (Int.emod_nonneg _ (by decide)) (Int.lt_of_lt_of_le (Int.emod_lt_of_pos _ (by decide)) (by decide))) (by decide) (by decide))) ?_
    refine getO_of (bin_mul (mul_ok (m := 20) (n := 20) (by decide) (abs_lt (by omega) (by omega)) (by decide))) ?_
    refine getO_of bin_add ?_
    refine getO_of (show cmpD .Lt (vw h (.int z)) (.int 0) = some (decide (z < 0)) from rfl) ?_
    refine getO_of (show fInt [.bl (decide (z < 0))] = some (.int (if decide (z < 0) = true then 1 else 0)) from rfl) ?_
    refine getO_of (bin_mul (mul_ok (m := 20) (n := 20) (by decide) (by split <;> decide) (by decide))) ?_
    refine getO_of bin_add ?_
    refine getO_of bin_add ?_
    refine getO_of (bin_mod (by decide)) ?_
    refine getO_of (bin_pow (by decide) (by decide +kernel)) ?_
    refine getO_of bin_sub ?_
    refine getO_of (fmax_int _ _) ?_
    exact stream_end H q _ _ (by split <;> omega) (Int.emod_nonneg _ (by decide)) (Int.lt_of_lt_of_le (Int.emod_lt_of_pos _ (by decide)) (by decide))
theorem intsFrom_ix {lo : Int} {m i : Nat} {d : D} (e : (WW.intsFrom lo 1 m)[i]? = some d) : i < m ∧ d = .int (lo + i) := by
  obtain ⟨h1, h2⟩ := intsFrom_get e
  exact ⟨h1, by rw [h2, Int.mul_one]⟩
theorem intsFrom_length {lo : Int} {m : Nat} : (WW.intsFrom lo 1 m).length = m := by simp [WW.intsFrom]
theorem rngB_nat {k : Nat} (h : k ≤ 1000000) : rngB (k : Int) = true := by
  have h1 : -(2 ^ 62 : Int) ≤ (k : Int) := by omega
  have h2 : (k : Int) < 2 ^ 62 := by omega
  unfold rngB
  exact decide_eq_true ⟨h1, h2⟩
theorem pow_lt {a : Nat} (h : a < 2000) : (2 : Int) ^ a < 2 ^ 2000 := Int.pow_lt_pow_of_lt (by decide) h
theorem pow_lt8 : (8 : Int) < 2 ^ 2000 := by
  have h := pow_lt (a := 3) (by decide)
  exact h
def RowI (s B : Nat) (w : Int) (k : Nat) (h : Hh) (i : Nat) (l : Lc) (hh : Hh) : Prop := ∃ (ys : List Int) (h1 : Hh) (o : Option D), ys.length = i ∧ (∀ y ∈ ys, 0 ≤ y ∧ y < (2 : Int) ^ w.toNat) ∧ Ch s (B + 2 * i) h h1 ∧ hh = h1 ++ [.lst (ys.map D.int)] ∧
  l = [some (.ref s), some (.int w), some (.int k), some (.ref h.length), some (.int (2 ^ w.toNat)), o]
theorem row_w (Fd : Is c "_law_draw" 2 5 false false m_law_draw) (F : Is c "_law_row" 3 6 false false m_law_row) (H : Hok h) (S : St s B h) {w : Int} {k : Nat} (hB : B + 2 * k ≤ 2 ^ 60) (w0 : 1 ≤ w) (w1 : w ≤ 1000) (hk : k ≤ 1000)
    (q : ∀ (ys : List Int) h', ys.length = k → (∀ y ∈ ys, 0 ≤ y ∧ y < (2 : Int) ^ w.toNat) → Ch s (B + 2 * k) h h' → Q (.tup (ys.map D.int)) h') : wpO (c (n + 2) "_law_row" [.ref s, .int w, .int k] h) Q X := by
  refine F.wp rfl ?_
  unfold m_law_row
  simp only [w_ret, w_bad, w_var, w_c, w_dic0, w_bin, w_cmp, w_ix, w_tru, w_notV, w_andV, w_orV, w_ifE, w_notT, w_andT, w_orT, w_blT, w_chain, w_nil, w_cons, w_tup, w_lst, w_fz, w_new, w_neg, w_noP, w_P, w_sl, w_rev, w_bi, w_isT, w_call, w_list, w_listR, w_cat, w_mth, s_next, s_bad, s_break, s_cont, s_retN, s_seq, s_drop, s_ret, s_if, s_set, s_asg, g_nm, gs_nil, gs_cons, g_tp, g_sq, g_ix, s_par, s_par3, i_iter, i_zip, i_enm, i_range1, i_range2, wpO_ok, getO_some, isBl_bl, isInt_int, List.getElem?_cons_zero, List.getElem?_cons_succ, List.map_cons, List.map_nil, List.length_cons, List.length_nil, List.cons_append, List.nil_append, Nat.zero_add, Nat.reduceAdd, Nat.reduceSub, List.replicate_succ, List.replicate_zero, List.set_cons_zero, List.set_cons_succ, vw_non, vw_bl, vw_int, vw_str, vw_tup, vw_lst, vw_dic, vw_lok, Bool.not_true, Bool.not_false, Bool.false_eq_true, if_true, if_false, reduceIte, bin_shl1 (show 0 ≤ w by omega) w1, two_eq]
  refine ⟨szOk_of (by decide), ?_⟩
  refine s_for (WW.intsFrom 0 1 k) (RowI s B w k h) ?_ ?_ ?_
  · simp only [w_ret, w_bad, w_var, w_c, w_dic0, w_bin, w_cmp, w_ix, w_tru, w_notV, w_andV, w_orV, w_ifE, w_notT, w_andT, w_orT, w_blT, w_chain, w_nil, w_cons, w_tup, w_lst, w_fz, w_new, w_neg, w_noP, w_P, w_sl, w_rev, w_bi, w_isT, w_call, w_list, w_listR, w_cat, w_mth, s_next, s_bad, s_break, s_cont, s_retN, s_seq, s_drop, s_ret, s_if, s_set, s_asg, g_nm, gs_nil, gs_cons, g_tp, g_sq, g_ix, s_par, s_par3, i_iter, i_zip, i_enm, i_range1, i_range2, wpO_ok, getO_some, isBl_bl, isInt_int, List.getElem?_cons_zero, List.getElem?_cons_succ, List.map_cons, List.map_nil, List.length_cons, List.length_nil, List.cons_append, List.nil_append, Nat.zero_add, Nat.reduceAdd, Nat.reduceSub, List.replicate_succ, List.replicate_zero, List.set_cons_zero, List.set_cons_succ, vw_non, vw_bl, vw_int, vw_str, vw_tup, vw_lst, vw_dic, vw_lok, Bool.not_true, Bool.not_false, Bool.false_eq_true, if_true, if_false, reduceIte, oneI_int]
    have hr : rngB (k : Int) = true := rngB_nat (by omega)
    refine ⟨hr, ?_, ?_, fun i l hh hi _ j => ?_⟩
    · rw [itLen]; exact Nat.le_refl _
    · exact ⟨[], h, none, rfl, fun y hy => (nomatch hy), Ch.refl S, rfl, rfl⟩
    · rw [itAt]; rfl
  · rintro i d l hh ed ⟨ys, h1, o, hl, hy, ch, rfl, rfl⟩
    obtain ⟨hi, rfl⟩ := intsFrom_ix ed
    simp only [w_ret, w_bad, w_var, w_c, w_dic0, w_bin, w_cmp, w_ix, w_tru, w_notV, w_andV, w_orV, w_ifE, w_notT, w_andT, w_orT, w_blT, w_chain, w_nil, w_cons, w_tup, w_lst, w_fz, w_new, w_neg, w_noP, w_P, w_sl, w_rev, w_bi, w_isT, w_call, w_list, w_listR, w_cat, w_mth, s_next, s_bad, s_break, s_cont, s_retN, s_seq, s_drop, s_ret, s_if, s_set, s_asg, g_nm, gs_nil, gs_cons, g_tp, g_sq, g_ix, s_par, s_par3, i_iter, i_zip, i_enm, i_range1, i_range2, wpO_ok, getO_some, isBl_bl, isInt_int, List.getElem?_cons_zero, List.getElem?_cons_succ, List.map_cons, List.map_nil, List.length_cons, List.length_nil, List.cons_append, List.nil_append, Nat.zero_add, Nat.reduceAdd, Nat.reduceSub, List.replicate_succ, List.replicate_zero, List.set_cons_zero, List.set_cons_succ, vw_non, vw_bl, vw_int, vw_str, vw_tup, vw_lst, vw_dic, vw_lok, Bool.not_true, Bool.not_false, Bool.false_eq_true, if_true, if_false, reduceIte]
    have hs := S.lt
    have l1 := ch.len
    have e1 : ∀ (g : Hh), g.length = h.length → (g ++ [Cell.lst (ys.map D.int)])[h.length]? = some (.lst (ys.map D.int)) := fun g hg => by rw [← hg]; simp
    have p0 : (0 : Int) < 2 ^ w.toNat := Int.pow_pos (by decide)
    have p2 : (2 : Int) ≤ 2 ^ w.toNat := by
      have : w.toNat = (w.toNat - 1) + 1 := by omega
      rw [this, Int.pow_succ]
      have : (0 : Int) < 2 ^ (w.toNat - 1) := Int.pow_pos (by decide)
      omega
    have pb : (2 : Int) ^ w.toNat < 2 ^ 2000 := pow_lt (by omega)
    refine ⟨by rw [vw_at (e1 h1 l1)]; rfl, ?_⟩
    refine getO_of (bin_mod p0) ?_
    refine getO_of bin_sub ?_
    refine getO_of (bin_fdiv (by decide) (by decide +kernel)) ?_
    refine draw_w Fd ((ch.ok H).push lows_int) (ch.st hs).left (by omega) p0 pb fun x hA x0 x1 chA => ?_
    obtain ⟨h2, rfl, ch2⟩ := chA.left (by rw [l1]; exact hs)
    have c2 := ch.trans ch2
    refine ⟨szOk_of (by decide), ?_⟩
    refine draw_w Fd ((c2.ok H).push lows_int) (c2.st hs).left (by omega) (by decide) (by exact pow_lt8) fun y hB' y0 y1 chB => ?_
    obtain ⟨h3, rfl, ch3⟩ := chB.left (by rw [c2.len]; exact hs)
    have c3 := c2.trans ch3
    have e3 := e1 h3 c3.len
    have fin : ∀ z : Int, 0 ≤ z → z < 2 ^ w.toNat → getO (fApp (.ref h.length) [.int z] (h3 ++ [.lst (ys.map D.int)])) fun p => RowI s B w k h (i + 1) [some (.ref s), some (.int w), some (.int k), some (.ref h.length), some (.int (2 ^ w.toNat)), some (.int (0 + i))] p.2 := fun z z0 z1 => by
      unfold fApp
      dsimp only
      rw [e3]
      dsimp only
      rw [if_pos (Nat.lt_of_lt_of_le (show (ys.map D.int).length < 1000000 by rw [List.length_map]; omega) (szOk_of (Nat.le_refl _)))]
      refine ⟨ys ++ [z], h3, _, by rw [List.length_append, hl]; rfl, fun u hu => ?_, c3.mono (by omega), ?_, rfl⟩
      · rcases List.mem_append.mp hu with hu | hu
        · exact hy u hu
        · rw [List.mem_singleton.mp hu]; exact ⟨z0, z1⟩
      · show (h3 ++ [Cell.lst (ys.map D.int)]).set h.length _ = _
        rw [← c3.len, List.set_append, if_neg (by omega), Nat.sub_self, List.map_append]
        rfl
    have hy8 : y = 0 ∨ y = 1 ∨ y = 2 ∨ y = 3 ∨ y = 4 ∨ y = 5 ∨ y = 6 ∨ y = 7 := by omega
    have hd : (2 : Int) ^ w.toNat / 2 < 2 ^ w.toNat := by omega
    have hd0 : 0 ≤ (2 : Int) ^ w.toNat / 2 := by omega
    rcases hy8 with rfl | rfl | rfl | rfl | rfl | rfl | rfl | rfl
    · exact getO_of rfl (fin 0 (by omega) (by omega))
    · exact getO_of rfl (fin 1 (by omega) (by omega))
    · exact getO_of rfl (fin 0 (by omega) (by omega))
    · exact getO_of rfl (fin 1 (by omega) (by omega))
    · exact getO_of rfl (fin _ (Int.emod_nonneg _ (by omega)) (Int.emod_lt_of_pos _ p0))
    · exact getO_of rfl (fin _ (by omega) (by omega))
    · exact getO_of rfl (fin _ hd0 hd)
    · exact getO_of rfl (fin x x0 x1)
  · rintro l hh ⟨ys, h1, o, hl, hy, ch, rfl, rfl⟩
    rw [intsFrom_length] at hl
    simp only [w_ret, w_bad, w_var, w_c, w_dic0, w_bin, w_cmp, w_ix, w_tru, w_notV, w_andV, w_orV, w_ifE, w_notT, w_andT, w_orT, w_blT, w_chain, w_nil, w_cons, w_tup, w_lst, w_fz, w_new, w_neg, w_noP, w_P, w_sl, w_rev, w_bi, w_isT, w_call, w_list, w_listR, w_cat, w_mth, s_next, s_bad, s_break, s_cont, s_retN, s_seq, s_drop, s_ret, s_if, s_set, s_asg, g_nm, gs_nil, gs_cons, g_tp, g_sq, g_ix, s_par, s_par3, i_iter, i_zip, i_enm, i_range1, i_range2, wpO_ok, getO_some, isBl_bl, isInt_int, List.getElem?_cons_zero, List.getElem?_cons_succ, List.map_cons, List.map_nil, List.length_cons, List.length_nil, List.cons_append, List.nil_append, Nat.zero_add, Nat.reduceAdd, Nat.reduceSub, List.replicate_succ, List.replicate_zero, List.set_cons_zero, List.set_cons_succ, vw_non, vw_bl, vw_int, vw_str, vw_tup, vw_lst, vw_dic, vw_lok, Bool.not_true, Bool.not_false, Bool.false_eq_true, if_true, if_false, reduceIte]
    have e1 : (h1 ++ [Cell.lst (ys.map D.int)])[h.length]? = some (.lst (ys.map D.int)) := by rw [← ch.len]; simp
    rw [vw_at e1]
    refine getO_of (show fTup [.lst (ys.map D.int)] = some (.tup (ys.map D.int)) from rfl) ?_
    rw [intsFrom_length] at ch
    exact end_chA H ch (by rw [low_tup]; exact lows_int) (q ys h1 hl hy ch)
end
end Pw
/-! vectors of words: sums, multiples, dot products -/
namespace Pw
open PySem WW Mr
abbrev vec (ys : List Int) : D := .tup (ys.map D.int)
theorem lays_int {xs : List Int} : D.lays (xs.map D.int) = true := by
  induction xs with
  | nil => rw [List.map_nil, D.lays]
  | cons x xs ih => rw [List.map_cons, D.lays, D.lay, ih]; rfl
theorem lay_vec {xs : List Int} : (vec xs).lay = true := by rw [D.lay]; exact lays_int
theorem lay_int {x : Int} : (D.int x).lay = true := by rw [D.lay]
theorem low_vec {xs : List Int} : (vec xs).low 0 = true := lay_low lay_vec
/-- words of a width -/
def Wd (w : Int) (ys : List Int) : Prop := ∀ y ∈ ys, 0 ≤ y ∧ y < (2 : Int) ^ w.toNat
theorem wordsB_vec {w : Int} {ys : List Int} (h : Wd w ys) : wordsB w (vec ys) = true := by
  show (ys.map D.int).all (wordB w) = true
  rw [List.all_map, List.all_eq_true]
  intro y hy
  have := h y hy
  show decide (0 ≤ y ∧ y ≤ 2 ^ w.toNat - 1) = true
  exact decide_eq_true ⟨this.1, by omega⟩
theorem vecB_vec {w : Int} {ys : List Int} (h : Wd w ys) : vecB w (.int ys.length) (vec ys) = true := by
  unfold vecB
  rw [wordsB_vec h, Bool.true_and]
  show decide (((ys.map D.int).length : Int) = ys.length) = true
  rw [List.length_map]
  exact decide_eq_true rfl
theorem sz_of {n : Nat} (h : n ≤ 1000000) : n ≤ sizeLine := szOk_of h
section
variable {c : Fam} {n : Nat} {h : Hh} {Q : D → Hh → Prop} {X : XP}
theorem zip_ints {xs ys : List Int} : zipT (xs.map D.int) (ys.map D.int) = (xs.zip ys).map fun p => .tup [.int p.1, .int p.2] := by
  induction xs generalizing ys with
  | nil => rfl
  | cons x xs ih =>
    cases ys with
    | nil => rfl
    | cons y ys =>
      show _ :: zipT (xs.map D.int) (ys.map D.int) = _ :: _
      rw [ih]
      rfl
def sumV (w : Int) (xs ys : List Int) : List Int := (xs.zip ys).map fun p => (p.1 + p.2) % 2 ^ w.toNat
def manyV (w : Int) (xs : List Int) (f : Int) : List Int := xs.map fun x => f * x % 2 ^ w.toNat
def dotV (w : Int) (xs ys : List Int) : Int := ((xs.zip ys).map fun p => p.1 * p.2).sum % 2 ^ w.toNat
/-- a comprehension over pairs of ints -/
theorem w_zipI {l : Lc} {h : Hh} {Q : D → Hh → Prop} {X : XP} {as : ME (List D)} {i j : Nat} {e : ME D} (H : Hok h) {xs ys : List Int} (f : Int → Int → Int) (hx : xs.length ≤ 1000) (ha : as l h = .ok [vec xs, vec ys] h)
    (step : ∀ a b hb, a ∈ xs → b ∈ ys → Hok hb → wpO (e (((wipeL l [i, j]).set i (some (.int a))).set j (some (.int b))) hb) (fun y h4 => y = .int (f a b) ∧ h4 = hb) fun _ _ => False)
    (q : Q (.lst ((xs.zip ys).map fun p => .int (f p.1 p.2))) h) : wpO (mLcF (mLc (mZip as) (gTp 2 (gsCons (gNm i) (gsCons (gNm j) gsNil))) (mRet true) e [i, j]) l h) Q X := by
  refine w_lcA H (zipT (xs.map D.int) (ys.map D.int)) (fun d => match d with
    | .tup [.int a, .int b] => .int (f a b)
    | _ => .non) ?_ ?_ ?_ ?_
  · rw [i_zip, ha, wpO_ok, two_eq]
    refine ⟨rfl, ?_⟩
    refine getO_of rfl ?_
    refine getO_of rfl ?_
    refine ⟨rfl, sz_of ?_, sqh_zip sqh_fix sqh_fix⟩
    rw [zip_ints, List.length_map, List.length_zip]; omega
  · intro d hb hd Hb
    rw [zip_ints] at hd
    obtain ⟨p, hp, rfl⟩ := List.mem_map.mp hd
    simp only [w_ret, w_bad, w_var, w_c, w_dic0, w_bin, w_cmp, w_ix, w_tru, w_notV, w_andV, w_orV, w_ifE, w_notT, w_andT, w_orT, w_blT, w_chain, w_nil, w_cons, w_tup, w_lst, w_fz, w_new, w_neg, w_noP, w_P, w_sl, w_rev, w_bi, w_isT, w_call, w_list, w_listR, w_cat, w_mth, s_next, s_bad, s_break, s_cont, s_retN, s_seq, s_drop, s_ret, s_if, s_set, s_asg, g_nm, gs_nil, gs_cons, g_tp, g_sq, g_ix, s_par, s_par3, i_iter, i_zip, i_enm, i_range1, i_range2, wpO_ok, getO_some, isBl_bl, isInt_int, List.getElem?_cons_zero, List.getElem?_cons_succ, List.map_cons, List.map_nil, List.length_cons, List.length_nil, List.cons_append, List.nil_append, Nat.zero_add, Nat.reduceAdd, Nat.reduceSub, List.replicate_succ, List.replicate_zero, List.set_cons_zero, List.set_cons_succ, vw_non, vw_bl, vw_int, vw_str, vw_tup, vw_lst, vw_dic, vw_lok, Bool.not_true, Bool.not_false, Bool.false_eq_true, if_true, if_false, reduceIte, tupN, ctorL, true_and]
    exact step _ _ hb (List.of_mem_zip hp).1 (List.of_mem_zip hp).2 Hb
  · intro d hd
    rw [zip_ints] at hd
    obtain ⟨p, _, rfl⟩ := List.mem_map.mp hd
    exact low_int
  · rw [zip_ints, List.map_map]
    exact q
theorem sum_by_v (W : W0 c) (F : Is c "sum_by" 3 6 false false m_sum_by) {w : Int} {xs ys : List Int} (w0 : 0 ≤ w) (w1 : w ≤ 1000) (hx : xs.length ≤ 1000) (H : Hok h) : c (n + 2) "sum_by" [.int w, vec xs, vec ys] h = .ok (vec (sumV w xs ys)) h := by
  refine eq_of_wp (F.wp rfl ?_)
  unfold m_sum_by
  simp only [w_ret, w_bad, w_var, w_c, w_dic0, w_bin, w_cmp, w_ix, w_tru, w_notV, w_andV, w_orV, w_ifE, w_notT, w_andT, w_orT, w_blT, w_chain, w_nil, w_cons, w_tup, w_lst, w_fz, w_new, w_neg, w_noP, w_P, w_sl, w_rev, w_bi, w_isT, w_call, w_list, w_listR, w_cat, w_mth, s_next, s_bad, s_break, s_cont, s_retN, s_seq, s_drop, s_ret, s_if, s_set, s_asg, g_nm, gs_nil, gs_cons, g_tp, g_sq, g_ix, s_par, s_par3, i_iter, i_zip, i_enm, i_range1, i_range2, wpO_ok, getO_some, isBl_bl, isInt_int, List.getElem?_cons_zero, List.getElem?_cons_succ, List.map_cons, List.map_nil, List.length_cons, List.length_nil, List.cons_append, List.nil_append, Nat.zero_add, Nat.reduceAdd, Nat.reduceSub, List.replicate_succ, List.replicate_zero, List.set_cons_zero, List.set_cons_succ, vw_non, vw_bl, vw_int, vw_str, vw_tup, vw_lst, vw_dic, vw_lok, Bool.not_true, Bool.not_false, Bool.false_eq_true, if_true, if_false, reduceIte, W.modulus w0 w1 H]
  have p0 : (0 : Int) < 2 ^ w.toNat := Int.pow_pos (by decide)
  refine w_zipI H (fun a b => (a + b) % 2 ^ w.toNat) hx rfl (fun a b hb _ _ Hb => ?_) ?_
  · simp only [w_ret, w_bad, w_var, w_c, w_dic0, w_bin, w_cmp, w_ix, w_tru, w_notV, w_andV, w_orV, w_ifE, w_notT, w_andT, w_orT, w_blT, w_chain, w_nil, w_cons, w_tup, w_lst, w_fz, w_new, w_neg, w_noP, w_P, w_sl, w_rev, w_bi, w_isT, w_call, w_list, w_listR, w_cat, w_mth, s_next, s_bad, s_break, s_cont, s_retN, s_seq, s_drop, s_ret, s_if, s_set, s_asg, g_nm, gs_nil, gs_cons, g_tp, g_sq, g_ix, s_par, s_par3, i_iter, i_zip, i_enm, i_range1, i_range2, wpO_ok, getO_some, isBl_bl, isInt_int, List.getElem?_cons_zero, List.getElem?_cons_succ, List.map_cons, List.map_nil, List.length_cons, List.length_nil, List.cons_append, List.nil_append, Nat.zero_add, Nat.reduceAdd, Nat.reduceSub, List.replicate_succ, List.replicate_zero, List.set_cons_zero, List.set_cons_succ, vw_non, vw_bl, vw_int, vw_str, vw_tup, vw_lst, vw_dic, vw_lok, Bool.not_true, Bool.not_false, Bool.false_eq_true, if_true, if_false, reduceIte, wipeL, bin_add, bin_mod p0]
    exact ⟨trivial, trivial⟩
  · simp only [vw_lst, fTup, getO_some]
    have e : ((xs.zip ys).map fun p => D.int ((p.1 + p.2) % 2 ^ w.toNat)) = (sumV w xs ys).map D.int := by unfold sumV; rw [List.map_map]; rfl
    rw [e]
    exact end_eq H low_vec rfl
theorem intsD_map {xs : List Int} : intsD (xs.map D.int) = some xs := by
  induction xs with
  | nil => rfl
  | cons x xs ih => rw [List.map_cons]; unfold intsD; rw [ih]; rfl
theorem dot_by_v (W : W0 c) (F : Is c "dot_by" 3 5 false false m_dot_by) {w : Int} {xs ys : List Int} (w0 : 0 ≤ w) (w1 : w ≤ 1000) (hx : xs.length ≤ 1000) (hm : ∀ a b, a ∈ xs → b ∈ ys → mulOk a b = true) (H : Hok h) : c (n + 2) "dot_by" [.int w, vec xs, vec ys] h = .ok (.int (dotV w xs ys)) h := by
  refine eq_of_wp (F.wp rfl ?_)
  unfold m_dot_by
  simp only [w_ret, w_bad, w_var, w_c, w_dic0, w_bin, w_cmp, w_ix, w_tru, w_notV, w_andV, w_orV, w_ifE, w_notT, w_andT, w_orT, w_blT, w_chain, w_nil, w_cons, w_tup, w_lst, w_fz, w_new, w_neg, w_noP, w_P, w_sl, w_rev, w_bi, w_isT, w_call, w_list, w_listR, w_cat, w_mth, s_next, s_bad, s_break, s_cont, s_retN, s_seq, s_drop, s_ret, s_if, s_set, s_asg, g_nm, gs_nil, gs_cons, g_tp, g_sq, g_ix, s_par, s_par3, i_iter, i_zip, i_enm, i_range1, i_range2, wpO_ok, getO_some, isBl_bl, isInt_int, List.getElem?_cons_zero, List.getElem?_cons_succ, List.map_cons, List.map_nil, List.length_cons, List.length_nil, List.cons_append, List.nil_append, Nat.zero_add, Nat.reduceAdd, Nat.reduceSub, List.replicate_succ, List.replicate_zero, List.set_cons_zero, List.set_cons_succ, vw_non, vw_bl, vw_int, vw_str, vw_tup, vw_lst, vw_dic, vw_lok, Bool.not_true, Bool.not_false, Bool.false_eq_true, if_true, if_false, reduceIte]
  have p0 : (0 : Int) < 2 ^ w.toNat := Int.pow_pos (by decide)
  refine w_zipI H (fun a b => a * b) hx rfl (fun a b hb ha hb' Hb => ?_) ?_
  · simp only [w_ret, w_bad, w_var, w_c, w_dic0, w_bin, w_cmp, w_ix, w_tru, w_notV, w_andV, w_orV, w_ifE, w_notT, w_andT, w_orT, w_blT, w_chain, w_nil, w_cons, w_tup, w_lst, w_fz, w_new, w_neg, w_noP, w_P, w_sl, w_rev, w_bi, w_isT, w_call, w_list, w_listR, w_cat, w_mth, s_next, s_bad, s_break, s_cont, s_retN, s_seq, s_drop, s_ret, s_if, s_set, s_asg, g_nm, gs_nil, gs_cons, g_tp, g_sq, g_ix, s_par, s_par3, i_iter, i_zip, i_enm, i_range1, i_range2, wpO_ok, getO_some, isBl_bl, isInt_int, List.getElem?_cons_zero, List.getElem?_cons_succ, List.map_cons, List.map_nil, List.length_cons, List.length_nil, List.cons_append, List.nil_append, Nat.zero_add, Nat.reduceAdd, Nat.reduceSub, List.replicate_succ, List.replicate_zero, List.set_cons_zero, List.set_cons_succ, vw_non, vw_bl, vw_int, vw_str, vw_tup, vw_lst, vw_dic, vw_lok, Bool.not_true, Bool.not_false, Bool.false_eq_true, if_true, if_false, reduceIte, wipeL, bin_mul (hm a b ha hb')]
    exact ⟨trivial, trivial⟩
  · have e : ((xs.zip ys).map fun p => D.int (p.1 * p.2)) = ((xs.zip ys).map fun p => p.1 * p.2).map D.int := by rw [List.map_map]; rfl
    simp only [vw_lst, e, fSum, intsD_map, Option.map_some, getO_some, W.modulus w0 w1 H, wpO_ok, vw_int, bin_mod p0]
    exact end_eq H low_int rfl
theorem multiple_by_v (W : W0 c) (F : Is c "multiple_by" 3 5 false false m_multiple_by) {w f : Int} {xs : List Int} (w0 : 0 ≤ w) (w1 : w ≤ 1000) (hx : xs.length ≤ 1000) (hm : ∀ a, a ∈ xs → mulOk f a = true) (H : Hok h) : c (n + 2) "multiple_by" [.int w, vec xs, .int f] h = .ok (vec (manyV w xs f)) h := by
  refine eq_of_wp (F.wp rfl ?_)
  unfold m_multiple_by
  simp only [w_ret, w_bad, w_var, w_c, w_dic0, w_bin, w_cmp, w_ix, w_tru, w_notV, w_andV, w_orV, w_ifE, w_notT, w_andT, w_orT, w_blT, w_chain, w_nil, w_cons, w_tup, w_lst, w_fz, w_new, w_neg, w_noP, w_P, w_sl, w_rev, w_bi, w_isT, w_call, w_list, w_listR, w_cat, w_mth, s_next, s_bad, s_break, s_cont, s_retN, s_seq, s_drop, s_ret, s_if, s_set, s_asg, g_nm, gs_nil, gs_cons, g_tp, g_sq, g_ix, s_par, s_par3, i_iter, i_zip, i_enm, i_range1, i_range2, wpO_ok, getO_some, isBl_bl, isInt_int, List.getElem?_cons_zero, List.getElem?_cons_succ, List.map_cons, List.map_nil, List.length_cons, List.length_nil, List.cons_append, List.nil_append, Nat.zero_add, Nat.reduceAdd, Nat.reduceSub, List.replicate_succ, List.replicate_zero, List.set_cons_zero, List.set_cons_succ, vw_non, vw_bl, vw_int, vw_str, vw_tup, vw_lst, vw_dic, vw_lok, Bool.not_true, Bool.not_false, Bool.false_eq_true, if_true, if_false, reduceIte, W.modulus w0 w1 H]
  have p0 : (0 : Int) < 2 ^ w.toNat := Int.pow_pos (by decide)
  refine w_lcA H (xs.map D.int) (fun d => match d with
    | .int a => .int (f * a % 2 ^ w.toNat)
    | _ => .non) ?_ ?_ ?_ ?_
  · simp only [w_ret, w_bad, w_var, w_c, w_dic0, w_bin, w_cmp, w_ix, w_tru, w_notV, w_andV, w_orV, w_ifE, w_notT, w_andT, w_orT, w_blT, w_chain, w_nil, w_cons, w_tup, w_lst, w_fz, w_new, w_neg, w_noP, w_P, w_sl, w_rev, w_bi, w_isT, w_call, w_list, w_listR, w_cat, w_mth, s_next, s_bad, s_break, s_cont, s_retN, s_seq, s_drop, s_ret, s_if, s_set, s_asg, g_nm, gs_nil, gs_cons, g_tp, g_sq, g_ix, s_par, s_par3, i_iter, i_zip, i_enm, i_range1, i_range2, wpO_ok, getO_some, isBl_bl, isInt_int, List.getElem?_cons_zero, List.getElem?_cons_succ, List.map_cons, List.map_nil, List.length_cons, List.length_nil, List.cons_append, List.nil_append, Nat.zero_add, Nat.reduceAdd, Nat.reduceSub, List.replicate_succ, List.replicate_zero, List.set_cons_zero, List.set_cons_succ, vw_non, vw_bl, vw_int, vw_str, vw_tup, vw_lst, vw_dic, vw_lok, Bool.not_true, Bool.not_false, Bool.false_eq_true, if_true, if_false, reduceIte, iterO]
    exact ⟨trivial, sz_of (by rw [List.length_map]; omega), sqh_fix⟩
  · intro d hb hd Hb
    obtain ⟨a, ha, rfl⟩ := List.mem_map.mp hd
    simp only [w_ret, w_bad, w_var, w_c, w_dic0, w_bin, w_cmp, w_ix, w_tru, w_notV, w_andV, w_orV, w_ifE, w_notT, w_andT, w_orT, w_blT, w_chain, w_nil, w_cons, w_tup, w_lst, w_fz, w_new, w_neg, w_noP, w_P, w_sl, w_rev, w_bi, w_isT, w_call, w_list, w_listR, w_cat, w_mth, s_next, s_bad, s_break, s_cont, s_retN, s_seq, s_drop, s_ret, s_if, s_set, s_asg, g_nm, gs_nil, gs_cons, g_tp, g_sq, g_ix, s_par, s_par3, i_iter, i_zip, i_enm, i_range1, i_range2, wpO_ok, getO_some, isBl_bl, isInt_int, List.getElem?_cons_zero, List.getElem?_cons_succ, List.map_cons, List.map_nil, List.length_cons, List.length_nil, List.cons_append, List.nil_append, Nat.zero_add, Nat.reduceAdd, Nat.reduceSub, List.replicate_succ, List.replicate_zero, List.set_cons_zero, List.set_cons_succ, vw_non, vw_bl, vw_int, vw_str, vw_tup, vw_lst, vw_dic, vw_lok, Bool.not_true, Bool.not_false, Bool.false_eq_true, if_true, if_false, reduceIte, wipeL, bin_mul (hm a ha), bin_mod p0]
    exact ⟨trivial, trivial, trivial⟩
  · intro d hd
    obtain ⟨a, ha, rfl⟩ := List.mem_map.mp hd
    exact low_int
  · have e : ((xs.map D.int).map fun d => match d with
      | .int a => D.int (f * a % 2 ^ w.toNat)
      | _ => .non) = (manyV w xs f).map D.int := by unfold manyV; rw [List.map_map, List.map_map]; rfl
    rw [e]
    simp only [vw_lst, fTup, getO_some]
    exact end_eq H low_vec rfl
theorem require_width_v (W : W0 c) (F : Is c "require_width" 1 1 false false m_require_width) {w : Int} (w0 : 1 ≤ w) (w1 : w ≤ 16) (H : Hok h) : c (n + 4) "require_width" [.int w] h = .ok .non h := by
  refine eq_of_wp (F.wp rfl ?_)
  unfold m_require_width
  have e : btw (.int w) 1 16 = true := decide_eq_true ⟨w0, w1⟩
  simp only [w_ret, w_bad, w_var, w_c, w_dic0, w_bin, w_cmp, w_ix, w_tru, w_notV, w_andV, w_orV, w_ifE, w_notT, w_andT, w_orT, w_blT, w_chain, w_nil, w_cons, w_tup, w_lst, w_fz, w_new, w_neg, w_noP, w_P, w_sl, w_rev, w_bi, w_isT, w_call, w_list, w_listR, w_cat, w_mth, s_next, s_bad, s_break, s_cont, s_retN, s_seq, s_drop, s_ret, s_if, s_set, s_asg, g_nm, gs_nil, gs_cons, g_tp, g_sq, g_ix, s_par, s_par3, i_iter, i_zip, i_enm, i_range1, i_range2, wpO_ok, getO_some, isBl_bl, isInt_int, List.getElem?_cons_zero, List.getElem?_cons_succ, List.map_cons, List.map_nil, List.length_cons, List.length_nil, List.cons_append, List.nil_append, Nat.zero_add, Nat.reduceAdd, Nat.reduceSub, List.replicate_succ, List.replicate_zero, List.set_cons_zero, List.set_cons_succ, vw_non, vw_bl, vw_int, vw_str, vw_tup, vw_lst, vw_dic, vw_lok, Bool.not_true, Bool.not_false, Bool.false_eq_true, if_true, if_false, reduceIte, W.width lay_int H, e, truD]
  exact end_nx H ⟨rfl, rfl⟩
theorem require_size_v (W : W0 c) (F0 : Is c "is_size" 1 1 false false m_is_size) (F : Is c "require_size" 1 1 false false m_require_size) {w : Int} (w0 : 1 ≤ w) (w1 : w ≤ 40) (H : Hok h) : c (n + 4) "require_size" [.int w] h = .ok .non h := by
  have e1 : c (n + 3) "is_size" [.int w] h = .ok (.bl true) h := by
    refine eq_of_wp (F0.wp rfl ?_)
    unfold m_is_size
    have e : btw (.int w) 1 40 = true := decide_eq_true ⟨w0, w1⟩
    simp only [w_ret, w_bad, w_var, w_c, w_dic0, w_bin, w_cmp, w_ix, w_tru, w_notV, w_andV, w_orV, w_ifE, w_notT, w_andT, w_orT, w_blT, w_chain, w_nil, w_cons, w_tup, w_lst, w_fz, w_new, w_neg, w_noP, w_P, w_sl, w_rev, w_bi, w_isT, w_call, w_list, w_listR, w_cat, w_mth, s_next, s_bad, s_break, s_cont, s_retN, s_seq, s_drop, s_ret, s_if, s_set, s_asg, g_nm, gs_nil, gs_cons, g_tp, g_sq, g_ix, s_par, s_par3, i_iter, i_zip, i_enm, i_range1, i_range2, wpO_ok, getO_some, isBl_bl, isInt_int, List.getElem?_cons_zero, List.getElem?_cons_succ, List.map_cons, List.map_nil, List.length_cons, List.length_nil, List.cons_append, List.nil_append, Nat.zero_add, Nat.reduceAdd, Nat.reduceSub, List.replicate_succ, List.replicate_zero, List.set_cons_zero, List.set_cons_succ, vw_non, vw_bl, vw_int, vw_str, vw_tup, vw_lst, vw_dic, vw_lok, Bool.not_true, Bool.not_false, Bool.false_eq_true, if_true, if_false, reduceIte, W.between lay_int H, e]
    exact end_eq H low_bl rfl
  refine eq_of_wp (F.wp rfl ?_)
  unfold m_require_size
  simp only [w_ret, w_bad, w_var, w_c, w_dic0, w_bin, w_cmp, w_ix, w_tru, w_notV, w_andV, w_orV, w_ifE, w_notT, w_andT, w_orT, w_blT, w_chain, w_nil, w_cons, w_tup, w_lst, w_fz, w_new, w_neg, w_noP, w_P, w_sl, w_rev, w_bi, w_isT, w_call, w_list, w_listR, w_cat, w_mth, s_next, s_bad, s_break, s_cont, s_retN, s_seq, s_drop, s_ret, s_if, s_set, s_asg, g_nm, gs_nil, gs_cons, g_tp, g_sq, g_ix, s_par, s_par3, i_iter, i_zip, i_enm, i_range1, i_range2, wpO_ok, getO_some, isBl_bl, isInt_int, List.getElem?_cons_zero, List.getElem?_cons_succ, List.map_cons, List.map_nil, List.length_cons, List.length_nil, List.cons_append, List.nil_append, Nat.zero_add, Nat.reduceAdd, Nat.reduceSub, List.replicate_succ, List.replicate_zero, List.set_cons_zero, List.set_cons_succ, vw_non, vw_bl, vw_int, vw_str, vw_tup, vw_lst, vw_dic, vw_lok, Bool.not_true, Bool.not_false, Bool.false_eq_true, if_true, if_false, reduceIte, e1, truD]
  exact end_nx H ⟨rfl, rfl⟩
theorem require_vector_v (W : W0 c) (F : Is c "require_vector" 3 3 false false m_require_vector) {w k : Int} {ys : List Int} (w0 : 0 ≤ w) (w1 : w ≤ 1000) (hy : Wd w ys) (hk : (ys.length : Int) = k) (hz : ys.length ≤ 1000) (H : Hok h) : c (n + 6) "require_vector" [.int w, .int k, vec ys] h = .ok .non h := by
  subst hk
  refine eq_of_wp (F.wp rfl ?_)
  unfold m_require_vector
  have hz' : ∀ xs, vec ys = .tup xs → xs.length ≤ sizeLine := by
    intro xs e
    cases e
    exact sz_of (by rw [List.length_map]; omega)
  simp only [w_ret, w_bad, w_var, w_c, w_dic0, w_bin, w_cmp, w_ix, w_tru, w_notV, w_andV, w_orV, w_ifE, w_notT, w_andT, w_orT, w_blT, w_chain, w_nil, w_cons, w_tup, w_lst, w_fz, w_new, w_neg, w_noP, w_P, w_sl, w_rev, w_bi, w_isT, w_call, w_list, w_listR, w_cat, w_mth, s_next, s_bad, s_break, s_cont, s_retN, s_seq, s_drop, s_ret, s_if, s_set, s_asg, g_nm, gs_nil, gs_cons, g_tp, g_sq, g_ix, s_par, s_par3, i_iter, i_zip, i_enm, i_range1, i_range2, wpO_ok, getO_some, isBl_bl, isInt_int, List.getElem?_cons_zero, List.getElem?_cons_succ, List.map_cons, List.map_nil, List.length_cons, List.length_nil, List.cons_append, List.nil_append, Nat.zero_add, Nat.reduceAdd, Nat.reduceSub, List.replicate_succ, List.replicate_zero, List.set_cons_zero, List.set_cons_succ, vw_non, vw_bl, vw_int, vw_str, vw_tup, vw_lst, vw_dic, vw_lok, Bool.not_true, Bool.not_false, Bool.false_eq_true, if_true, if_false, reduceIte, W.vec w0 w1 lay_vec hz' H, vecB_vec hy, truD]
  exact end_nx H ⟨rfl, rfl⟩
theorem require_word_v (W : W0 c) (F : Is c "require_word" 2 2 false false m_require_word) {w y : Int} (w0 : 0 ≤ w) (w1 : w ≤ 1000) (hy : 0 ≤ y ∧ y < (2 : Int) ^ w.toNat) (H : Hok h) : c (n + 4) "require_word" [.int w, .int y] h = .ok .non h := by
  refine eq_of_wp (F.wp rfl ?_)
  unfold m_require_word
  have e : wordB w (.int y) = true := decide_eq_true ⟨hy.1, by omega⟩
  simp only [w_ret, w_bad, w_var, w_c, w_dic0, w_bin, w_cmp, w_ix, w_tru, w_notV, w_andV, w_orV, w_ifE, w_notT, w_andT, w_orT, w_blT, w_chain, w_nil, w_cons, w_tup, w_lst, w_fz, w_new, w_neg, w_noP, w_P, w_sl, w_rev, w_bi, w_isT, w_call, w_list, w_listR, w_cat, w_mth, s_next, s_bad, s_break, s_cont, s_retN, s_seq, s_drop, s_ret, s_if, s_set, s_asg, g_nm, gs_nil, gs_cons, g_tp, g_sq, g_ix, s_par, s_par3, i_iter, i_zip, i_enm, i_range1, i_range2, wpO_ok, getO_some, isBl_bl, isInt_int, List.getElem?_cons_zero, List.getElem?_cons_succ, List.map_cons, List.map_nil, List.length_cons, List.length_nil, List.cons_append, List.nil_append, Nat.zero_add, Nat.reduceAdd, Nat.reduceSub, List.replicate_succ, List.replicate_zero, List.set_cons_zero, List.set_cons_succ, vw_non, vw_bl, vw_int, vw_str, vw_tup, vw_lst, vw_dic, vw_lok, Bool.not_true, Bool.not_false, Bool.false_eq_true, if_true, if_false, reduceIte, W.word w0 w1 lay_int H, e, truD]
  exact end_nx H ⟨rfl, rfl⟩
theorem pow_le16 {a : Nat} (h : a ≤ 16) : (2 : Int) ^ a ≤ 65536 := by
  rcases Nat.lt_or_ge a 16 with h1 | h1
  · have h2 : (2 : Int) ^ a < 2 ^ 16 := Int.pow_lt_pow_of_lt (by decide) h1
    have e : (2 : Int) ^ 16 = 65536 := by decide
    rw [e] at h2
    exact Int.le_of_lt h2
  · have : a = 16 := by omega
    subst this
    decide
theorem le_int {i j : Int} : cmpD .LtE (.int i) (.int j) = some (decide (i ≤ j)) := rfl
theorem is_any_v (W : W0 c) (F : Is c "is_any_vector" 2 2 false false m_is_any_vector) {w : Int} {ys : List Int} (w0 : 0 ≤ w) (w1 : w ≤ 1000) (hy : Wd w ys) (h1 : 1 ≤ ys.length) (h2 : ys.length ≤ 40) (H : Hok h) : c (n + 5) "is_any_vector" [.int w, vec ys] h = .ok (.bl true) h := by
  refine eq_of_wp (F.wp rfl ?_)
  unfold m_is_any_vector
  have hz' : ∀ xs, vec ys = .tup xs → xs.length ≤ sizeLine := by
    intro xs e
    cases e
    exact sz_of (by rw [List.length_map]; omega)
  simp only [w_ret, w_bad, w_var, w_c, w_dic0, w_bin, w_cmp, w_ix, w_tru, w_notV, w_andV, w_orV, w_ifE, w_notT, w_andT, w_orT, w_blT, w_chain, w_nil, w_cons, w_tup, w_lst, w_fz, w_new, w_neg, w_noP, w_P, w_sl, w_rev, w_bi, w_isT, w_call, w_list, w_listR, w_cat, w_mth, s_next, s_bad, s_break, s_cont, s_retN, s_seq, s_drop, s_ret, s_if, s_set, s_asg, g_nm, gs_nil, gs_cons, g_tp, g_sq, g_ix, s_par, s_par3, i_iter, i_zip, i_enm, i_range1, i_range2, wpO_ok, getO_some, isBl_bl, isInt_int, List.getElem?_cons_zero, List.getElem?_cons_succ, List.map_cons, List.map_nil, List.length_cons, List.length_nil, List.cons_append, List.nil_append, Nat.zero_add, Nat.reduceAdd, Nat.reduceSub, List.replicate_succ, List.replicate_zero, List.set_cons_zero, List.set_cons_succ, vw_non, vw_bl, vw_int, vw_str, vw_tup, vw_lst, vw_dic, vw_lok, Bool.not_true, Bool.not_false, Bool.false_eq_true, if_true, if_false, reduceIte, W.words w0 w1 lay_vec hz' H, wordsB_vec hy, truD, fLen]
  have hl : ((ys.map D.int).length : Int) = ys.length := by rw [List.length_map]
  have c1 : cmpD .LtE (.int 1) (.int (ys.map D.int).length) = some true := by
    rw [hl, le_int, decide_eq_true (by omega)]
  have c2 : cmpD .LtE (.int (ys.map D.int).length) (.int 40) = some true := by
    rw [hl, le_int, decide_eq_true (by omega)]
  refine getO_of c1 ?_
  rw [if_pos rfl]
  refine getO_of c2 ?_
  exact end_eq H low_bl rfl
theorem dot_product_v (W : W0 c) (Fr : Is c "require_width" 1 1 false false m_require_width) (Fa : Is c "is_any_vector" 2 2 false false m_is_any_vector) (Fd : Is c "dot_by" 3 5 false false m_dot_by) (F : Is c "dot_product" 3 3 false false m_dot_product)
    {w : Int} {xs ys : List Int} (w0 : 1 ≤ w) (w1 : w ≤ 16) (hx : Wd w xs) (hy : Wd w ys) (h1 : 1 ≤ xs.length) (h2 : xs.length ≤ 40) (h3 : ys.length = xs.length) (H : Hok h) : c (n + 6) "dot_product" [.int w, vec xs, vec ys] h = .ok (.int (dotV w xs ys)) h := by
  refine eq_of_wp (F.wp rfl ?_)
  unfold m_dot_product
  have hm : ∀ a b, a ∈ xs → b ∈ ys → mulOk a b = true := fun a b ha hb => by
    have pb := pow_le16 (a := w.toNat) (by omega)
    exact mul_ok (m := 17) (n := 17) (abs_lt (hx a ha).1 (by have := (hx a ha).2; omega)) (abs_lt (hy b hb).1 (by have := (hy b hb).2; omega)) (by decide)
  have e0 : cmpD .NotEq (.int (xs.map D.int).length) (.int (ys.map D.int).length) = some false := by
    unfold cmpD
    dsimp only
    rw [eq_int, List.length_map, List.length_map, h3]
    simp
  have a0 : 0 ≤ w := by omega
  have a1 : w ≤ 1000 := by omega
  have a2 : xs.length ≤ 1000 := by omega
  have a3 : 1 ≤ ys.length := by omega
  have a4 : ys.length ≤ 40 := by omega
  simp only [w_ret, w_bad, w_var, w_c, w_dic0, w_bin, w_cmp, w_ix, w_tru, w_notV, w_andV, w_orV, w_ifE, w_notT, w_andT, w_orT, w_blT, w_chain, w_nil, w_cons, w_tup, w_lst, w_fz, w_new, w_neg, w_noP, w_P, w_sl, w_rev, w_bi, w_isT, w_call, w_list, w_listR, w_cat, w_mth, s_next, s_bad, s_break, s_cont, s_retN, s_seq, s_drop, s_ret, s_if, s_set, s_asg, g_nm, gs_nil, gs_cons, g_tp, g_sq, g_ix, s_par, s_par3, i_iter, i_zip, i_enm, i_range1, i_range2, wpO_ok, getO_some, isBl_bl, isInt_int, List.getElem?_cons_zero, List.getElem?_cons_succ, List.map_cons, List.map_nil, List.length_cons, List.length_nil, List.cons_append, List.nil_append, Nat.zero_add, Nat.reduceAdd, Nat.reduceSub, List.replicate_succ, List.replicate_zero, List.set_cons_zero, List.set_cons_succ, vw_non, vw_bl, vw_int, vw_str, vw_tup, vw_lst, vw_dic, vw_lok, Bool.not_true, Bool.not_false, Bool.false_eq_true, if_true, if_false, reduceIte, require_width_v W Fr w0 w1 H, is_any_v W Fa a0 a1 hx h1 h2 H, is_any_v W Fa a0 a1 hy a3 a4 H, truD, fLen, e0, dot_by_v W Fd a0 a1 a2 hm H]
  exact end_eq H low_int rfl
theorem vector_multiple_v (W : W0 c) (Fr : Is c "require_width" 1 1 false false m_require_width) (Fa : Is c "is_any_vector" 2 2 false false m_is_any_vector) (Fw : Is c "require_word" 2 2 false false m_require_word) (Fm : Is c "multiple_by" 3 5 false false m_multiple_by) (F : Is c "vector_multiple" 3 3 false false m_vector_multiple)
    {w f : Int} {xs : List Int} (w0 : 1 ≤ w) (w1 : w ≤ 16) (hx : Wd w xs) (hf : 0 ≤ f ∧ f < (2 : Int) ^ w.toNat) (h1 : 1 ≤ xs.length) (h2 : xs.length ≤ 40) (H : Hok h) : c (n + 6) "vector_multiple" [.int w, vec xs, .int f] h = .ok (vec (manyV w xs f)) h := by
  refine eq_of_wp (F.wp rfl ?_)
  unfold m_vector_multiple
  have hm : ∀ a, a ∈ xs → mulOk f a = true := fun a ha => by
    have pb := pow_le16 (a := w.toNat) (by omega)
    exact mul_ok (m := 17) (n := 17) (abs_lt hf.1 (by omega)) (abs_lt (hx a ha).1 (by have := (hx a ha).2; omega)) (by decide)
  have a0 : 0 ≤ w := by omega
  have a1 : w ≤ 1000 := by omega
  have a2 : xs.length ≤ 1000 := by omega
  simp only [w_ret, w_bad, w_var, w_c, w_dic0, w_bin, w_cmp, w_ix, w_tru, w_notV, w_andV, w_orV, w_ifE, w_notT, w_andT, w_orT, w_blT, w_chain, w_nil, w_cons, w_tup, w_lst, w_fz, w_new, w_neg, w_noP, w_P, w_sl, w_rev, w_bi, w_isT, w_call, w_list, w_listR, w_cat, w_mth, s_next, s_bad, s_break, s_cont, s_retN, s_seq, s_drop, s_ret, s_if, s_set, s_asg, g_nm, gs_nil, gs_cons, g_tp, g_sq, g_ix, s_par, s_par3, i_iter, i_zip, i_enm, i_range1, i_range2, wpO_ok, getO_some, isBl_bl, isInt_int, List.getElem?_cons_zero, List.getElem?_cons_succ, List.map_cons, List.map_nil, List.length_cons, List.length_nil, List.cons_append, List.nil_append, Nat.zero_add, Nat.reduceAdd, Nat.reduceSub, List.replicate_succ, List.replicate_zero, List.set_cons_zero, List.set_cons_succ, vw_non, vw_bl, vw_int, vw_str, vw_tup, vw_lst, vw_dic, vw_lok, Bool.not_true, Bool.not_false, Bool.false_eq_true, if_true, if_false, reduceIte, require_width_v W Fr w0 w1 H, is_any_v W Fa a0 a1 hx h1 h2 H, require_word_v W Fw a0 a1 hf H, truD, multiple_by_v W Fm a0 a1 a2 hm H]
  exact end_eq H low_vec rfl
def sumsV (w : Int) (k : Nat) (vs : List (List Int)) : List Int := vs.foldl (sumV w) (List.replicate k 0)
theorem sumV_len {w : Int} {xs ys : List Int} (h : xs.length = ys.length) : (sumV w xs ys).length = xs.length := by
  unfold sumV
  rw [List.length_map, List.length_zip, h, Nat.min_self]
theorem bin_rep {x : Int} {k : Nat} (h1 : 1 ≤ k) (h2 : k ≤ 1000) : binD .Mult (.tup [.int x]) (.int k) = some (vec (List.replicate k x)) := by
  have e : ∀ m : Nat, (List.replicate m [D.int x]).flatten = (List.replicate m x).map D.int := fun m => by
    induction m with
    | zero => rfl
    | succ m ih => rw [List.replicate_succ, List.replicate_succ, List.flatten_cons, ih]; rfl
  unfold binD
  dsimp only
  by_cases h : (k : Int) = 1
  · rw [if_pos h]
    have : k = 1 := by omega
    subst this
    rfl
  · rw [if_neg h, if_neg (fun z => absurd z.1 (by omega)), if_pos ⟨rfl, by omega, by omega, by show 1 ≤ 1000; omega⟩]
    have : ((k : Nat) : Int).toNat = k := by omega
    rw [this, e]
theorem vector_sum_v (W : W0 c) (Fr : Is c "require_width" 1 1 false false m_require_width) (F0 : Is c "is_size" 1 1 false false m_is_size) (Fz : Is c "require_size" 1 1 false false m_require_size) (Fv : Is c "require_vector" 3 3 false false m_require_vector) (Fs : Is c "sum_by" 3 6 false false m_sum_by)
    (F : Is c "vector_sum" 2 5 true false m_vector_sum) {w : Int} {k : Nat} {vs : List (List Int)} (w0 : 1 ≤ w) (w1 : w ≤ 16) (k0 : 1 ≤ k) (k1 : k ≤ 40) (hv : ∀ v ∈ vs, Wd w v ∧ v.length = k) (hz : vs.length ≤ 100) (H : Hok h) :
    c (n + 7) "vector_sum" (.int w :: .int k :: vs.map vec) h = .ok (vec (sumsV w k vs)) h := by
  refine eq_of_wp (F.wpV ⟨by simp, by simp; omega⟩ ?_)
  unfold m_vector_sum
  have a0 : 0 ≤ w := by omega
  have a1 : w ≤ 1000 := by omega
  have b1 : (1 : Int) ≤ k := by omega
  have b2 : (k : Int) ≤ 40 := by omega
  simp only [List.take_succ_cons, List.take_zero, List.drop_succ_cons, List.drop_zero, w_ret, w_bad, w_var, w_c, w_dic0, w_bin, w_cmp, w_ix, w_tru, w_notV, w_andV, w_orV, w_ifE, w_notT, w_andT, w_orT, w_blT, w_chain, w_nil, w_cons, w_tup, w_lst, w_fz, w_new, w_neg, w_noP, w_P, w_sl, w_rev, w_bi, w_isT, w_call, w_list, w_listR, w_cat, w_mth, s_next, s_bad, s_break, s_cont, s_retN, s_seq, s_drop, s_ret, s_if, s_set, s_asg, g_nm, gs_nil, gs_cons, g_tp, g_sq, g_ix, s_par, s_par3, i_iter, i_zip, i_enm, i_range1, i_range2, wpO_ok, getO_some, isBl_bl, isInt_int, List.getElem?_cons_zero, List.getElem?_cons_succ, List.map_cons, List.map_nil, List.length_cons, List.length_nil, List.cons_append, List.nil_append, Nat.zero_add, Nat.reduceAdd, Nat.reduceSub, List.replicate_succ, List.replicate_zero, List.set_cons_zero, List.set_cons_succ, vw_non, vw_bl, vw_int, vw_str, vw_tup, vw_lst, vw_dic, vw_lok, Bool.not_true, Bool.not_false, Bool.false_eq_true, if_true, if_false, reduceIte, require_width_v W Fr w0 w1 H, require_size_v W F0 Fz b1 b2 H]
  refine ⟨szOk_of (by decide), getO_of (bin_rep k0 (by omega)) ?_⟩
  refine s_for (vs.map vec) (fun i l hh => hh = h ∧ ∃ o, l = [some (.int w), some (.int k), some (.tup (vs.map vec)), some (vec (sumsV w k (vs.take i))), o] ∧ (sumsV w k (vs.take i)).length = k) ?_ ?_ ?_
  · simp only [w_ret, w_bad, w_var, w_c, w_dic0, w_bin, w_cmp, w_ix, w_tru, w_notV, w_andV, w_orV, w_ifE, w_notT, w_andT, w_orT, w_blT, w_chain, w_nil, w_cons, w_tup, w_lst, w_fz, w_new, w_neg, w_noP, w_P, w_sl, w_rev, w_bi, w_isT, w_call, w_list, w_listR, w_cat, w_mth, s_next, s_bad, s_break, s_cont, s_retN, s_seq, s_drop, s_ret, s_if, s_set, s_asg, g_nm, gs_nil, gs_cons, g_tp, g_sq, g_ix, s_par, s_par3, i_iter, i_zip, i_enm, i_range1, i_range2, wpO_ok, getO_some, isBl_bl, isInt_int, List.getElem?_cons_zero, List.getElem?_cons_succ, List.map_cons, List.map_nil, List.length_cons, List.length_nil, List.cons_append, List.nil_append, Nat.zero_add, Nat.reduceAdd, Nat.reduceSub, List.replicate_succ, List.replicate_zero, List.set_cons_zero, List.set_cons_succ, vw_non, vw_bl, vw_int, vw_str, vw_tup, vw_lst, vw_dic, vw_lok, Bool.not_true, Bool.not_false, Bool.false_eq_true, if_true, if_false, reduceIte, iterO]
    refine ⟨Nat.le_refl _, ⟨trivial, none, rfl, ?_⟩, fun i l hh _ _ j => by rw [itAt]⟩
    show (List.replicate k (0 : Int)).length = k
    exact List.length_replicate ..
  · rintro i d l hh ed ⟨rfl, o, rfl, hl⟩
    rw [List.getElem?_map] at ed
    obtain ⟨v, ev, rfl⟩ := Option.map_eq_some_iff.mp ed
    obtain ⟨v1, v2⟩ := hv v (List.mem_of_getElem? ev)
    have v3 : (v.length : Int) = k := by omega
    have v4 : v.length ≤ 1000 := by omega
    have v5 : (sumsV w k (vs.take i)).length ≤ 1000 := by omega
    simp only [w_ret, w_bad, w_var, w_c, w_dic0, w_bin, w_cmp, w_ix, w_tru, w_notV, w_andV, w_orV, w_ifE, w_notT, w_andT, w_orT, w_blT, w_chain, w_nil, w_cons, w_tup, w_lst, w_fz, w_new, w_neg, w_noP, w_P, w_sl, w_rev, w_bi, w_isT, w_call, w_list, w_listR, w_cat, w_mth, s_next, s_bad, s_break, s_cont, s_retN, s_seq, s_drop, s_ret, s_if, s_set, s_asg, g_nm, gs_nil, gs_cons, g_tp, g_sq, g_ix, s_par, s_par3, i_iter, i_zip, i_enm, i_range1, i_range2, wpO_ok, getO_some, isBl_bl, isInt_int, List.getElem?_cons_zero, List.getElem?_cons_succ, List.map_cons, List.map_nil, List.length_cons, List.length_nil, List.cons_append, List.nil_append, Nat.zero_add, Nat.reduceAdd, Nat.reduceSub, List.replicate_succ, List.replicate_zero, List.set_cons_zero, List.set_cons_succ, vw_non, vw_bl, vw_int, vw_str, vw_tup, vw_lst, vw_dic, vw_lok, Bool.not_true, Bool.not_false, Bool.false_eq_true, if_true, if_false, reduceIte, require_vector_v W Fv a0 a1 v1 v3 v4 H, sum_by_v W Fs a0 a1 v5 H]
    have e : sumV w (sumsV w k (vs.take i)) v = sumsV w k (vs.take (i + 1)) := by
      unfold sumsV
      rw [List.take_add_one, ev, Option.toList_some, List.foldl_append]
      rfl
    rw [e]
    refine ⟨trivial, _, rfl, ?_⟩
    rw [← e, sumV_len (by omega), hl]
  · rintro l hh ⟨rfl, o, rfl, hl⟩
    rw [List.length_map, List.take_length] at *
    simp only [w_ret, w_bad, w_var, w_c, w_dic0, w_bin, w_cmp, w_ix, w_tru, w_notV, w_andV, w_orV, w_ifE, w_notT, w_andT, w_orT, w_blT, w_chain, w_nil, w_cons, w_tup, w_lst, w_fz, w_new, w_neg, w_noP, w_P, w_sl, w_rev, w_bi, w_isT, w_call, w_list, w_listR, w_cat, w_mth, s_next, s_bad, s_break, s_cont, s_retN, s_seq, s_drop, s_ret, s_if, s_set, s_asg, g_nm, gs_nil, gs_cons, g_tp, g_sq, g_ix, s_par, s_par3, i_iter, i_zip, i_enm, i_range1, i_range2, wpO_ok, getO_some, isBl_bl, isInt_int, List.getElem?_cons_zero, List.getElem?_cons_succ, List.map_cons, List.map_nil, List.length_cons, List.length_nil, List.cons_append, List.nil_append, Nat.zero_add, Nat.reduceAdd, Nat.reduceSub, List.replicate_succ, List.replicate_zero, List.set_cons_zero, List.set_cons_succ, vw_non, vw_bl, vw_int, vw_str, vw_tup, vw_lst, vw_dic, vw_lok, Bool.not_true, Bool.not_false, Bool.false_eq_true, if_true, if_false, reduceIte]
    exact end_eq H low_vec rfl
end
end Pw
/-! repr: how long a text gets -/
namespace Pw
open PySem WW Mr
structure Rp (d : D) (c k : Nat) : Prop where
  lay : d.lay = true
  sh : d.py.showable = true
  len : d.py.shown.length ≤ c
  dep : d.py.depth ≤ k
theorem Rp.mono {d : D} {c k c' k' : Nat} (r : Rp d c k) (h1 : c ≤ c') (h2 : k ≤ k') : Rp d c' k' := ⟨r.lay, r.sh, Nat.le_trans r.len h1, Nat.le_trans r.dep h2⟩
theorem fRepr_of {d : D} {c k : Nat} (r : Rp d c k) (h1 : c ≤ 1000000) (h2 : k ≤ 64) : fRepr [d] = some (.str d.py.shown) := by
  unfold fRepr
  dsimp only
  rw [if_pos]
  rw [r.lay, r.sh, decide_eq_true (sz_of (Nat.le_trans r.len h1)), decide_eq_true (Nat.le_trans r.dep h2)]
  rfl
theorem Rp.int {i : Int} {m : Nat} (h0 : 0 < m) (hm : m ≤ 1920) (h : i.natAbs < 2 ^ m) : Rp (.int i) (m + 1) 0 := by
  have hl : i.natAbs.log2 < m := by
    by_cases e : i.natAbs = 0
    · rw [e]; exact h0
    · exact (Nat.log2_lt e).mpr h
  refine ⟨lay_int, ?_, ?_, ?_⟩
  · show decide _ = true
    exact decide_eq_true (by omega)
  · show (Str.ofString (toString i)).length ≤ _
    rw [PySem.ofString_length]
    exact int_text_length_le h0 hl
  · rw [D.py]; unfold PyData.depth; exact Nat.le_refl _
theorem strLen_app (a b : Str) : (a ++ b).length = a.length + b.length := strLen_append a b
theorem textFrom_le : ∀ (ts : List Str) (k : Nat) (acc : Str), (textFrom k acc ts).length ≤ acc.length + piled ts
  | [], k, acc => by unfold textFrom; omega
  | t :: ts, k, acc => by
    unfold textFrom
    have h := textFrom_le ts (k + 1) (acc ++ (if k > 0 then ", " else "" : String) ++ t)
    rw [strLen_app, strLen_app] at h
    rw [piled_cons]
    have : (Str.ofString (if k > 0 then ", " else "" : String)).length ≤ 2 := by
      split <;> decide
    omega
theorem listText_le (ts : List Str) : (listText ts).length ≤ piled ts + 2 := by
  unfold listText
  rw [strLen_app]
  have := textFrom_le ts 0 "["
  have e1 : (Str.ofString "[").length = 1 := by decide
  have e2 : (Str.ofString "]").length = 1 := by decide
  omega
theorem tupleText_le (ts : List Str) : (tupleText ts).length ≤ piled ts + 3 := by
  unfold tupleText
  rw [strLen_app, strLen_app]
  have e1 : (Str.ofString "(").length = 1 := by decide
  have e2 : (Str.ofString (if ts.length == 1 then ",)" else ")" : String)).length ≤ 2 := by split <;> decide
  by_cases h : ts = []
  · subst h
    have e3 : (Str.join ", " []).length = 0 := by decide
    omega
  · have := join_length_add ts h
    omega
theorem Rps {xs : List D} {c k : Nat} (h : ∀ x ∈ xs, Rp x c k) : D.lays xs = true ∧ PyData.showableAll (D.pys xs) = true ∧ piled (PyData.shownAll (D.pys xs)) ≤ xs.length * (c + 2) ∧ PyData.depthAll (D.pys xs) ≤ k := by
  induction xs with
  | nil => exact ⟨by rw [D.lays], by rw [D.pys, PyData.showableAll], by rw [D.pys, PyData.shownAll]; exact Nat.zero_le _, by rw [D.pys, PyData.depthAll]; exact Nat.zero_le _⟩
  | cons x xs ih =>
    obtain ⟨i1, i2, i3, i4⟩ := ih fun y hy => h y (List.mem_cons_of_mem _ hy)
    obtain ⟨j1, j2, j3, j4⟩ := h x List.mem_cons_self
    refine ⟨by rw [D.lays, j1, i1]; rfl, by rw [D.pys, PyData.showableAll, j2, i2]; rfl, ?_, ?_⟩
    · rw [D.pys, PyData.shownAll, piled_cons, List.length_cons, Nat.succ_mul]
      omega
    · rw [D.pys, PyData.depthAll]
      exact Nat.max_le.mpr ⟨j4, i4⟩
theorem Rp.tup {xs : List D} {c k : Nat} (h : ∀ x ∈ xs, Rp x c k) : Rp (.tup xs) (xs.length * (c + 2) + 3) (k + 1) := by
  obtain ⟨i1, i2, i3, i4⟩ := Rps h
  refine ⟨by rw [D.lay]; exact i1, by rw [D.py, PyData.showable]; exact i2, ?_, by rw [D.py, PyData.depth]; omega⟩
  rw [D.py, PyData.shown]
  have := tupleText_le (PyData.shownAll (D.pys xs))
  omega
theorem Rp.lst {xs : List D} {c k : Nat} (h : ∀ x ∈ xs, Rp x c k) : Rp (.lst xs) (xs.length * (c + 2) + 3) (k + 1) := by
  obtain ⟨i1, i2, i3, i4⟩ := Rps h
  refine ⟨by rw [D.lay]; exact i1, by rw [D.py, PyData.showable]; exact i2, ?_, by rw [D.py, PyData.depth]; omega⟩
  rw [D.py, PyData.shown]
  have := listText_le (PyData.shownAll (D.pys xs))
  omega
/-- a vector of at most forty words of at most sixteen bits -/
theorem Rp.vec {ys : List Int} {w : Int} (h : Wd w ys) (hw : w ≤ 16) (hl : ys.length ≤ 40) : Rp (vec ys) 1000 1 := by
  have z : Rp (Pw.vec ys) ((ys.map D.int).length * (18 + 2) + 3) 1 := Rp.tup (k := 0) fun x hx => by
    obtain ⟨y, hy, rfl⟩ := List.mem_map.mp hx
    have pb := pow_le16 (a := w.toNat) (by omega)
    have := h y hy
    exact Rp.int (m := 17) (by decide) (by decide) (abs_lt this.1 (by omega))
  refine z.mono ?_ (Nat.le_refl _)
  rw [List.length_map]
  omega
theorem cmp_str (x y : Str) : cmpD .NotEq (.str x) (.str y) = some (!decide (x = y)) ∧ cmpD .Eq (.str x) (.str y) = some (decide (x = y)) := ⟨rfl, rfl⟩
end Pw
/-! values of many kinds: what is known of them -/
namespace Pw
open PySem WW Mr
def asc (x : Str) : Bool := x.cps.toList.all fun c => decide (c < 128)
def isDk : List (L2.Key × D) → Bool
  | [] => true
  | [(.inl 0, .int 1)] => true
  | _ => false
mutual
/-- made of ints of less than a bits, short plain texts, None, bools, the dicts {} and {0: 1} -/
def okA (a : Nat) : D → Bool
  | .non | .bl _ => true
  | .int i => decide (i.natAbs < 2 ^ a)
  | .str x => asc x && decide (x.length ≤ a)
  | .tup xs | .lst xs => okAs a xs
  | .dic kvs => isDk kvs
  | _ => false
def okAs (a : Nat) : List D → Bool
  | [] => true
  | x :: xs => okA a x && okAs a xs
end
mutual
/-- how long its text may be -/
def wt : D → Nat
  | .non | .bl _ => 8
  | .int _ => 200
  | .str x => 10 * x.length + 4
  | .tup xs | .lst xs => wts xs + 5
  | .dic _ => 20
  | .lok _ | .ref _ | .thk | .exo _ _ => 0
def wts : List D → Nat
  | [] => 0
  | x :: xs => wt x + wts xs
end
mutual
def dp : D → Nat
  | .tup xs | .lst xs => dps xs + 1
  | .dic _ => 1
  | .non | .bl _ | .int _ | .str _ | .lok _ | .ref _ | .thk | .exo _ _ => 0
def dps : List D → Nat
  | [] => 0
  | x :: xs => max (dp x) (dps xs)
end
section
variable {a b : Nat}
theorem okAs_mem {xs : List D} : okAs a xs = true ↔ ∀ x ∈ xs, okA a x = true := by
  induction xs with
  | nil => unfold okAs; simp
  | cons x xs ih =>
    unfold okAs
    rw [Bool.and_eq_true, ih, List.forall_mem_cons]
theorem dps_mem {xs : List D} {k : Nat} : dps xs ≤ k ↔ ∀ x ∈ xs, dp x ≤ k := by
  induction xs with
  | nil => unfold dps; simp
  | cons x xs ih =>
    unfold dps
    rw [Nat.max_le, ih, List.forall_mem_cons]
theorem wts_app {xs ys : List D} : wts (xs ++ ys) = wts xs + wts ys := by
  induction xs with
  | nil => rw [List.nil_append, show wts ([] : List D) = 0 by unfold wts; rfl, Nat.zero_add]
  | cons x xs ih => rw [List.cons_append, wts, wts, ih]; omega
theorem wts_sub {xs ys : List D} (h : xs.Sublist ys) : wts xs ≤ wts ys := by
  induction h with
  | slnil => exact Nat.le_refl _
  | cons x _ ih => rw [wts]; omega
  | cons_cons x _ ih => rw [wts, wts]; omega
theorem wts_mem {xs : List D} {x : D} (h : x ∈ xs) : wt x ≤ wts xs := by
  induction xs with
  | nil => cases h
  | cons y ys ih =>
    rw [wts]
    rcases List.mem_cons.mp h with rfl | h
    · omega
    · have := ih h; omega
theorem wts_rev {xs : List D} : wts xs.reverse = wts xs := by
  induction xs with
  | nil => rfl
  | cons x xs ih => rw [List.reverse_cons, wts_app, ih, wts, wts, wts]; omega
mutual
theorem okA_mono (h : a ≤ b) : ∀ {d : D}, okA a d = true → okA b d = true
  | .non, _ | .bl _, _ => by unfold okA; rfl
  | .int i, q => by
    unfold okA at q ⊢
    exact decide_eq_true (Nat.lt_of_lt_of_le (of_decide_eq_true q) (Nat.pow_le_pow_right (by decide) h))
  | .str x, q => by
    unfold okA at q ⊢
    obtain ⟨q1, q2⟩ := Bool.and_eq_true_iff.mp q
    rw [q1, decide_eq_true (Nat.le_trans (of_decide_eq_true q2) h)]; rfl
  | .tup xs, q | .lst xs, q => by unfold okA at q ⊢; exact okAs_mono h q
  | .dic kvs, q => by unfold okA at q ⊢; exact q
  | .lok _, q | .ref _, q | .thk, q | .exo _ _, q => by unfold okA at q; cases q
theorem okAs_mono (h : a ≤ b) : ∀ {ds : List D}, okAs a ds = true → okAs b ds = true
  | [], _ => by unfold okAs; rfl
  | d :: ds, q => by
    unfold okAs at q ⊢
    obtain ⟨q1, q2⟩ := Bool.and_eq_true_iff.mp q
    rw [okA_mono h q1, okAs_mono h q2]; rfl
end
theorem isDk_cases {kvs : List (L2.Key × D)} (h : isDk kvs = true) : kvs = [] ∨ kvs = [(.inl 0, .int 1)] := by
  unfold isDk at h
  split at h
  · exact .inl rfl
  · exact .inr rfl
  · cases h
mutual
theorem rp_of (ha : 0 < a) (ha2 : a ≤ 190) : ∀ {d : D}, okA a d = true → d.lay = true ∧ d.py.showable = true ∧ d.py.shown.length + 2 ≤ wt d ∧ d.py.depth ≤ dp d
  | .non, _ => ⟨by rw [D.lay], by rw [D.py]; rfl, by rw [D.py, wt]; decide, by rw [D.py]; exact Nat.zero_le _⟩
  | .bl b, _ => ⟨by rw [D.lay], by rw [D.py]; rfl, by rw [D.py, wt]; cases b <;> decide, by rw [D.py]; exact Nat.zero_le _⟩
  | .int i, q => by
    unfold okA at q
    have r := Rp.int (i := i) (m := a) ha (by omega) (of_decide_eq_true q)
    exact ⟨r.lay, r.sh, by have := r.len; rw [wt]; omega, by have := r.dep; rw [dp]; omega⟩
  | .str x, q => by
    unfold okA at q
    obtain ⟨q1, q2⟩ := Bool.and_eq_true_iff.mp q
    refine ⟨by rw [D.lay], by rw [D.py]; rfl, ?_, by rw [D.py]; exact Nat.zero_le _⟩
    rw [D.py, wt]
    show (reprText x).length + 2 ≤ _
    have := PySem.StrLaws.reprText_len x fun c hc => Nat.lt_of_lt_of_le (of_decide_eq_true (List.all_eq_true.mp q1 c hc)) (by decide)
    omega
  | .tup xs, q => by
    unfold okA at q
    obtain ⟨i1, i2, i3, i4⟩ := rps_of ha ha2 q
    refine ⟨by rw [D.lay]; exact i1, by rw [D.py, PyData.showable]; exact i2, ?_, by rw [D.py, PyData.depth, dp]; omega⟩
    rw [D.py, PyData.shown, wt]
    have := tupleText_le (PyData.shownAll (D.pys xs))
    omega
  | .lst xs, q => by
    unfold okA at q
    obtain ⟨i1, i2, i3, i4⟩ := rps_of ha ha2 q
    refine ⟨by rw [D.lay]; exact i1, by rw [D.py, PyData.showable]; exact i2, ?_, by rw [D.py, PyData.depth, dp]; omega⟩
    rw [D.py, PyData.shown, wt]
    have := listText_le (PyData.shownAll (D.pys xs))
    omega
  | .dic kvs, q => by
    unfold okA at q
    rcases isDk_cases q with rfl | rfl
    · exact ⟨by rw [D.lay, D.layk], by rw [D.py, D.pyk]; rfl, by rw [D.py, D.pyk, wt]; decide +kernel, by rw [D.py, D.pyk, dp]; decide +kernel⟩
    · refine ⟨by rw [D.lay, D.layk, D.lay, D.layk]; rfl, by rw [D.py, D.pyk, D.py, D.pyk]; rfl, by rw [D.py, D.pyk, D.py, D.pyk, wt]; decide +kernel, by rw [D.py, D.pyk, D.py, D.pyk, dp]; decide +kernel⟩
  | .lok _, q | .ref _, q | .thk, q | .exo _ _, q => by unfold okA at q; cases q
theorem rps_of (ha : 0 < a) (ha2 : a ≤ 190) : ∀ {xs : List D}, okAs a xs = true → D.lays xs = true ∧ PyData.showableAll (D.pys xs) = true ∧ piled (PyData.shownAll (D.pys xs)) ≤ wts xs ∧ PyData.depthAll (D.pys xs) ≤ dps xs
  | [], _ => ⟨by rw [D.lays], by rw [D.pys, PyData.showableAll], by rw [D.pys, PyData.shownAll]; exact Nat.zero_le _, by rw [D.pys, PyData.depthAll]; exact Nat.zero_le _⟩
  | x :: xs, q => by
    unfold okAs at q
    obtain ⟨q1, q2⟩ := Bool.and_eq_true_iff.mp q
    obtain ⟨i1, i2, i3, i4⟩ := rps_of ha ha2 q2
    obtain ⟨j1, j2, j3, j4⟩ := rp_of ha ha2 q1
    refine ⟨by rw [D.lays, j1, i1]; rfl, by rw [D.pys, PyData.showableAll, j2, i2]; rfl, ?_, ?_⟩
    · rw [D.pys, PyData.shownAll, piled_cons, wts]
      omega
    · rw [D.pys, PyData.depthAll, dps]
      omega
end
/-- a value: its atoms, its depth, its length -/
structure Vl (a k W : Nat) (d : D) : Prop where
  ok : okA a d = true
  dep : dp d ≤ k
  w : wt d ≤ W
structure Vs (a k W : Nat) (xs : List D) : Prop where
  ok : okAs a xs = true
  dep : dps xs ≤ k
  w : wts xs ≤ W
variable {k k' W W' : Nat} {d : D} {xs ys : List D}
theorem Vl.rp (v : Vl a k W d) (ha : 0 < a) (ha2 : a ≤ 190) : Rp d W k := by
  obtain ⟨h1, h2, h3, h4⟩ := rp_of ha ha2 v.ok
  have := v.w
  have := v.dep
  exact ⟨h1, h2, by omega, by omega⟩
theorem Vl.up (v : Vl a k W d) (h : a ≤ b) : Vl b k W d := ⟨okA_mono h v.ok, v.dep, v.w⟩
theorem Vs.up (v : Vs a k W xs) (h : a ≤ b) : Vs b k W xs := ⟨okAs_mono h v.ok, v.dep, v.w⟩
theorem Vl.le (v : Vl a k W d) (h1 : k ≤ k') (h2 : W ≤ W') : Vl a k' W' d := ⟨v.ok, Nat.le_trans v.dep h1, Nat.le_trans v.w h2⟩
theorem Vs.le (v : Vs a k W xs) (h1 : k ≤ k') (h2 : W ≤ W') : Vs a k' W' xs := ⟨v.ok, Nat.le_trans v.dep h1, Nat.le_trans v.w h2⟩
theorem Vl.tup (v : Vl a k W (.tup xs)) : Vs a k W xs ∧ wts xs + 5 ≤ W := by
  obtain ⟨h1, h2, h3⟩ := v
  unfold okA at h1
  unfold dp at h2
  unfold wt at h3
  exact ⟨⟨h1, by omega, by omega⟩, h3⟩
theorem Vs.tup (v : Vs a k W xs) : Vl a (k + 1) (W + 5) (.tup xs) := by
  obtain ⟨h1, h2, h3⟩ := v
  exact ⟨by unfold okA; exact h1, by unfold dp; omega, by unfold wt; omega⟩
theorem Vs.lst (v : Vs a k W xs) : Vl a (k + 1) (W + 5) (.lst xs) := by
  obtain ⟨h1, h2, h3⟩ := v
  exact ⟨by unfold okA; exact h1, by unfold dp; omega, by unfold wt; omega⟩
/-- as deep as the whole -/
theorem Vl.tups (v : Vl a k W (.tup xs)) : Vs a (k - 1) (W - 5) xs ∧ 1 ≤ k := by
  obtain ⟨h1, h2, h3⟩ := v
  unfold okA at h1
  unfold dp at h2
  unfold wt at h3
  exact ⟨⟨h1, by omega, by omega⟩, by omega⟩
theorem Vs.nil : Vs a 0 0 [] := ⟨by unfold okAs; rfl, by unfold dps; exact Nat.le_refl _, by unfold wts; exact Nat.le_refl _⟩
theorem Vs.one (v : Vl a k W d) : Vs a k W [d] := ⟨okAs_mem.mpr fun x hx => by rw [List.mem_singleton.mp hx]; exact v.ok, dps_mem.mpr fun x hx => by rw [List.mem_singleton.mp hx]; exact v.dep, by rw [wts, wts]; exact v.w⟩
theorem Vs.app (v : Vs a k W xs) (u : Vs a k W' ys) : Vs a k (W + W') (xs ++ ys) := by
  refine ⟨okAs_mem.mpr fun x hx => ?_, dps_mem.mpr fun x hx => ?_, ?_⟩
  · rcases List.mem_append.mp hx with h | h
    · exact okAs_mem.mp v.ok x h
    · exact okAs_mem.mp u.ok x h
  · rcases List.mem_append.mp hx with h | h
    · exact dps_mem.mp v.dep x h
    · exact dps_mem.mp u.dep x h
  · rw [wts_app]
    have := v.w
    have := u.w
    omega
theorem Vs.sub (v : Vs a k W xs) (h : ys.Sublist xs) : Vs a k W ys := ⟨okAs_mem.mpr fun x hx => okAs_mem.mp v.ok x (h.subset hx), dps_mem.mpr fun x hx => dps_mem.mp v.dep x (h.subset hx), Nat.le_trans (wts_sub h) v.w⟩
theorem Vs.rev (v : Vs a k W xs) : Vs a k W xs.reverse := ⟨okAs_mem.mpr fun x hx => okAs_mem.mp v.ok x (List.mem_reverse.mp hx), dps_mem.mpr fun x hx => dps_mem.mp v.dep x (List.mem_reverse.mp hx), by rw [wts_rev]; exact v.w⟩
theorem Vs.mem (v : Vs a k W xs) (h : d ∈ xs) : Vl a k W d := ⟨okAs_mem.mp v.ok d h, dps_mem.mp v.dep d h, Nat.le_trans (wts_mem h) v.w⟩
theorem wt_pos (h : okA a d = true) : 4 ≤ wt d := by
  cases d <;> first | (unfold wt; omega) | (unfold okA at h; cases h)
theorem Vs.len (v : Vs a k W xs) : 4 * xs.length ≤ W := by
  have key : ∀ {zs : List D}, okAs a zs = true → 4 * zs.length ≤ wts zs := by
    intro zs
    induction zs with
    | nil => intro _; exact Nat.zero_le _
    | cons z zs ih =>
      intro h
      unfold okAs at h
      obtain ⟨h1, h2⟩ := Bool.and_eq_true_iff.mp h
      have := wt_pos h1
      have := ih h2
      rw [wts, List.length_cons]
      omega
  exact Nat.le_trans (key v.ok) v.w
theorem cut_sub (xs : List D) (lo hi : Option Int) : (cutD xs lo hi).Sublist xs := (List.take_sublist _ _).trans (List.drop_sublist _ _)
theorem Vl.low (v : Vl a k W d) (ha : 0 < a) (ha2 : a ≤ 190) : d.low 0 = true := lay_low (v.rp ha ha2).lay
/-! texts -/
theorem asc_app {x y : Str} (h1 : asc x = true) (h2 : asc y = true) : asc (x ++ y) = true := by
  unfold asc at *
  have e : (x ++ y).cps.toList = x.cps.toList ++ y.cps.toList := TL.tl_append x y
  rw [e, List.all_append, h1, h2]; rfl
theorem asc_cut {x : Str} {lo hi : Option Int} (h : asc x = true) : asc (L2.cutS x lo hi) = true ∧ (L2.cutS x lo hi).length ≤ x.length := by
  have sub : (List.take (HT.sIx x.length x.length hi - HT.sIx x.length 0 lo) (List.drop (HT.sIx x.length 0 lo) x.cps.toList)).Sublist x.cps.toList := (List.take_sublist _ _).trans (List.drop_sublist _ _)
  refine ⟨List.all_eq_true.mpr fun c hc => List.all_eq_true.mp h c (sub.subset hc), ?_⟩
  have := sub.length_le
  show (List.toArray _).size ≤ x.cps.size
  rw [List.size_toArray, ← Array.length_toList]
  exact this
theorem asc_int {i : Int} : asc (Str.ofString (toString i)) = true := List.all_eq_true.mpr fun c hc => decide_eq_true (Nat.lt_of_not_le fun h => PyProof.Rows.int_text_free' c ⟨by omega, .inr (by omega)⟩ i hc)
theorem asc_up {x : Str} (h : asc x = true) : asc (Txt.upper x) = true ∧ (Txt.upper x).length = x.length := by
  have e := PyProof.Rows.upper_ascii (x := x) fun c hc => of_decide_eq_true (List.all_eq_true.mp h c hc)
  rw [e]
  refine ⟨List.all_eq_true.mpr fun c hc => ?_, ?_⟩
  · have hc : c ∈ (x.cps.map PyProof.Rows.up1).toList := hc
    rw [Array.toList_map] at hc
    obtain ⟨b, hb, rfl⟩ := List.mem_map.mp hc
    have := of_decide_eq_true (List.all_eq_true.mp h b hb)
    refine decide_eq_true ?_
    unfold PyProof.Rows.up1
    split <;> omega
  · show (x.cps.map PyProof.Rows.up1).size = x.cps.size
    rw [Array.size_map]
theorem Vl.str {x : Str} (h1 : asc x = true) (h2 : x.length ≤ a) : Vl a 0 (10 * a + 4) (.str x) := ⟨by unfold okA; rw [h1, decide_eq_true h2]; rfl, by unfold dp; exact Nat.le_refl _, by unfold wt; omega⟩
theorem Vl.int {i : Int} (h : i.natAbs < 2 ^ a) : Vl a 0 200 (.int i) := ⟨by unfold okA; exact decide_eq_true h, by unfold dp; exact Nat.le_refl _, by unfold wt; exact Nat.le_refl _⟩
theorem Vl.bl {b : Bool} : Vl a 0 8 (.bl b) := ⟨by unfold okA; rfl, by unfold dp; exact Nat.le_refl _, by unfold wt; exact Nat.le_refl _⟩
theorem Vl.non : Vl a 0 8 .non := ⟨by unfold okA; rfl, by unfold dp; exact Nat.le_refl _, by unfold wt; exact Nat.le_refl _⟩
end
end Pw
/-! what several laws need -/
namespace Pw
open PySem WW Mr
theorem cmp_ie {i j : Int} : cmpD .Eq (.int i) (.int j) = some (decide (i = j)) := by
  unfold cmpD
  dsimp only
  exact eq_int
theorem cmp_in {i j : Int} : cmpD .NotEq (.int i) (.int j) = some (!decide (i = j)) := by
  unfold cmpD
  dsimp only
  rw [eq_int]
  rfl
theorem cmp_gt {i j : Int} : cmpD .Gt (.int i) (.int j) = some (decide (j < i)) := rfl
theorem tyM_list {xs : List D} : tyM "list" (.lst xs) = true := of_eq_true (eq_self true)
theorem tyM_str {x : Str} : tyM "str" (.str x) = true := of_eq_true (eq_self true)
theorem szOk_t {n : Nat} (h : n ≤ 1000000) : szOk n = True := eq_true (szOk_of h)
theorem lst2_t {xs ys : List D} {P : List D → Prop} (h : xs.length + ys.length ≤ 1000000) : lst2 (.lst xs) (.lst ys) P = P (xs ++ ys) := propext ⟨fun z => z.2, fun z => ⟨sz_of h, z⟩⟩
theorem seqN_t2 {a b : D} {P : List D → Prop} : seqN (.tup [a, b]) 2 P = P [a, b] := propext ⟨fun z => z.2, fun z => ⟨rfl, z⟩⟩
theorem ctorL_c {x : D} {xs : List D} {P : D → List D → Prop} : ctorL (x :: xs) P = P x xs := nrfl rfl
theorem ix_nat {xs : List D} {i : Nat} {d : D} (h : xs[i]? = some d) : ixD (.lst xs) (.int i) = some d := L2.atI_nat h
theorem ix_tup {xs : List D} {i : Nat} {d : D} (h : xs[i]? = some d) : ixD (.tup xs) (.int i) = some d := L2.atI_nat h
theorem ix_any {xs : List D} {i : Int} {P : D → Prop} (h0 : 0 ≤ i) (h1 : i < xs.length) (q : ∀ d ∈ xs, P d) : getO (ixD (.lst xs) (.int i)) P := by
  obtain ⟨n, rfl⟩ := Int.eq_ofNat_of_zero_le h0
  have hn : n < xs.length := by omega
  exact getO_of (ix_nat (List.getElem?_eq_getElem hn)) (q _ (List.getElem_mem hn))
theorem ixt_any {xs : List D} {i : Int} {P : D → Prop} (h0 : 0 ≤ i) (h1 : i < xs.length) (q : ∀ d ∈ xs, P d) : getO (ixD (.tup xs) (.int i)) P := by
  obtain ⟨n, rfl⟩ := Int.eq_ofNat_of_zero_le h0
  have hn : n < xs.length := by omega
  exact getO_of (ix_tup (List.getElem?_eq_getElem hn)) (q _ (List.getElem_mem hn))
theorem add_lst {xs ys : List D} (h : xs.length + ys.length ≤ 1000000) : binD .Add (.lst xs) (.lst ys) = some (.lst (xs ++ ys)) := by
  unfold binD
  dsimp only
  rw [if_pos (sz_of h)]
theorem add_tup {xs ys : List D} (h : xs.length + ys.length ≤ 1000000) : binD .Add (.tup xs) (.tup ys) = some (.tup (xs ++ ys)) := by
  unfold binD
  dsimp only
  rw [if_pos (sz_of h)]
theorem add_str {x y : Str} (h : x.length + y.length ≤ 1000000) : binD .Add (.str x) (.str y) = some (.str (x ++ y)) := by
  unfold binD
  dsimp only
  rw [if_pos (sz_of h)]
theorem ne_nil {xs : List D} : cmpD .NotEq (.tup xs) (.tup []) = some (!xs.isEmpty) := by
  unfold cmpD
  dsimp only
  show (eqD0 _ _).map _ = _
  unfold eqD0
  split
  · rw [D.py, D.py, D.pys]
    cases xs with
    | nil => rw [D.pys]; rfl
    | cons x xs => rw [D.pys]; unfold PyData.eqv PyData.eqvAll; rfl
  · rfl
theorem eq_nil {xs : List D} : cmpD .Eq (.lst xs) (.lst []) = some xs.isEmpty := by
  unfold cmpD
  dsimp only
  show eqD0 _ _ = _
  unfold eqD0
  split
  · rw [D.py, D.py, D.pys]
    cases xs with
    | nil => rw [D.pys]; rfl
    | cons x xs => rw [D.pys]; unfold PyData.eqv PyData.eqvAll; rfl
  · rfl
theorem isTy_tup {v : D} {k W a : Nat} (hv : Vl a k W v) : (∃ xs, v = .tup xs) ∨ ∀ xs, v ≠ .tup xs := by
  cases v <;> first | exact .inl ⟨_, rfl⟩ | exact .inr fun xs h => nomatch h
theorem ty_tup {xs : List D} : tyD (.tup xs) = some "tuple" := rfl
theorem s_seqR {K : Ks} {l : Lc} {h : Hh} {a b : MS} (R : Lc → Hh → Prop) (h1 : wpS (a l h) { K with nx := R }) (h2 : ∀ l h, R l h → wpS (b l h) K) : wpS (sSeq a b l h) K := by
  rw [s_seq]
  rw [wpS_def] at *
  revert h1
  cases a l h with
  | nx l' h' => exact fun z => h2 _ _ z
  | rt _ _ => exact fun z => z
  | bk _ _ => exact fun z => z
  | ct _ _ => exact fun z => z
  | exc _ _ _ => exact fun z => z
  | bad => exact fun z => z
theorem isTy_tt : isTy "tuple" "tuple" = true := by decide
theorem not_tup {v : D} (h : ∀ xs, v ≠ .tup xs) (hv : v.lay = true) : ∃ t, tyD v = some t ∧ isTy "tuple" t = false := by
  cases v with
  | tup xs => exact absurd rfl (h xs)
  | non => exact ⟨_, rfl, by decide⟩
  | bl _ => exact ⟨_, rfl, by decide⟩
  | int _ => exact ⟨_, rfl, by decide⟩
  | str _ => exact ⟨_, rfl, by decide⟩
  | lst _ => exact ⟨_, rfl, by decide⟩
  | dic _ => exact ⟨_, rfl, by decide⟩
  | lok _ => unfold D.lay at hv; cases hv
  | ref _ => unfold D.lay at hv; cases hv
  | thk => unfold D.lay at hv; cases hv
  | exo _ _ => unfold D.lay at hv; cases hv
theorem vw_lay {v : D} (hv : v.lay = true) (h : Hh) : vw h v = v := lay_vw hv
theorem nrflE {α : Sort _} {a b : α} (h : a = b) : a = b := h
theorem seqO_t {xs : List D} {P : List D → Prop} : seqO (.tup xs) P = P xs := nrflE rfl
theorem isSeq_t {xs : List D} {P : D → Prop} : isSeq (.tup xs) P = P (.tup xs.reverse) := nrflE rfl
theorem slD_t {xs : List D} {lo hi : Option Int} : slD (.tup xs) lo hi = some (.tup (cutD xs lo hi)) := nrflE rfl
theorem isTy_ss : isTy "str" "str" = true := by decide
theorem eq_exc_of_wp {o : Out D} {e : Exn} {h : Hh} (w : wpO o (fun _ _ => False) (fun e' h' => e' = e ∧ h' = h)) : o = .exc e h := by
  rw [wpO_def] at w
  cases o with
  | ok a h' => exact w.elim
  | exc e' h' => obtain ⟨rfl, rfl⟩ := w; rfl
  | bad => exact w.elim
theorem eq_of_wpA {α : Type} {o : Out α} {v : α} {h : Hh} (w : wpO o (fun a h' => a = v ∧ h' = h) fun _ _ => False) : o = .ok v h := by
  rw [wpO_def] at w
  cases o with
  | ok a h' => obtain ⟨rfl, rfl⟩ := w; rfl
  | exc e' h' => exact w.elim
  | bad => exact w.elim
theorem end_ex {h : Hh} {Q : D → Hh → Prop} {X : XP} {e : Exn} {l : Lc} (H : Hok h) (he : ∀ f y, e.fld = some (f, y) → y.low 0 = true) (q : X e h) : (Ks.fin h Q X).ex e l h := by
  refine ⟨olds_of H _, ?_, by rw [List.take_length]; exact q⟩
  cases e' : e.fld with
  | none => trivial
  | some p => obtain ⟨f, y⟩ := p; exact low_mono (Nat.zero_le _) (he f y e')
theorem lowsOk_of {h : Hh} {ds : List D} (H : Hok h) (hd : D.lows 0 ds = true) : lowsOk ds h = true := by
  unfold lowsOk
  rw [lows_mono (Nat.zero_le _) hd, Bool.true_and, List.all_eq_true]
  intro c hc
  have := H c hc
  cases c with
  | lst xs => exact lows_mono (Nat.zero_le _) this
theorem all_low {h : Hh} (H : Hok h) : h.all (Cell.low h.length) = true := (Bool.and_eq_true_iff.mp (lowsOk_of (ds := []) H lows_nil)).2
theorem lows_vecs : ∀ {rows : List (List Int)}, D.lows 0 (rows.map vec) = true
  | [] => lows_nil
  | x :: xs => by rw [List.map_cons, lows_cons, low_vec, lows_vecs]; rfl
section
variable {c : Fam} {cT : FamT} {n s B : Nat} {h : Hh} {Q : D → Hh → Prop} {X : XP}
theorem rows_w {l : Lc} {e : ME D} {k r : Nat} {w : Int} (Fd : Is c "_law_draw" 2 5 false false m_law_draw) (Fr : Is c "_law_row" 3 6 false false m_law_row) (H : Hok h) (S : St s B h) (hB : B + 2 * k * r ≤ 2 ^ 60) (w0 : 1 ≤ w) (w1 : w ≤ 1000) (hk : k ≤ 1000) (hr : r ≤ 1000) {mi : ME DIt} {tg : MG} {vs : List Nat}
    (hi : mi l h = .ok (.fix (WW.intsFrom 0 1 r)) h)
    (htg : ∀ d hb, ∃ l1, tg d (wipeL l vs) hb = .ok l1 hb ∧ e l1 hb = c (n + 2) "_law_row" [.ref s, .int w, .int k] hb)
    (q : ∀ (rows : List (List Int)) h', rows.length = r → (∀ y ∈ rows, Wd w y ∧ y.length = k) → Ch s (B + 2 * k * r) h h' → Q (.lst (rows.map vec)) h') : wpO (mLcF (mLc mi tg (mRet true) e vs) l h) Q X := by
  have hs := S.lt
  refine w_lcF (WW.intsFrom 0 1 r) (fun i acc hb => Ch s (B + 2 * k * i) h hb ∧ ∃ rows : List (List Int), acc = rows.map vec ∧ rows.length = i ∧ ∀ y ∈ rows, Wd w y ∧ y.length = k) ?_ ?_ ?_
  · rw [hi, wpO_ok]
    refine ⟨by rw [itLen]; exact Nat.le_refl _, sz_of (by rw [intsFrom_length]; omega), rfl, ⟨Ch.refl S, [], rfl, rfl, fun _ h => nomatch h⟩, fun i acc hb _ _ j => by rw [itAt]⟩
  · rintro i d acc hb ed hn ⟨ch, rows, rfl, hl, hrr⟩
    obtain ⟨hi3, rfl⟩ := intsFrom_ix ed
    obtain ⟨l1, e1, e2⟩ := htg (.int (0 + i)) (hb ++ [.lst (rows.map vec)])
    rw [e1, wpO_ok, w_ret, if_pos rfl, e2]
    have hi2 : 2 * k * (i + 1) ≤ 2 * k * r := Nat.mul_le_mul_left _ hi3
    rw [Nat.mul_succ] at hi2
    refine row_w Fd Fr ((ch.ok H).push lows_vecs) (ch.st hs).left (by omega) w0 w1 hk fun ys h' hy1 hy2 chA => ?_
    obtain ⟨h2, rfl, ch2⟩ := chA.left (by rw [ch.len]; exact hs)
    refine ⟨h2, rfl, by rw [ch2.len, hn], (ch.trans ch2).mono (by rw [Nat.mul_succ]; omega), rows ++ [ys], by rw [List.map_append]; rfl, by rw [List.length_append, hl]; rfl, fun r hr' => ?_⟩
    rcases List.mem_append.mp hr' with z | z
    · exact hrr r z
    · rw [List.mem_singleton.mp z]; exact ⟨hy2, hy1⟩
  · rintro acc hb ⟨ch, rows, rfl, hl, hrr⟩ hn
    rw [intsFrom_length] at hl ch
    exact ⟨ch.ok H, lows_vecs, q rows hb hl hrr ch⟩
end
section
variable {c : Fam} {cT : FamT} {n s B : Nat} {h : Hh} {Q : D → Hh → Prop} {X : XP}
theorem isTup_v {v : D} (hv : v.lay = true) (h : Hh) : ∃ t, tyD (vw h v) = some t ∧ isTy "tuple" t = tupB v := by
  rw [lay_vw hv]
  cases v with
  | non => exact ⟨_, rfl, (by decide : isTy "tuple" "NoneType" = false)⟩
  | bl b => exact ⟨_, rfl, (by decide : isTy "tuple" "bool" = false)⟩
  | int b => exact ⟨_, rfl, (by decide : isTy "tuple" "int" = false)⟩
  | str b => exact ⟨_, rfl, (by decide : isTy "tuple" "str" = false)⟩
  | tup b => exact ⟨_, rfl, (by decide : isTy "tuple" "tuple" = true)⟩
  | lst b => exact ⟨_, rfl, (by decide : isTy "tuple" "list" = false)⟩
  | dic b => exact ⟨_, rfl, (by decide : isTy "tuple" "dict" = false)⟩
  | lok _ => unfold D.lay at hv; cases hv
  | ref _ => unfold D.lay at hv; cases hv
  | thk => unfold D.lay at hv; cases hv
  | exo _ _ => unfold D.lay at hv; cases hv
end
theorem filt_all {p : D → Bool} {xs : List D} : ((xs.filter fun d => !p d).map fun d => d).isEmpty = xs.all p := by
  induction xs with
  | nil => rfl
  | cons x xs ih =>
    rw [List.filter_cons, List.all_cons]
    cases e : p x with
    | true => simpa using ih
    | false => simp
theorem su_end {K : Ks} {v : D} {h : Hh} (H : Hok h) (hv : v.low 0 = true) (q : K.rt v h) : K.su.rt v h := ⟨⟨low_mono (Nat.zero_le _) hv, all_low H⟩, q⟩
theorem strs_eq {xs : List Str} (h : ∀ x ∈ xs, PyData.canLay0 (.str x) = true) : cmpD .Eq (.lst (xs.map D.str)) (.lst (xs.map D.str)) = some true := by
  have k1 : ∀ {ys : List Str}, D.dats (ys.map D.str) = true := fun {ys} => by
    induction ys with
    | nil => unfold D.dats; rfl
    | cons y ys ih => rw [List.map_cons, D.dats, ih, D.dat]; rfl
  have k2 : ∀ {ys : List Str}, (∀ x ∈ ys, PyData.canLay0 (.str x) = true) → PyData.canLayAll0 (D.pys (ys.map D.str)) = true ∧ PyData.depthAll (D.pys (ys.map D.str)) ≤ 1 ∧ PyData.eqvAll (D.pys (ys.map D.str)) (D.pys (ys.map D.str)) = true := fun {ys} hy => by
    induction ys with
    | nil => exact ⟨by rw [List.map_nil, D.pys]; rfl, by rw [List.map_nil, D.pys]; exact Nat.zero_le _, by rw [List.map_nil, D.pys]; rfl⟩
    | cons y ys ih =>
      obtain ⟨i1, i2, i3⟩ := ih fun x hx => hy x (List.mem_cons_of_mem _ hx)
      rw [List.map_cons, D.pys, D.py]
      refine ⟨by rw [PyData.canLayAll0, hy y List.mem_cons_self, i1]; rfl, ?_, ?_⟩
      · rw [PyData.depthAll]
        refine Nat.max_le.mpr ⟨?_, i2⟩
        rw [PyData.depth]
        exact Nat.zero_le _
      · rw [PyData.eqvAll, i3, PyData.eqv]
        simp
  obtain ⟨k3, k4, k5⟩ := k2 h
  unfold cmpD
  dsimp only
  show eqD0 _ _ = _
  unfold eqD0
  have sh : SeqAt.shaped (D.lst (xs.map D.str)).py = true := by
    unfold SeqAt.shaped
    rw [D.py, PyData.canLay0, k3, PyData.depth, decide_eq_true (by omega)]
    rfl
  rw [if_pos (by rw [sh, D.dat, k1]; rfl), D.py, PyData.eqv, k5]
theorem vw_top {h : Hh} {xs : List D} : vw (h ++ [.lst xs]) (.ref h.length) = .lst xs := vw_at (by simp)
theorem app_top {h : Hh} {xs : List D} {v : D} (hx : xs.length < 1000) : fApp (.ref h.length) [v] (h ++ [.lst xs]) = some (.non, h ++ [.lst (xs ++ [v])]) := by
  unfold fApp
  dsimp only
  rw [show (h ++ [Cell.lst xs])[h.length]? = some (.lst xs) by simp]
  dsimp only
  rw [if_pos (Nat.lt_of_lt_of_le (show xs.length < 1000000 by omega) (szOk_of (Nat.le_refl _)))]
  rw [List.set_append, if_neg (by omega), Nat.sub_self]
  rfl
theorem lam_w {F : Thk → List D → Hh → Out D} {m : Nat} {mb : ME D} {l : Lc} {h : Hh} {Q : D → Hh → Prop} {X : XP} {d : D} (H : Hok h) (e : F (lamD m l mb) [] h = .ok d h) (hd : d.low 0 = true) (q : Q d h) : wpO (mLam F m (mAll []) mb l h) Q X := by
  rw [w_lam, w_all_nil, e, wpO_ok]
  exact ⟨lowsOk_of H (by rw [lows_cons, hd, lows_nil]; rfl), q⟩
theorem Vs.all {a k C : Nat} {xs : List D} (h : ∀ x ∈ xs, Vl a k C x) : Vs a k (xs.length * C) xs := by
  refine ⟨okAs_mem.mpr fun x hx => (h x hx).ok, dps_mem.mpr fun x hx => (h x hx).dep, ?_⟩
  induction xs with
  | nil => exact Nat.zero_le _
  | cons x xs ih =>
    have := ih fun y hy => h y (List.mem_cons_of_mem _ hy)
    have := (h x List.mem_cons_self).w
    rw [wts, List.length_cons, Nat.succ_mul]
    omega
theorem Vl.short {a k W : Nat} {v : D} (h : Vl a k W v) (hW : W ≤ 1000000) : ∀ xs, v = .tup xs → xs.length ≤ 1000000 ∧ ∀ x ∈ xs, ∀ ys, x = .tup ys → ys.length ≤ 1000000 := by
  rintro xs rfl
  have h1 := (h.tup).1
  refine ⟨by have := h1.len; omega, ?_⟩
  rintro x hx ys rfl
  have := ((h1.mem hx).tup).1.len
  omega
theorem s_forE {l : Lc} {h : Hh} {K : Ks} {mi : ME DIt} {tg : MG} {body : MS} (W : DIt → Hh → Prop) (hi : wpO (mi l h) W fun _ _ => False) (q : ∀ it h1, W it h1 → wpS (sFor (mRet it) tg body l h1) K) : wpS (sFor mi tg body l h) K := by
  have key : ∀ it h1, mi l h = .ok it h1 → sFor mi tg body l h = sFor (mRet it) tg body l h1 := fun it h1 e => by unfold sFor sBind; rw [e]; rfl
  rw [wpO_def] at hi
  revert hi key
  cases mi l h with
  | ok it h1 => exact fun hi key => by rw [key it h1 rfl]; exact q _ _ hi
  | exc x h1 => exact fun hi _ => hi.elim
  | bad => exact fun hi _ => hi.elim
/-- i op= an int -/
theorem s_augI {l : Lc} {h : Hh} {K : Ks} {i : Nat} {op : Operator} {j y d : Int} (hi : l[i]? = some (some (.int j))) (e : augI op j y = some d) (q : K.nx (l.set i (some (.int d))) h) : wpS (sAug i op (mC (.int y)) l h) K := by
  have key : sAug i op (mC (.int y)) l h = .nx (l.set i (some (.int d))) h := by
    unfold sAug
    rw [hi]
    show (match augI op j y with
      | some d => SOut.nx (l.set i (some (.int d))) h
      | none => .bad) = _
    rw [e]
  rw [wpS_def, key]
  exact q
end Pw
/-! levels and inverses: plain arithmetic -/
namespace Pw
open PySem
theorem pow_dvd {a b : Nat} (h : a ≤ b) : ((2 : Int) ^ a) ∣ (2 : Int) ^ b := ⟨2 ^ (b - a), by rw [← Int.pow_add]; congr 1; omega⟩
theorem pow_pos2 (a : Nat) : (0 : Int) < 2 ^ a := Int.pow_pos (by decide)
/-- the level of a word -/
structure Lev (w : Nat) (x : Int) (l : Nat) : Prop where
  le : l ≤ w
  dv : ((2 : Int) ^ l) ∣ x
  top : l = w ∨ ¬ ((2 : Int) ^ (l + 1)) ∣ x
theorem Lev.uniq {w : Nat} {x : Int} {l m : Nat} (a : Lev w x l) (b : Lev w x m) : l = m := by
  have key : ∀ {l m : Nat}, Lev w x l → Lev w x m → ¬ l < m := fun {l m} a b h => by
    rcases a.top with e | e
    · have := b.le; omega
    · exact e (Int.dvd_trans (pow_dvd h) b.dv)
  have h1 := key a b
  have h2 := key b a
  omega
theorem dvd_iff {n x : Int} : x % n = 0 ↔ n ∣ x := ⟨Int.dvd_of_emod_eq_zero, Int.emod_eq_zero_of_dvd⟩
theorem zero_of_dvd {w : Nat} {x : Int} (h0 : 0 ≤ x) (h1 : x < 2 ^ w) (h : ((2 : Int) ^ w) ∣ x) : x = 0 := by
  by_cases e : x = 0
  · exact e
  · have := Int.le_of_dvd (by omega) h
    omega
/-- one bit -/
theorem bit_dvd {x : Int} {l : Nat} (h : ((2 : Int) ^ l) ∣ x) : x / 2 ^ l % 2 = 0 ↔ ((2 : Int) ^ (l + 1)) ∣ x := by
  obtain ⟨k, rfl⟩ := h
  rw [Int.mul_ediv_cancel_left _ (by have := pow_pos2 l; omega), Int.pow_succ]
  constructor
  · intro e
    obtain ⟨j, rfl⟩ := Int.dvd_of_emod_eq_zero e
    exact ⟨j, by rw [Int.mul_assoc]⟩
  · rintro ⟨j, e⟩
    rw [Int.mul_assoc] at e
    have := Int.eq_of_mul_eq_mul_left (by have := pow_pos2 l; omega) e
    rw [this]
    exact Int.mul_emod_right 2 j
/-- a round of the inverse -/
theorem inv_step {w : Nat} {x f : Int} {b : Nat} (h : ((2 : Int) ^ min b w) ∣ x * f - 1) : ((2 : Int) ^ min (b * 2) w) ∣ x * (f * (2 - x * f) % 2 ^ w) - 1 := by
  have e1 : f * (2 - x * f) % 2 ^ w = f * (2 - x * f) - 2 ^ w * (f * (2 - x * f) / 2 ^ w) := Int.emod_def _ _
  obtain ⟨k, hk⟩ := h
  have e2 : x * (f * (2 - x * f) % 2 ^ w) - 1 = - ((2 ^ min b w * k) * (2 ^ min b w * k)) - 2 ^ w * (x * (f * (2 - x * f) / 2 ^ w)) := by
    rw [e1, ← hk]
    generalize f * (2 - x * f) / 2 ^ w = q
    generalize (2 : Int) ^ w = p
    grind
  rw [e2]
  refine Int.dvd_sub ?_ ?_
  · have : ((2 : Int) ^ min (b * 2) w) ∣ 2 ^ (min b w + min b w) := pow_dvd (by omega)
    obtain ⟨j, hj⟩ := this
    refine ⟨- (j * (k * k)), ?_⟩
    have : (2 : Int) ^ min b w * k * (2 ^ min b w * k) = 2 ^ (min b w + min b w) * (k * k) := by rw [Int.pow_add]; grind
    rw [this, hj]
    grind
  · have : ((2 : Int) ^ min (b * 2) w) ∣ 2 ^ w := pow_dvd (by omega)
    exact Int.dvd_trans this (Int.dvd_mul_right _ _)
theorem inv_end {w : Nat} {x f : Int} (hw : 1 ≤ w) (h : ((2 : Int) ^ w) ∣ x * f - 1) : f * x % 2 ^ w = 1 := by
  obtain ⟨k, hk⟩ := h
  have e : f * x = 1 + 2 ^ w * k := by rw [Int.mul_comm]; omega
  rw [e, Int.add_mul_emod_self_left]
  have : (2 : Int) ≤ 2 ^ w := by
    have := Int.le_of_dvd (pow_pos2 w) (pow_dvd hw)
    simpa using this
  exact Int.emod_eq_of_lt (by decide) (by omega)
theorem inv_start {w : Nat} {x : Int} (h : x % 2 ≠ 0) : ((2 : Int) ^ min 1 w) ∣ x * 1 - 1 := by
  have h2 : (2 : Int) ∣ x * 1 - 1 := Int.dvd_of_emod_eq_zero (by omega)
  have : ((2 : Int) ^ min 1 w) ∣ 2 := by
    have := pow_dvd (show min 1 w ≤ 1 by omega)
    simpa using this
  exact Int.dvd_trans this h2
end Pw
/-! the law of words and vectors: drawn values -/
namespace Pw
open PySem WW Mr
/-- the law's defs for drawn values -/
structure LC (c : Fam) (cT : FamT) : Prop where
  W : W0 c
  is_size : Is c "is_size" 1 1 false false m_is_size
  require_width : Is c "require_width" 1 1 false false m_require_width
  require_size : Is c "require_size" 1 1 false false m_require_size
  stream : Is c "_law_stream" 2 5 false true m_law_stream
  draw : Is c "_law_draw" 2 5 false false m_law_draw
  pick : Is c "_law_pick" 2 2 false false m_law_pick
  row : Is c "_law_row" 3 6 false false m_law_row
  other : Is c "_law_other" 1 2 false false m_law_other
  width : Is c "_law_width" 1 1 false false m_law_width
  size : Is c "_law_size" 1 1 false false m_law_size
  lis_word : Is c "_law_is_word" 2 2 false false m_law_is_word
  lis_vector : Is c "_law_is_vector" 3 4 false false m_law_is_vector
  bent : Is c "_law_bent" 2 4 false false m_law_bent_k01
  bad : IsT c cT "_law_bad" 2 4 m_law_bad
  bad_width : IsL c cT "_law_bad_width" 1 1 m_law_bad_width
  bad_size : IsL c cT "_law_bad_size" 1 1 m_law_bad_size
  word : Is c "_law_word" 2 2 false false m_law_word
  refusal : IsT c cT "_law_refusal" 1 3 m_law_refusal
section
variable {c : Fam} {cT : FamT} {n s B : Nat} {h : Hh} {Q : D → Hh → Prop} {X : XP}
theorem pick_w (L : LC c cT) (H : Hok h) (S : St s B h) (hB : B + 1 ≤ 2 ^ 60) {xs : List D} (h0 : 0 < xs.length) (h1 : xs.length ≤ 100000) (low : ∀ d ∈ xs, d.low 0 = true)
    (q : ∀ d ∈ xs, ∀ h', Ch s (B + 1) h h' → Q d h') : wpO (c (n + 2) "_law_pick" [.ref s, .lst xs] h) Q X := by
  refine L.pick.wp rfl ?_
  unfold m_law_pick
  simp only [w_ret, w_bad, w_var, w_c, w_dic0, w_bin, w_cmp, w_ix, w_tru, w_notV, w_andV, w_orV, w_ifE, w_notT, w_andT, w_orT, w_blT, w_chain, w_nil, w_cons, w_tup, w_lst, w_fz, w_new, w_neg, w_noP, w_P, w_sl, w_rev, w_bi, w_isT, w_call, w_list, w_listR, w_cat, w_mth, s_next, s_bad, s_break, s_cont, s_retN, s_seq, s_drop, s_ret, s_if, s_set, s_asg, g_nm, gs_nil, gs_cons, g_tp, g_sq, g_ix, s_par, s_par3, i_iter, i_zip, i_enm, i_range1, i_range2, wpO_ok, getO_some, isBl_bl, isInt_int, List.getElem?_cons_zero, List.getElem?_cons_succ, List.map_cons, List.map_nil, List.length_cons, List.length_nil, List.cons_append, List.nil_append, Nat.zero_add, Nat.reduceAdd, Nat.reduceSub, List.replicate_succ, List.replicate_zero, List.set_cons_zero, List.set_cons_succ, vw_non, vw_bl, vw_int, vw_str, vw_tup, vw_lst, vw_dic, vw_lok, Bool.not_true, Bool.not_false, Bool.false_eq_true, if_true, if_false, reduceIte]
  refine getO_of (show fLen [.lst xs] = some (.int xs.length) from rfl) ?_
  refine draw_w L.draw H S (by omega) (by omega) (by have := pow_lt (a := 30) (by decide); omega) fun x h1 x0 x1 ch => ?_
  refine ix_any x0 x1 fun d hd => ?_
  exact end_ch H ch (low d hd) (q d hd h1 ch)
/-- what other values are -/
structure Ot (d : D) : Prop where
  v : Vl 131 2 1400 d
  t : PyData.canLay0 (.str ("number " ++ d.py.shown)) = true
theorem all_other {P : D → Prop} (h : ∀ d : D, Ot d → P d) : ∀ d ∈ [D.non, .bl true, .bl false, .int (-1), .int 0, .int 1, .int 2, .int 15, .int 16, .int 17, .int 40, .int 41, .int (10 ^ 39), .int (0 - 10 ^ 39), .str "", .str "a", .str "1", .tup [], .lst [], .dic [], .tup [.int 0]] ++
    [.tup [.bl true], .tup [.tup []], .lst [.int 1], .tup [.int 1, .int 0], .tup [.non], .dic [(.inl 0, .int 1)], .tup [.str "1"], .tup [.tup [.int 1, .int 0]], .lst [.tup [.int 1]], .tup [.int 0, .int (-1)], .tup [.int 65536]], P d := by
  have key : ∀ d ∈ [D.non, .bl true, .bl false, .int (-1), .int 0, .int 1, .int 2, .int 15, .int 16, .int 17, .int 40, .int 41, .int (10 ^ 39), .int (0 - 10 ^ 39), .str "", .str "a", .str "1", .tup [], .lst [], .dic [], .tup [.int 0]] ++
    [.tup [.bl true], .tup [.tup []], .lst [.int 1], .tup [.int 1, .int 0], .tup [.non], .dic [(.inl 0, .int 1)], .tup [.str "1"], .tup [.tup [.int 1, .int 0]], .lst [.tup [.int 1]], .tup [.int 0, .int (-1)], .tup [.int 65536]], (okA 131 d && decide (dp d ≤ 2) && decide (wt d ≤ 1400) && PyData.canLay0 (.str ("number " ++ d.py.shown))) = true := by
    decide +kernel
  intro d hd
  have := key d hd
  simp only [Bool.and_eq_true, decide_eq_true_eq] at this
  exact h d ⟨⟨this.1.1.1, this.1.1.2, this.1.2⟩, this.2⟩
theorem other_w (L : LC c cT) (H : Hok h) (S : St s B h) (hB : B + 1 ≤ 2 ^ 60) (q : ∀ v h', Ot v → Ch s (B + 1) h h' → Q v h') : wpO (c (n + 3) "_law_other" [.ref s] h) Q X := by
  refine L.other.wp rfl ?_
  unfold m_law_other
  have e39 : binD .Pow (.int 10) (.int 39) = some (.int (10 ^ 39)) := bin_pow (by decide) (by decide +kernel)
  simp only [w_ret, w_bad, w_var, w_c, w_dic0, w_bin, w_cmp, w_ix, w_tru, w_notV, w_andV, w_orV, w_ifE, w_notT, w_andT, w_orT, w_blT, w_chain, w_nil, w_cons, w_tup, w_lst, w_fz, w_new, w_neg, w_noP, w_P, w_sl, w_rev, w_bi, w_isT, w_call, w_list, w_listR, w_cat, w_mth, s_next, s_bad, s_break, s_cont, s_retN, s_seq, s_drop, s_ret, s_if, s_set, s_asg, g_nm, gs_nil, gs_cons, g_tp, g_sq, g_ix, s_par, s_par3, i_iter, i_zip, i_enm, i_range1, i_range2, wpO_ok, getO_some, isBl_bl, isInt_int, List.getElem?_cons_zero, List.getElem?_cons_succ, List.map_cons, List.map_nil, List.length_cons, List.length_nil, List.cons_append, List.nil_append, Nat.zero_add, Nat.reduceAdd, Nat.reduceSub, List.replicate_succ, List.replicate_zero, List.set_cons_zero, List.set_cons_succ, vw_non, vw_bl, vw_int, vw_str, vw_tup, vw_lst, vw_dic, vw_lok, Bool.not_true, Bool.not_false, Bool.false_eq_true, if_true, if_false, reduceIte, szOk_t, Nat.reduceLeDiff, true_and, e39, bin_sub]
  refine getO_of (add_lst (by simp)) ?_
  have low : ∀ d ∈ [D.non, .bl true, .bl false, .int (-1), .int 0, .int 1, .int 2, .int 15, .int 16, .int 17, .int 40, .int 41, .int (10 ^ 39), .int (0 - 10 ^ 39), .str "", .str "a", .str "1", .tup [], .lst [], .dic [], .tup [.int 0]] ++
    [.tup [.bl true], .tup [.tup []], .lst [.int 1], .tup [.int 1, .int 0], .tup [.non], .dic [(.inl 0, .int 1)], .tup [.str "1"], .tup [.tup [.int 1, .int 0]], .lst [.tup [.int 1]], .tup [.int 0, .int (-1)], .tup [.int 65536]], d.low 0 = true := all_other fun d hd => hd.v.low (by decide) (by decide)
  refine pick_w L H S hB (by simp) (by simp) low fun d hd h' ch => ?_
  exact all_other (P := fun d => d.low 0 = true → (Ks.fin h Q X).rt d h') (fun d hv hl => end_ch H ch hl (q d h' hv ch)) d hd (low d hd)
theorem width_w (L : LC c cT) (H : Hok h) (S : St s B h) (hB : B + 2 ≤ 2 ^ 60)
    (q : ∀ (y : Int) h', 1 ≤ y → y ≤ 16 → Ch s (B + 2) h h' → Q (.int y) h') : wpO (c (n + 2) "_law_width" [.ref s] h) Q X := by
  refine L.width.wp rfl ?_
  unfold m_law_width
  simp only [w_ret, w_bad, w_var, w_c, w_dic0, w_bin, w_cmp, w_ix, w_tru, w_notV, w_andV, w_orV, w_ifE, w_notT, w_andT, w_orT, w_blT, w_chain, w_nil, w_cons, w_tup, w_lst, w_fz, w_new, w_neg, w_noP, w_P, w_sl, w_rev, w_bi, w_isT, w_call, w_list, w_listR, w_cat, w_mth, s_next, s_bad, s_break, s_cont, s_retN, s_seq, s_drop, s_ret, s_if, s_set, s_asg, g_nm, gs_nil, gs_cons, g_tp, g_sq, g_ix, s_par, s_par3, i_iter, i_zip, i_enm, i_range1, i_range2, wpO_ok, getO_some, isBl_bl, isInt_int, List.getElem?_cons_zero, List.getElem?_cons_succ, List.map_cons, List.map_nil, List.length_cons, List.length_nil, List.cons_append, List.nil_append, Nat.zero_add, Nat.reduceAdd, Nat.reduceSub, List.replicate_succ, List.replicate_zero, List.set_cons_zero, List.set_cons_succ, vw_non, vw_bl, vw_int, vw_str, vw_tup, vw_lst, vw_dic, vw_lok, Bool.not_true, Bool.not_false, Bool.false_eq_true, if_true, if_false, reduceIte]
  have hs := S.lt
  refine draw_w L.draw H S (by omega) (by decide) (by exact pow_lt (a := 4) (by decide)) fun x h1 x0 x1 ch1 => ?_
  refine getO_of bin_add ?_
  refine ⟨szOk_of (by decide), ?_⟩
  refine draw_w L.draw (ch1.ok H) (ch1.st hs) (by omega) (by decide) (by exact pow_lt8) fun y h2 y0 y1 ch2 => ?_
  have ch := ch1.trans ch2
  have fin : ∀ z : Int, 1 ≤ z → z ≤ 16 → (Ks.fin h Q X).rt (.int z) h2 := fun z z0 z1 => end_ch H ch low_int (q _ _ z0 z1 ch)
  have hy8 : y = 0 ∨ y = 1 ∨ y = 2 ∨ y = 3 ∨ y = 4 ∨ y = 5 ∨ y = 6 ∨ y = 7 := by omega
  rcases hy8 with rfl | rfl | rfl | rfl | rfl | rfl | rfl | rfl <;> exact getO_of rfl (fin _ (by omega) (by omega))
theorem size_w (L : LC c cT) (H : Hok h) (S : St s B h) (hB : B + 2 ≤ 2 ^ 60)
    (q : ∀ (k : Nat) h', 1 ≤ k → k ≤ 40 → Ch s (B + 2) h h' → Q (.int k) h') : wpO (c (n + 2) "_law_size" [.ref s] h) Q X := by
  refine L.size.wp rfl ?_
  unfold m_law_size
  simp only [w_ret, w_bad, w_var, w_c, w_dic0, w_bin, w_cmp, w_ix, w_tru, w_notV, w_andV, w_orV, w_ifE, w_notT, w_andT, w_orT, w_blT, w_chain, w_nil, w_cons, w_tup, w_lst, w_fz, w_new, w_neg, w_noP, w_P, w_sl, w_rev, w_bi, w_isT, w_call, w_list, w_listR, w_cat, w_mth, s_next, s_bad, s_break, s_cont, s_retN, s_seq, s_drop, s_ret, s_if, s_set, s_asg, g_nm, gs_nil, gs_cons, g_tp, g_sq, g_ix, s_par, s_par3, i_iter, i_zip, i_enm, i_range1, i_range2, wpO_ok, getO_some, isBl_bl, isInt_int, List.getElem?_cons_zero, List.getElem?_cons_succ, List.map_cons, List.map_nil, List.length_cons, List.length_nil, List.cons_append, List.nil_append, Nat.zero_add, Nat.reduceAdd, Nat.reduceSub, List.replicate_succ, List.replicate_zero, List.set_cons_zero, List.set_cons_succ, vw_non, vw_bl, vw_int, vw_str, vw_tup, vw_lst, vw_dic, vw_lok, Bool.not_true, Bool.not_false, Bool.false_eq_true, if_true, if_false, reduceIte]
  have hs := S.lt
  refine draw_w L.draw H S (by omega) (by decide) (by have h := pow_lt (a := 6) (by decide); omega) fun x h1 x0 x1 ch1 => ?_
  refine getO_of bin_add ?_
  refine ⟨szOk_of (by decide), ?_⟩
  refine draw_w L.draw (ch1.ok H) (ch1.st hs) (by omega) (by decide) (by have h := pow_lt8; omega) fun y h2 y0 y1 ch2 => ?_
  have ch := ch1.trans ch2
  have fin : ∀ z : Int, 1 ≤ z → z ≤ 40 → (Ks.fin h Q X).rt (.int z) h2 := fun z z0 z1 => by
    have e : z = (z.toNat : Int) := by omega
    rw [e]
    exact end_ch H ch low_int (q _ _ (by omega) (by omega) ch)
  have hy8 : y = 0 ∨ y = 1 ∨ y = 2 ∨ y = 3 ∨ y = 4 ∨ y = 5 := by omega
  rcases hy8 with rfl | rfl | rfl | rfl | rfl | rfl <;> exact getO_of rfl (fin _ (by omega) (by omega))
theorem word_w (L : LC c cT) (H : Hok h) (S : St s B h) {w : Int} (hB : B + 2 ≤ 2 ^ 60) (w0 : 1 ≤ w) (w1 : w ≤ 1000)
    (q : ∀ (y : Int) h', 0 ≤ y → y < (2 : Int) ^ w.toNat → Ch s (B + 2) h h' → Q (.int y) h') : wpO (c (n + 3) "_law_word" [.ref s, .int w] h) Q X := by
  refine L.word.wp rfl ?_
  unfold m_law_word
  simp only [w_ret, w_bad, w_var, w_c, w_dic0, w_bin, w_cmp, w_ix, w_tru, w_notV, w_andV, w_orV, w_ifE, w_notT, w_andT, w_orT, w_blT, w_chain, w_nil, w_cons, w_tup, w_lst, w_fz, w_new, w_neg, w_noP, w_P, w_sl, w_rev, w_bi, w_isT, w_call, w_list, w_listR, w_cat, w_mth, s_next, s_bad, s_break, s_cont, s_retN, s_seq, s_drop, s_ret, s_if, s_set, s_asg, g_nm, gs_nil, gs_cons, g_tp, g_sq, g_ix, s_par, s_par3, i_iter, i_zip, i_enm, i_range1, i_range2, wpO_ok, getO_some, isBl_bl, isInt_int, List.getElem?_cons_zero, List.getElem?_cons_succ, List.map_cons, List.map_nil, List.length_cons, List.length_nil, List.cons_append, List.nil_append, Nat.zero_add, Nat.reduceAdd, Nat.reduceSub, List.replicate_succ, List.replicate_zero, List.set_cons_zero, List.set_cons_succ, vw_non, vw_bl, vw_int, vw_str, vw_tup, vw_lst, vw_dic, vw_lok, Bool.not_true, Bool.not_false, Bool.false_eq_true, if_true, if_false, reduceIte]
  refine row_w (k := 1) L.draw L.row H S hB w0 w1 (by decide) fun ys h' hl hy ch => ?_
  match ys, hl with
  | [y], _ =>
    have := hy y List.mem_cons_self
    refine getO_of (show ixD (vw h' (vec [y])) (vw h' (.int 0)) = some (.int y) from rfl) ?_
    exact end_ch H ch low_int (q _ _ this.1 this.2 ch)
/-! the judgements -/
theorem lis_word_v (L : LC c cT) {w : Int} {v : D} (w0 : 0 ≤ w) (w1 : w ≤ 1000) (hv : v.lay = true) (H : Hok h) : c (n + 1) "_law_is_word" [.int w, v] h = .ok (.bl (wordB w v)) h := by
  refine eq_of_wp (L.lis_word.wp rfl ?_)
  unfold m_law_is_word
  simp only [w_ret, w_bad, w_var, w_c, w_dic0, w_bin, w_cmp, w_ix, w_tru, w_notV, w_andV, w_orV, w_ifE, w_notT, w_andT, w_orT, w_blT, w_chain, w_nil, w_cons, w_tup, w_lst, w_fz, w_new, w_neg, w_noP, w_P, w_sl, w_rev, w_bi, w_isT, w_call, w_list, w_listR, w_cat, w_mth, s_next, s_bad, s_break, s_cont, s_retN, s_seq, s_drop, s_ret, s_if, s_set, s_asg, g_nm, gs_nil, gs_cons, g_tp, g_sq, g_ix, s_par, s_par3, i_iter, i_zip, i_enm, i_range1, i_range2, wpO_ok, getO_some, isBl_bl, isInt_int, List.getElem?_cons_zero, List.getElem?_cons_succ, List.map_cons, List.map_nil, List.length_cons, List.length_nil, List.cons_append, List.nil_append, Nat.zero_add, Nat.reduceAdd, Nat.reduceSub, List.replicate_succ, List.replicate_zero, List.set_cons_zero, List.set_cons_succ, vw_non, vw_bl, vw_int, vw_str, vw_tup, vw_lst, vw_dic, vw_lok, Bool.not_true, Bool.not_false, Bool.false_eq_true, if_true, if_false, reduceIte, lay_vw hv]
  cases v with
  | int i =>
    refine getO_of rfl (getO_of rfl ?_)
    rw [if_pos (by decide)]
    refine getO_of rfl (getO_of rfl (getO_of rfl ?_))
    rw [if_pos (by decide)]
    refine getO_of (show cmpD .LtE (.int 0) (.int i) = some (decide (0 ≤ i)) from rfl) ?_
    by_cases h0 : 0 ≤ i
    · rw [if_pos (decide_eq_true h0)]
      refine getO_of (bin_shl1 w0 w1) ?_
      refine getO_of (show cmpD .Lt (vw h (.int i)) (vw h (.int (2 ^ w.toNat))) = some (decide (i < 2 ^ w.toNat)) from rfl) ?_
      refine end_eq H low_bl ?_
      show D.bl _ = D.bl (decide (0 ≤ i ∧ i ≤ 2 ^ w.toNat - 1))
      exact congrArg D.bl (decide_eq_decide.mpr ⟨fun z => ⟨h0, by omega⟩, fun z => by omega⟩)
    · rw [if_neg (by simpa using h0)]
      refine end_eq H low_bl ?_
      show D.bl false = D.bl (decide (0 ≤ i ∧ i ≤ 2 ^ w.toNat - 1))
      rw [decide_eq_false fun z => h0 z.1]
  | bl b =>
    refine getO_of rfl (getO_of rfl ?_)
    rw [if_pos (by decide)]
    refine getO_of rfl (getO_of rfl (getO_of rfl ?_))
    rw [if_neg (by decide)]
    exact end_eq H low_bl rfl
  | lok _ => unfold D.lay at hv; cases hv
  | ref _ => unfold D.lay at hv; cases hv
  | thk => unfold D.lay at hv; cases hv
  | exo _ _ => unfold D.lay at hv; cases hv
  | _ =>
    refine getO_of rfl (getO_of rfl ?_)
    rw [if_neg (by decide)]
    exact end_eq H low_bl rfl
theorem filt_one {p : D → Bool} {xs : List D} : ((xs.filter fun d => !p d).map fun _ => D.int 1).isEmpty = xs.all p := by
  induction xs with
  | nil => rfl
  | cons x xs ih =>
    rw [List.filter_cons, List.all_cons]
    cases e : p x with
    | true => simpa using ih
    | false => simp
theorem lis_vector_v (L : LC c cT) {w k : Int} {v : D} (w0 : 0 ≤ w) (w1 : w ≤ 1000) (hv : v.lay = true) (hz : ∀ ys, v = .tup ys → ys.length ≤ 1000000) (H : Hok h) : c (n + 2) "_law_is_vector" [.int w, .int k, v] h = .ok (.bl (vecB w (.int k) v)) h := by
  refine eq_of_wp (L.lis_vector.wp rfl ?_)
  unfold m_law_is_vector
  obtain ⟨t, t1, t2⟩ := isTup_v hv h
  simp only [w_ret, w_bad, w_var, w_c, w_dic0, w_bin, w_cmp, w_ix, w_tru, w_notV, w_andV, w_orV, w_ifE, w_notT, w_andT, w_orT, w_blT, w_chain, w_nil, w_cons, w_tup, w_lst, w_fz, w_new, w_neg, w_noP, w_P, w_sl, w_rev, w_bi, w_isT, w_call, w_list, w_listR, w_cat, w_mth, s_next, s_bad, s_break, s_cont, s_retN, s_seq, s_drop, s_ret, s_if, s_set, s_asg, g_nm, gs_nil, gs_cons, g_tp, g_sq, g_ix, s_par, s_par3, i_iter, i_zip, i_enm, i_range1, i_range2, wpO_ok, getO_some, isBl_bl, isInt_int, List.getElem?_cons_zero, List.getElem?_cons_succ, List.map_cons, List.map_nil, List.length_cons, List.length_nil, List.cons_append, List.nil_append, Nat.zero_add, Nat.reduceAdd, Nat.reduceSub, List.replicate_succ, List.replicate_zero, List.set_cons_zero, List.set_cons_succ, vw_non, vw_bl, vw_int, vw_str, vw_tup, vw_lst, vw_dic, vw_lok, Bool.not_true, Bool.not_false, Bool.false_eq_true, if_true, if_false, reduceIte, t1, t2, truD]
  cases v with
  | tup xs =>
    have hl : D.lays xs = true := by unfold D.lay at hv; exact hv
    simp only [tupB, fLen, w_ret, w_bad, w_var, w_c, w_dic0, w_bin, w_cmp, w_ix, w_tru, w_notV, w_andV, w_orV, w_ifE, w_notT, w_andT, w_orT, w_blT, w_chain, w_nil, w_cons, w_tup, w_lst, w_fz, w_new, w_neg, w_noP, w_P, w_sl, w_rev, w_bi, w_isT, w_call, w_list, w_listR, w_cat, w_mth, s_next, s_bad, s_break, s_cont, s_retN, s_seq, s_drop, s_ret, s_if, s_set, s_asg, g_nm, gs_nil, gs_cons, g_tp, g_sq, g_ix, s_par, s_par3, i_iter, i_zip, i_enm, i_range1, i_range2, wpO_ok, getO_some, isBl_bl, isInt_int, List.getElem?_cons_zero, List.getElem?_cons_succ, List.map_cons, List.map_nil, List.length_cons, List.length_nil, List.cons_append, List.nil_append, Nat.zero_add, Nat.reduceAdd, Nat.reduceSub, List.replicate_succ, List.replicate_zero, List.set_cons_zero, List.set_cons_succ, vw_non, vw_bl, vw_int, vw_str, vw_tup, vw_lst, vw_dic, vw_lok, Bool.not_true, Bool.not_false, Bool.false_eq_true, if_true, if_false, reduceIte, cmp_in]
    by_cases e : (xs.length : Int) = k
    · rw [decide_eq_true e]
      simp only [w_ret, w_bad, w_var, w_c, w_dic0, w_bin, w_cmp, w_ix, w_tru, w_notV, w_andV, w_orV, w_ifE, w_notT, w_andT, w_orT, w_blT, w_chain, w_nil, w_cons, w_tup, w_lst, w_fz, w_new, w_neg, w_noP, w_P, w_sl, w_rev, w_bi, w_isT, w_call, w_list, w_listR, w_cat, w_mth, s_next, s_bad, s_break, s_cont, s_retN, s_seq, s_drop, s_ret, s_if, s_set, s_asg, g_nm, gs_nil, gs_cons, g_tp, g_sq, g_ix, s_par, s_par3, i_iter, i_zip, i_enm, i_range1, i_range2, wpO_ok, getO_some, isBl_bl, isInt_int, List.getElem?_cons_zero, List.getElem?_cons_succ, List.map_cons, List.map_nil, List.length_cons, List.length_nil, List.cons_append, List.nil_append, Nat.zero_add, Nat.reduceAdd, Nat.reduceSub, List.replicate_succ, List.replicate_zero, List.set_cons_zero, List.set_cons_succ, vw_non, vw_bl, vw_int, vw_str, vw_tup, vw_lst, vw_dic, vw_lok, Bool.not_true, Bool.not_false, Bool.false_eq_true, if_true, if_false, reduceIte]
      refine w_lcP H xs (fun _ => .int 1) (fun d => !wordB w d) ?_ (fun d hb hd Hb => ?_) (fun d hd _ => low_int) ?_
      · simp only [w_ret, w_bad, w_var, w_c, w_dic0, w_bin, w_cmp, w_ix, w_tru, w_notV, w_andV, w_orV, w_ifE, w_notT, w_andT, w_orT, w_blT, w_chain, w_nil, w_cons, w_tup, w_lst, w_fz, w_new, w_neg, w_noP, w_P, w_sl, w_rev, w_bi, w_isT, w_call, w_list, w_listR, w_cat, w_mth, s_next, s_bad, s_break, s_cont, s_retN, s_seq, s_drop, s_ret, s_if, s_set, s_asg, g_nm, gs_nil, gs_cons, g_tp, g_sq, g_ix, s_par, s_par3, i_iter, i_zip, i_enm, i_range1, i_range2, wpO_ok, getO_some, isBl_bl, isInt_int, List.getElem?_cons_zero, List.getElem?_cons_succ, List.map_cons, List.map_nil, List.length_cons, List.length_nil, List.cons_append, List.nil_append, Nat.zero_add, Nat.reduceAdd, Nat.reduceSub, List.replicate_succ, List.replicate_zero, List.set_cons_zero, List.set_cons_succ, vw_non, vw_bl, vw_int, vw_str, vw_tup, vw_lst, vw_dic, vw_lok, Bool.not_true, Bool.not_false, Bool.false_eq_true, if_true, if_false, reduceIte, iterO]
        exact ⟨trivial, sz_of (hz xs rfl), sqh_fix⟩
      · simp only [w_ret, w_bad, w_var, w_c, w_dic0, w_bin, w_cmp, w_ix, w_tru, w_notV, w_andV, w_orV, w_ifE, w_notT, w_andT, w_orT, w_blT, w_chain, w_nil, w_cons, w_tup, w_lst, w_fz, w_new, w_neg, w_noP, w_P, w_sl, w_rev, w_bi, w_isT, w_call, w_list, w_listR, w_cat, w_mth, s_next, s_bad, s_break, s_cont, s_retN, s_seq, s_drop, s_ret, s_if, s_set, s_asg, g_nm, gs_nil, gs_cons, g_tp, g_sq, g_ix, s_par, s_par3, i_iter, i_zip, i_enm, i_range1, i_range2, wpO_ok, getO_some, isBl_bl, isInt_int, List.getElem?_cons_zero, List.getElem?_cons_succ, List.map_cons, List.map_nil, List.length_cons, List.length_nil, List.cons_append, List.nil_append, Nat.zero_add, Nat.reduceAdd, Nat.reduceSub, List.replicate_succ, List.replicate_zero, List.set_cons_zero, List.set_cons_succ, vw_non, vw_bl, vw_int, vw_str, vw_tup, vw_lst, vw_dic, vw_lok, Bool.not_true, Bool.not_false, Bool.false_eq_true, if_true, if_false, reduceIte, wipeL, lis_word_v L w0 w1 (lays_mem hl hd) Hb, truD]
        exact ⟨trivial, trivial, trivial, fun _ => ⟨trivial, trivial⟩⟩
      · simp only [szOk_t, Nat.reduceLeDiff, true_and, w_ret, w_bad, w_var, w_c, w_dic0, w_bin, w_cmp, w_ix, w_tru, w_notV, w_andV, w_orV, w_ifE, w_notT, w_andT, w_orT, w_blT, w_chain, w_nil, w_cons, w_tup, w_lst, w_fz, w_new, w_neg, w_noP, w_P, w_sl, w_rev, w_bi, w_isT, w_call, w_list, w_listR, w_cat, w_mth, s_next, s_bad, s_break, s_cont, s_retN, s_seq, s_drop, s_ret, s_if, s_set, s_asg, g_nm, gs_nil, gs_cons, g_tp, g_sq, g_ix, s_par, s_par3, i_iter, i_zip, i_enm, i_range1, i_range2, wpO_ok, getO_some, isBl_bl, isInt_int, List.getElem?_cons_zero, List.getElem?_cons_succ, List.map_cons, List.map_nil, List.length_cons, List.length_nil, List.cons_append, List.nil_append, Nat.zero_add, Nat.reduceAdd, Nat.reduceSub, List.replicate_succ, List.replicate_zero, List.set_cons_zero, List.set_cons_succ, vw_non, vw_bl, vw_int, vw_str, vw_tup, vw_lst, vw_dic, vw_lok, Bool.not_true, Bool.not_false, Bool.false_eq_true, if_true, if_false, reduceIte]
        refine getO_of eq_nil ?_
        refine end_eq H low_bl ?_
        show D.bl _ = D.bl (xs.all (wordB w) && decide ((xs.length : Int) = k))
        rw [decide_eq_true e, Bool.and_true]
        exact congrArg D.bl filt_one
    · rw [decide_eq_false e]
      simp only [w_ret, w_bad, w_var, w_c, w_dic0, w_bin, w_cmp, w_ix, w_tru, w_notV, w_andV, w_orV, w_ifE, w_notT, w_andT, w_orT, w_blT, w_chain, w_nil, w_cons, w_tup, w_lst, w_fz, w_new, w_neg, w_noP, w_P, w_sl, w_rev, w_bi, w_isT, w_call, w_list, w_listR, w_cat, w_mth, s_next, s_bad, s_break, s_cont, s_retN, s_seq, s_drop, s_ret, s_if, s_set, s_asg, g_nm, gs_nil, gs_cons, g_tp, g_sq, g_ix, s_par, s_par3, i_iter, i_zip, i_enm, i_range1, i_range2, wpO_ok, getO_some, isBl_bl, isInt_int, List.getElem?_cons_zero, List.getElem?_cons_succ, List.map_cons, List.map_nil, List.length_cons, List.length_nil, List.cons_append, List.nil_append, Nat.zero_add, Nat.reduceAdd, Nat.reduceSub, List.replicate_succ, List.replicate_zero, List.set_cons_zero, List.set_cons_succ, vw_non, vw_bl, vw_int, vw_str, vw_tup, vw_lst, vw_dic, vw_lok, Bool.not_true, Bool.not_false, Bool.false_eq_true, if_true, if_false, reduceIte]
      refine end_eq H low_bl ?_
      show D.bl _ = D.bl (xs.all (wordB w) && decide ((xs.length : Int) = k))
      rw [decide_eq_false e, Bool.and_false]
  | _ => first | (simp only [tupB, w_ret, w_bad, w_var, w_c, w_dic0, w_bin, w_cmp, w_ix, w_tru, w_notV, w_andV, w_orV, w_ifE, w_notT, w_andT, w_orT, w_blT, w_chain, w_nil, w_cons, w_tup, w_lst, w_fz, w_new, w_neg, w_noP, w_P, w_sl, w_rev, w_bi, w_isT, w_call, w_list, w_listR, w_cat, w_mth, s_next, s_bad, s_break, s_cont, s_retN, s_seq, s_drop, s_ret, s_if, s_set, s_asg, g_nm, gs_nil, gs_cons, g_tp, g_sq, g_ix, s_par, s_par3, i_iter, i_zip, i_enm, i_range1, i_range2, wpO_ok, getO_some, isBl_bl, isInt_int, List.getElem?_cons_zero, List.getElem?_cons_succ, List.map_cons, List.map_nil, List.length_cons, List.length_nil, List.cons_append, List.nil_append, Nat.zero_add, Nat.reduceAdd, Nat.reduceSub, List.replicate_succ, List.replicate_zero, List.set_cons_zero, List.set_cons_succ, vw_non, vw_bl, vw_int, vw_str, vw_tup, vw_lst, vw_dic, vw_lok, Bool.not_true, Bool.not_false, Bool.false_eq_true, if_true, if_false, reduceIte]; exact end_eq H low_bl rfl) | (unfold D.lay at hv; cases hv)
theorem require_width_x (L : LC c cT) {v : D} (hv : v.lay = true) (hb : btw v 1 16 = false) (H : Hok h) : c (n + 4) "require_width" [v] h = .exc ⟨"InvalidWidth", none⟩ h := by
  refine eq_exc_of_wp (L.require_width.wp rfl ?_)
  unfold m_require_width
  simp only [w_ret, w_bad, w_var, w_c, w_dic0, w_bin, w_cmp, w_ix, w_tru, w_notV, w_andV, w_orV, w_ifE, w_notT, w_andT, w_orT, w_blT, w_chain, w_nil, w_cons, w_tup, w_lst, w_fz, w_new, w_neg, w_noP, w_P, w_sl, w_rev, w_bi, w_isT, w_call, w_list, w_listR, w_cat, w_mth, s_next, s_bad, s_break, s_cont, s_retN, s_seq, s_drop, s_ret, s_if, s_set, s_asg, g_nm, gs_nil, gs_cons, g_tp, g_sq, g_ix, s_par, s_par3, i_iter, i_zip, i_enm, i_range1, i_range2, wpO_ok, getO_some, isBl_bl, isInt_int, List.getElem?_cons_zero, List.getElem?_cons_succ, List.map_cons, List.map_nil, List.length_cons, List.length_nil, List.cons_append, List.nil_append, Nat.zero_add, Nat.reduceAdd, Nat.reduceSub, List.replicate_succ, List.replicate_zero, List.set_cons_zero, List.set_cons_succ, vw_non, vw_bl, vw_int, vw_str, vw_tup, vw_lst, vw_dic, vw_lok, Bool.not_true, Bool.not_false, Bool.false_eq_true, if_true, if_false, reduceIte, L.W.width hv H, hb, truD, s_raise]
  exact end_ex H (fun f y e => nomatch e) ⟨rfl, rfl⟩
theorem require_size_x (L : LC c cT) {v : D} (hv : v.lay = true) (hb : btw v 1 40 = false) (H : Hok h) : c (n + 4) "require_size" [v] h = .exc ⟨"InvalidNumber", some ("value", v)⟩ h := by
  have e1 : c (n + 3) "is_size" [v] h = .ok (.bl (btw v 1 40)) h := by
    refine eq_of_wp (L.is_size.wp rfl ?_)
    unfold m_is_size
    simp only [w_ret, w_bad, w_var, w_c, w_dic0, w_bin, w_cmp, w_ix, w_tru, w_notV, w_andV, w_orV, w_ifE, w_notT, w_andT, w_orT, w_blT, w_chain, w_nil, w_cons, w_tup, w_lst, w_fz, w_new, w_neg, w_noP, w_P, w_sl, w_rev, w_bi, w_isT, w_call, w_list, w_listR, w_cat, w_mth, s_next, s_bad, s_break, s_cont, s_retN, s_seq, s_drop, s_ret, s_if, s_set, s_asg, g_nm, gs_nil, gs_cons, g_tp, g_sq, g_ix, s_par, s_par3, i_iter, i_zip, i_enm, i_range1, i_range2, wpO_ok, getO_some, isBl_bl, isInt_int, List.getElem?_cons_zero, List.getElem?_cons_succ, List.map_cons, List.map_nil, List.length_cons, List.length_nil, List.cons_append, List.nil_append, Nat.zero_add, Nat.reduceAdd, Nat.reduceSub, List.replicate_succ, List.replicate_zero, List.set_cons_zero, List.set_cons_succ, vw_non, vw_bl, vw_int, vw_str, vw_tup, vw_lst, vw_dic, vw_lok, Bool.not_true, Bool.not_false, Bool.false_eq_true, if_true, if_false, reduceIte, L.W.between hv H]
    exact end_eq H low_bl rfl
  refine eq_exc_of_wp (L.require_size.wp rfl ?_)
  unfold m_require_size
  simp only [w_ret, w_bad, w_var, w_c, w_dic0, w_bin, w_cmp, w_ix, w_tru, w_notV, w_andV, w_orV, w_ifE, w_notT, w_andT, w_orT, w_blT, w_chain, w_nil, w_cons, w_tup, w_lst, w_fz, w_new, w_neg, w_noP, w_P, w_sl, w_rev, w_bi, w_isT, w_call, w_list, w_listR, w_cat, w_mth, s_next, s_bad, s_break, s_cont, s_retN, s_seq, s_drop, s_ret, s_if, s_set, s_asg, g_nm, gs_nil, gs_cons, g_tp, g_sq, g_ix, s_par, s_par3, i_iter, i_zip, i_enm, i_range1, i_range2, wpO_ok, getO_some, isBl_bl, isInt_int, List.getElem?_cons_zero, List.getElem?_cons_succ, List.map_cons, List.map_nil, List.length_cons, List.length_nil, List.cons_append, List.nil_append, Nat.zero_add, Nat.reduceAdd, Nat.reduceSub, List.replicate_succ, List.replicate_zero, List.set_cons_zero, List.set_cons_succ, vw_non, vw_bl, vw_int, vw_str, vw_tup, vw_lst, vw_dic, vw_lok, Bool.not_true, Bool.not_false, Bool.false_eq_true, if_true, if_false, reduceIte, e1, hb, truD, s_raise]
  exact end_ex H (fun f y e => by cases e; exact lay_low hv) ⟨rfl, rfl⟩
end
end Pw
/-! values with one part changed -/
namespace Pw
open PySem WW Mr
theorem ty_int {i : Int} : tyD (.int i) = some "int" := rfl
theorem isTy_ti : isTy "tuple" "int" = false := by decide
theorem isTy_ii : isTy "int" "int" = true := by decide
theorem isTy_bi : isTy "bool" "int" = false := by decide
theorem fStr_small {i : Int} (hi : i.natAbs < 2 ^ 131) : fStr [.int i] = some (.str (toString i)) := by
  have hl : i.natAbs.log2 < 1920 := by
    by_cases e : i.natAbs = 0
    · rw [e]; decide
    · have := (Nat.log2_lt e).mpr hi
      omega
  unfold fStr
  dsimp only
  rw [if_pos hl]
theorem leaf_int01 {i : Int} {o : D} (v : i.natAbs < 2 ^ 131) (ho : Vl 131 2 1400 o) : ∀ d ∈ [D.int (i + 1), .int (i - 1), .int (0 - i), .int (2 * i), .str (Str.ofString (toString i)), .bl (decide (i = 1)), .non, .tup [.int i], .lst [.int i], .int 65536] ++ [o], Vl 132 2 1500 d := by
  have p : 2 ^ 131 + 2 ^ 131 = 2 ^ 132 := by decide
  have p1 : 65536 < 2 ^ 132 := by decide
  have hi : ∀ j : Int, j.natAbs < 2 ^ 132 → Vl 132 2 1500 (.int j) := fun j hj => (Vl.int hj).le (by decide) (by omega)
  intro d hd
  simp only [List.cons_append, List.nil_append, List.mem_cons, List.not_mem_nil, or_false] at hd
  rcases hd with rfl | rfl | rfl | rfl | rfl | rfl | rfl | rfl | rfl | rfl | rfl
  · exact hi _ (by omega)
  · exact hi _ (by omega)
  · exact hi _ (by omega)
  · exact hi _ (by omega)
  · refine (Vl.str (a := 132) asc_int ?_).le (by decide) (by omega)
    have hl : i.natAbs.log2 < 131 := by
      by_cases e : i.natAbs = 0
      · rw [e]; decide
      · exact (Nat.log2_lt e).mpr v
    rw [PySem.ofString_length]
    exact int_text_length_le (by omega) hl
  · exact Vl.bl.le (by decide) (by omega)
  · exact Vl.non.le (by decide) (by omega)
  · exact ((Vs.one (Vl.int v)).tup.up (by decide)).le (by decide) (by omega)
  · exact ((Vs.one (Vl.int v)).lst.up (by decide)).le (by decide) (by omega)
  · exact hi _ p1
  · exact (ho.up (by decide)).le (by decide) (by decide)
theorem leaf_tup01 {xs : List D} {o : D} (v : Vl 131 1 8005 (.tup xs)) (ho : Vl 131 2 1400 o) : ∀ d ∈ [D.lst xs, .tup (cutD xs none (some (-1))), .tup (xs ++ cutD xs (some (-1)) none), .tup (cutD xs (some 1) none), .tup (xs ++ [.int 0]), .tup [.tup xs], .tup xs.reverse, .tup [], .non] ++ [o], Vl 132 3 20000 d := by
  obtain ⟨u, k1⟩ := v.tups
  have c1 : ∀ {l h : Option Int}, Vs 131 0 8000 (cutD xs l h) := fun {l h} => u.sub (cut_sub xs l h)
  have i0 : Vs 131 0 200 [D.int 0] := (Vs.one (Vl.int (i := 0) (by decide))).le (Nat.zero_le _) (Nat.le_refl _)
  have fin : ∀ {ys : List D} {w : Nat}, Vs 131 0 w ys → w + 5 ≤ 20000 → Vl 132 3 20000 (.tup ys) := fun {ys w} z e => (z.tup.up (by decide)).le (by omega) e
  intro d hd
  simp only [List.cons_append, List.nil_append, List.mem_cons, List.not_mem_nil, or_false] at hd
  rcases hd with rfl | rfl | rfl | rfl | rfl | rfl | rfl | rfl | rfl | rfl
  · exact (u.lst.up (by decide)).le (by omega) (by omega)
  · exact fin c1 (by omega)
  · exact fin (u.app c1) (by omega)
  · exact fin c1 (by omega)
  · exact fin (u.app i0) (by omega)
  · exact ((Vs.one v).tup.up (by decide)).le (by omega) (by omega)
  · exact fin u.rev (by omega)
  · exact fin (w := 0) (Vs.nil.le (Nat.zero_le _) (Nat.le_refl _) |>.up (Nat.zero_le _)) (by omega)
  · exact Vl.non.le (by decide) (by decide)
  · exact (ho.up (by decide)).le (by decide) (by decide)
section
variable {c : Fam} {cT : FamT} {n s B : Nat} {h : Hh} {Q : D → Hh → Prop} {X : XP}
theorem bent0_w (L : LC c cT) (H : Hok h) (S : St s B h) (hB : B + 2 ≤ 2 ^ 60) {i : Int} (hi : i.natAbs < 2 ^ 131) (q : ∀ v h', Vl 132 2 1500 v → Ch s (B + 2) h h' → Q v h') : wpO (c (n + 4) "_law_bent" [.ref s, .int i] h) Q X := by
  refine L.bent.wp rfl ?_
  unfold m_law_bent_k01
  have hs := S.lt
  have m2 : mulOk 2 i = true := mul_ok (m := 2) (n := 131) (by decide) hi (by decide)
  simp only [w_ret, w_bad, w_var, w_c, w_dic0, w_bin, w_cmp, w_ix, w_tru, w_notV, w_andV, w_orV, w_ifE, w_notT, w_andT, w_orT, w_blT, w_chain, w_nil, w_cons, w_tup, w_lst, w_fz, w_new, w_neg, w_noP, w_P, w_sl, w_rev, w_bi, w_isT, w_call, w_list, w_listR, w_cat, w_mth, s_next, s_bad, s_break, s_cont, s_retN, s_seq, s_drop, s_ret, s_if, s_set, s_asg, g_nm, gs_nil, gs_cons, g_tp, g_sq, g_ix, s_par, s_par3, i_iter, i_zip, i_enm, i_range1, i_range2, wpO_ok, getO_some, isBl_bl, isInt_int, List.getElem?_cons_zero, List.getElem?_cons_succ, List.map_cons, List.map_nil, List.length_cons, List.length_nil, List.cons_append, List.nil_append, Nat.zero_add, Nat.reduceAdd, Nat.reduceSub, List.replicate_succ, List.replicate_zero, List.set_cons_zero, List.set_cons_succ, vw_non, vw_bl, vw_int, vw_str, vw_tup, vw_lst, vw_dic, vw_lok, Bool.not_true, Bool.not_false, Bool.false_eq_true, if_true, if_false, reduceIte, ty_int, isTy_ti, isTy_ii, isTy_bi, truD, bin_add, bin_sub, bin_mul m2, cmp_ie, fStr_small hi, szOk_t, Nat.reduceLeDiff, true_and]
  refine other_w (n := n) L H S (by omega) fun o h1 ho ch1 => ?_
  refine getO_of (add_lst (by simp)) ?_
  have lf := leaf_int01 hi ho.v
  refine pick_w (n := n + 1) L (ch1.ok H) (ch1.st hs) (by omega) (by simp) (by simp) (fun d hd => (lf d hd).low (by decide) (by decide)) fun d hd h2 ch2 => ?_
  exact end_ch H (ch1.trans ch2) ((lf d hd).low (by decide) (by decide)) (q d h2 (lf d hd) (ch1.trans ch2))
theorem bent1_w (L : LC c cT) (H : Hok h) (S : St s B h) (hB : B + 10 ≤ 2 ^ 60) {ys : List Int} (h0 : ys ≠ []) (hy : ∀ y ∈ ys, y.natAbs < 2 ^ 131) (hl : ys.length ≤ 40) (q : ∀ v h', Vl 132 3 20000 v → Ch s (B + 5) h h' → Q v h') : wpO (c (n + 5) "_law_bent" [.ref s, vec ys] h) Q X := by
  have hv : Vl 131 1 8005 (vec ys) := by
    have z : Vs 131 0 ((ys.map D.int).length * 200) (ys.map D.int) := Vs.all fun x hx => by
      obtain ⟨y, hy2, rfl⟩ := List.mem_map.mp hx
      exact Vl.int (hy y hy2)
    exact z.tup.le (by omega) (by rw [List.length_map]; omega)
  have lay := (hv.rp (by decide) (by decide)).lay
  unfold vec at hv lay ⊢
  have hx : ys.map D.int ≠ [] := by simpa using h0
  have hxl : (ys.map D.int).length ≤ 40 := by rw [List.length_map]; exact hl
  have hxs : ∀ e ∈ ys.map D.int, ∃ i : Int, e = .int i ∧ i.natAbs < 2 ^ 131 := fun e he => by
    obtain ⟨y, hy2, rfl⟩ := List.mem_map.mp he
    exact ⟨y, rfl, hy y hy2⟩
  generalize ys.map D.int = xs at hv lay hx hxl hxs ⊢
  have hs := S.lt
  refine L.bent.wp rfl ?_
  unfold m_law_bent_k01
  refine s_seqR (fun l h1 => l = [some (.ref s), some (.tup xs), none, none] ∧ Ch s (B + 1) h h1) ?_ ?_
  · have hx2 : xs.isEmpty = false := by cases xs with | nil => exact absurd rfl hx | cons _ _ => rfl
    have hx3 : 0 < xs.length := List.length_pos_iff.mpr hx
    simp only [w_ret, w_bad, w_var, w_c, w_dic0, w_bin, w_cmp, w_ix, w_tru, w_notV, w_andV, w_orV, w_ifE, w_notT, w_andT, w_orT, w_blT, w_chain, w_nil, w_cons, w_tup, w_lst, w_fz, w_new, w_neg, w_noP, w_P, w_sl, w_rev, w_bi, w_isT, w_call, w_list, w_listR, w_cat, w_mth, s_next, s_bad, s_break, s_cont, s_retN, s_seq, s_drop, s_ret, s_if, s_set, s_asg, g_nm, gs_nil, gs_cons, g_tp, g_sq, g_ix, s_par, s_par3, i_iter, i_zip, i_enm, i_range1, i_range2, wpO_ok, getO_some, isBl_bl, isInt_int, List.getElem?_cons_zero, List.getElem?_cons_succ, List.map_cons, List.map_nil, List.length_cons, List.length_nil, List.cons_append, List.nil_append, Nat.zero_add, Nat.reduceAdd, Nat.reduceSub, List.replicate_succ, List.replicate_zero, List.set_cons_zero, List.set_cons_succ, vw_non, vw_bl, vw_int, vw_str, vw_tup, vw_lst, vw_dic, vw_lok, Bool.not_true, Bool.not_false, Bool.false_eq_true, if_true, if_false, reduceIte, ty_tup, isTy_tt, truD, szOk_t, Nat.reduceLeDiff, true_and, ne_nil, hx2]
    refine draw_w L.draw H S (by omega) (by decide) (by have := pow_lt8; omega) fun x h1 x0 x1 ch1 => ?_
    simp only [w_ret, w_bad, w_var, w_c, w_dic0, w_bin, w_cmp, w_ix, w_tru, w_notV, w_andV, w_orV, w_ifE, w_notT, w_andT, w_orT, w_blT, w_chain, w_nil, w_cons, w_tup, w_lst, w_fz, w_new, w_neg, w_noP, w_P, w_sl, w_rev, w_bi, w_isT, w_call, w_list, w_listR, w_cat, w_mth, s_next, s_bad, s_break, s_cont, s_retN, s_seq, s_drop, s_ret, s_if, s_set, s_asg, g_nm, gs_nil, gs_cons, g_tp, g_sq, g_ix, s_par, s_par3, i_iter, i_zip, i_enm, i_range1, i_range2, wpO_ok, getO_some, isBl_bl, isInt_int, List.getElem?_cons_zero, List.getElem?_cons_succ, List.map_cons, List.map_nil, List.length_cons, List.length_nil, List.cons_append, List.nil_append, Nat.zero_add, Nat.reduceAdd, Nat.reduceSub, List.replicate_succ, List.replicate_zero, List.set_cons_zero, List.set_cons_succ, vw_non, vw_bl, vw_int, vw_str, vw_tup, vw_lst, vw_dic, vw_lok, Bool.not_true, Bool.not_false, Bool.false_eq_true, if_true, if_false, reduceIte, cmp_gt]
    by_cases hx0 : 0 < x
    · rw [if_pos (by simpa using hx0)]
      refine getO_of rfl ?_
      have hlen : ((xs.length : Nat) : Int) < 2 ^ 2000 := by have := pow_lt (a := 30) (by decide); omega
      refine draw_w L.draw (ch1.ok H) (ch1.st hs) (by omega) (by omega) hlen fun y h2 y0 y1 ch2 => ?_
      simp only [w_ret, w_bad, w_var, w_c, w_dic0, w_bin, w_cmp, w_ix, w_tru, w_notV, w_andV, w_orV, w_ifE, w_notT, w_andT, w_orT, w_blT, w_chain, w_nil, w_cons, w_tup, w_lst, w_fz, w_new, w_neg, w_noP, w_P, w_sl, w_rev, w_bi, w_isT, w_call, w_list, w_listR, w_cat, w_mth, s_next, s_bad, s_break, s_cont, s_retN, s_seq, s_drop, s_ret, s_if, s_set, s_asg, g_nm, gs_nil, gs_cons, g_tp, g_sq, g_ix, s_par, s_par3, i_iter, i_zip, i_enm, i_range1, i_range2, wpO_ok, getO_some, isBl_bl, isInt_int, List.getElem?_cons_zero, List.getElem?_cons_succ, List.map_cons, List.map_nil, List.length_cons, List.length_nil, List.cons_append, List.nil_append, Nat.zero_add, Nat.reduceAdd, Nat.reduceSub, List.replicate_succ, List.replicate_zero, List.set_cons_zero, List.set_cons_succ, vw_non, vw_bl, vw_int, vw_str, vw_tup, vw_lst, vw_dic, vw_lok, Bool.not_true, Bool.not_false, Bool.false_eq_true, if_true, if_false, reduceIte]
      refine getO_of rfl ?_
      refine ixt_any y0 y1 fun e he => ?_
      obtain ⟨hvs, hk1⟩ := hv.tups
      obtain ⟨i, rfl, hi⟩ := hxs e he
      have c2 := ch1.trans ch2
      refine bent0_w (n := n) L (c2.ok H) (c2.st hs) (by omega) hi fun e' h3 hve' ch3 => ?_
      have cl : ∀ lo hi, (cutD xs lo hi).length ≤ xs.length := fun lo hi => (cut_sub xs lo hi).length_le
      have l1 := cl none (some y)
      have l2 := cl (some (y + 1)) none
      refine getO_of (add_tup (by simp only [List.length_cons, List.length_nil]; omega)) ?_
      simp only [bin_add, getO_some, isInt_int, slD_t, vw_tup]
      refine getO_of (add_tup (by simp only [List.length_append, List.length_cons, List.length_nil]; omega)) ?_
      have c3 := (c2.trans ch3).mono (B' := B + 5) (by omega)
      have cv : ∀ {lo hi}, Vs 132 2 8000 (cutD xs lo hi) := fun {lo hi} => ((hvs.sub (cut_sub xs lo hi)).up (by decide)).le (by decide) (by decide)
      have ve : Vs 132 2 1500 [e'] := Vs.one hve'
      have vr := ((cv (lo := none) (hi := some y)).app ve).app (cv (lo := some (y + 1)) (hi := none))
      have vr := vr.tup.le (k' := 3) (W' := 20000) (by decide) (by decide)
      exact end_ch H c3 (vr.low (by decide) (by decide)) (q _ _ vr c3)
    · rw [if_neg (by simpa using hx0)]
      exact ch1
  · rintro _ h1 ⟨rfl, ch1⟩
    simp only [w_ret, w_bad, w_var, w_c, w_dic0, w_bin, w_cmp, w_ix, w_tru, w_notV, w_andV, w_orV, w_ifE, w_notT, w_andT, w_orT, w_blT, w_chain, w_nil, w_cons, w_tup, w_lst, w_fz, w_new, w_neg, w_noP, w_P, w_sl, w_rev, w_bi, w_isT, w_call, w_list, w_listR, w_cat, w_mth, s_next, s_bad, s_break, s_cont, s_retN, s_seq, s_drop, s_ret, s_if, s_set, s_asg, g_nm, gs_nil, gs_cons, g_tp, g_sq, g_ix, s_par, s_par3, i_iter, i_zip, i_enm, i_range1, i_range2, wpO_ok, getO_some, isBl_bl, isInt_int, List.getElem?_cons_zero, List.getElem?_cons_succ, List.map_cons, List.map_nil, List.length_cons, List.length_nil, List.cons_append, List.nil_append, Nat.zero_add, Nat.reduceAdd, Nat.reduceSub, List.replicate_succ, List.replicate_zero, List.set_cons_zero, List.set_cons_succ, vw_non, vw_bl, vw_int, vw_str, vw_tup, vw_lst, vw_dic, vw_lok, Bool.not_true, Bool.not_false, Bool.false_eq_true, if_true, if_false, reduceIte, ty_tup, isTy_tt, truD, szOk_t, Nat.reduceLeDiff, true_and]
    have cl : ∀ lo hi, (cutD xs lo hi).length ≤ xs.length := fun lo hi => (cut_sub xs lo hi).length_le
    have l5 := cl (some (-1)) none
    try simp only [seqO_t, slD_t, getO_some, bin_add, isInt_int, vw_tup, isSeq_t]
    refine getO_of (add_tup (by omega)) ?_
    try simp only [seqO_t, slD_t, getO_some, bin_add, isInt_int, vw_tup, isSeq_t]
    refine getO_of (add_tup (by simp only [List.length_cons, List.length_nil]; omega)) ?_
    try simp only [seqO_t, slD_t, getO_some, bin_add, isInt_int, vw_tup, isSeq_t, szOk_t, Nat.reduceLeDiff, true_and, w_ret, w_bad, w_var, w_c, w_dic0, w_bin, w_cmp, w_ix, w_tru, w_notV, w_andV, w_orV, w_ifE, w_notT, w_andT, w_orT, w_blT, w_chain, w_nil, w_cons, w_tup, w_lst, w_fz, w_new, w_neg, w_noP, w_P, w_sl, w_rev, w_bi, w_isT, w_call, w_list, w_listR, w_cat, w_mth, s_next, s_bad, s_break, s_cont, s_retN, s_seq, s_drop, s_ret, s_if, s_set, s_asg, g_nm, gs_nil, gs_cons, g_tp, g_sq, g_ix, s_par, s_par3, i_iter, i_zip, i_enm, i_range1, i_range2, wpO_ok, getO_some, isBl_bl, isInt_int, List.getElem?_cons_zero, List.getElem?_cons_succ, List.map_cons, List.map_nil, List.length_cons, List.length_nil, List.cons_append, List.nil_append, Nat.zero_add, Nat.reduceAdd, Nat.reduceSub, List.replicate_succ, List.replicate_zero, List.set_cons_zero, List.set_cons_succ, vw_non, vw_bl, vw_int, vw_str, vw_tup, vw_lst, vw_dic, vw_lok, Bool.not_true, Bool.not_false, Bool.false_eq_true, if_true, if_false, reduceIte]
    refine other_w (n := n + 1) L (ch1.ok H) (ch1.st hs) (by omega) fun o h2 ho ch2 => ?_
    refine getO_of (add_lst (by simp)) ?_
    have lf := leaf_tup01 hv ho.v
    have c2 := ch1.trans ch2
    refine pick_w (n := n + 2) L (c2.ok H) (c2.st hs) (by omega) (by simp) (by simp) (fun d hd => (lf d hd).low (by decide) (by decide)) fun d hd h3 ch3 => ?_
    have c3 := (c2.trans ch3).mono (B' := B + 5) (by omega)
    exact end_ch H c3 ((lf d hd).low (by decide) (by decide)) (q d h3 (lf d hd) c3)
end
end Pw
/-! values that are not good; what is refused -/
namespace Pw
open PySem WW Mr
theorem fx_w1 : findX xs "InvalidWidth" = some ⟨"InvalidWidth", none, ["InvalidWidth", "WordsError", "ValueError"]⟩ := by kernel_rfl
theorem fx_n1 : findX xs "InvalidNumber" = some ⟨"InvalidNumber", some "value", ["InvalidNumber", "IndexError", "LookupError"]⟩ := by kernel_rfl
theorem ix_w1 (f : Option (Str × D)) : isXD xs "InvalidWidth" (.exo "InvalidWidth" f) = some true ∧ isXD xs "InvalidVector" (.exo "InvalidWidth" f) = some false ∧ isXD xs "InvalidBasis" (.exo "InvalidWidth" f) = some false := ⟨by kernel_rfl, by kernel_rfl, by kernel_rfl⟩
theorem ix_n1 (f : Option (Str × D)) : isXD xs "WordsError" (.exo "InvalidNumber" f) = some false := by kernel_rfl
theorem fld_n1 (x : D) : fldX xs "value" (.exo "InvalidNumber" (some ("value", x))) = some x := by kernel_rfl
theorem lowsOk_ref {h : Hh} {s : Nat} (H : Hok h) (hs : s < h.length) : lowsOk [.ref s] h = true := by
  have z := all_low H
  unfold lowsOk
  rw [z, Bool.and_true, lows_cons, lows_nil, Bool.and_true, D.low]
  exact decide_eq_true hs
theorem lowsOk_one {h : Hh} {v : D} (H : Hok h) (hv : v.low 0 = true) : lowsOk [v] h = true := lowsOk_of H (by rw [lows_cons, hv, lows_nil]; rfl)
section
variable {c : Fam} {cT : FamT} {n s B : Nat} {h : Hh} {Q : D → Hh → Prop} {X : XP}
theorem refusal_w (L : LC c cT) {tk : Thk} (H : Hok h) (ht : tk [] h = .exc ⟨"InvalidWidth", none⟩ h) : cT (n + 2) "_law_refusal" tk [] h = .ok (.str "width") h := by
  refine eq_of_wp (L.refusal.wp rfl ?_)
  unfold m_law_refusal
  simp only [w_ret, w_bad, w_var, w_c, w_dic0, w_bin, w_cmp, w_ix, w_tru, w_notV, w_andV, w_orV, w_ifE, w_notT, w_andT, w_orT, w_blT, w_chain, w_nil, w_cons, w_tup, w_lst, w_fz, w_new, w_neg, w_noP, w_P, w_sl, w_rev, w_bi, w_isT, w_call, w_list, w_listR, w_cat, w_mth, s_next, s_bad, s_break, s_cont, s_retN, s_seq, s_drop, s_ret, s_if, s_set, s_asg, g_nm, gs_nil, gs_cons, g_tp, g_sq, g_ix, s_par, s_par3, i_iter, i_zip, i_enm, i_range1, i_range2, wpO_ok, getO_some, isBl_bl, isInt_int, List.getElem?_cons_zero, List.getElem?_cons_succ, List.map_cons, List.map_nil, List.length_cons, List.length_nil, List.cons_append, List.nil_append, Nat.zero_add, Nat.reduceAdd, Nat.reduceSub, List.replicate_succ, List.replicate_zero, List.set_cons_zero, List.set_cons_succ, vw_non, vw_bl, vw_int, vw_str, vw_tup, vw_lst, vw_dic, vw_lok, Bool.not_true, Bool.not_false, Bool.false_eq_true, if_true, if_false, reduceIte, s_try]
  rw [w_act rfl]
  simp only [w_all_nil, ht, wpO_exc]
  refine ⟨lowsOk_of H lows_nil, ?_⟩
  rw [h_no fx_w1 (by decide), h_yes fx_w1 (by decide)]
  obtain ⟨i1, i2, i3⟩ := ix_w1 none
  simp only [w_ret, w_bad, w_var, w_c, w_dic0, w_bin, w_cmp, w_ix, w_tru, w_notV, w_andV, w_orV, w_ifE, w_notT, w_andT, w_orT, w_blT, w_chain, w_nil, w_cons, w_tup, w_lst, w_fz, w_new, w_neg, w_noP, w_P, w_sl, w_rev, w_bi, w_isT, w_call, w_list, w_listR, w_cat, w_mth, s_next, s_bad, s_break, s_cont, s_retN, s_seq, s_drop, s_ret, s_if, s_set, s_asg, g_nm, gs_nil, gs_cons, g_tp, g_sq, g_ix, s_par, s_par3, i_iter, i_zip, i_enm, i_range1, i_range2, wpO_ok, getO_some, isBl_bl, isInt_int, List.getElem?_cons_zero, List.getElem?_cons_succ, List.map_cons, List.map_nil, List.length_cons, List.length_nil, List.cons_append, List.nil_append, Nat.zero_add, Nat.reduceAdd, Nat.reduceSub, List.replicate_succ, List.replicate_zero, List.set_cons_zero, List.set_cons_succ, vw_non, vw_bl, vw_int, vw_str, vw_tup, vw_lst, vw_dic, vw_lok, Bool.not_true, Bool.not_false, Bool.false_eq_true, if_true, if_false, reduceIte, lSu, w_isX, i1, i2, i3, szOk_t, Nat.reduceLeDiff, true_and, tyM_list]
  refine getO_of (show fCount (.lst [.bl true, .bl false, .bl false]) [.bl true] h = some (.int 1, h) by kernel_rfl) ?_
  simp only [w_ret, w_bad, w_var, w_c, w_dic0, w_bin, w_cmp, w_ix, w_tru, w_notV, w_andV, w_orV, w_ifE, w_notT, w_andT, w_orT, w_blT, w_chain, w_nil, w_cons, w_tup, w_lst, w_fz, w_new, w_neg, w_noP, w_P, w_sl, w_rev, w_bi, w_isT, w_call, w_list, w_listR, w_cat, w_mth, s_next, s_bad, s_break, s_cont, s_retN, s_seq, s_drop, s_ret, s_if, s_set, s_asg, g_nm, gs_nil, gs_cons, g_tp, g_sq, g_ix, s_par, s_par3, i_iter, i_zip, i_enm, i_range1, i_range2, wpO_ok, getO_some, isBl_bl, isInt_int, List.getElem?_cons_zero, List.getElem?_cons_succ, List.map_cons, List.map_nil, List.length_cons, List.length_nil, List.cons_append, List.nil_append, Nat.zero_add, Nat.reduceAdd, Nat.reduceSub, List.replicate_succ, List.replicate_zero, List.set_cons_zero, List.set_cons_succ, vw_non, vw_bl, vw_int, vw_str, vw_tup, vw_lst, vw_dic, vw_lok, Bool.not_true, Bool.not_false, Bool.false_eq_true, if_true, if_false, reduceIte, cmp_ie, szOk_t, Nat.reduceLeDiff, true_and, tyM_list, decide_true]
  refine getO_of (show fIndex (.lst [.bl true, .bl false, .bl false]) [.bl true] h = some (.int 0, h) by kernel_rfl) ?_
  refine getO_of rfl ?_
  exact su_end (h := h) H low_str (end_eq (X := fun _ _ => False) H low_str rfl)
theorem refusal_n (L : LC c cT) {tk : Thk} {x : D} {C K : Nat} (H : Hok h) (ht : tk [] h = .exc ⟨"InvalidNumber", some ("value", x)⟩ h) (r : Rp x C K) (hC : C ≤ 900000) (hK : K ≤ 64) : cT (n + 2) "_law_refusal" tk [] h = .ok (.str ("number " ++ x.py.shown)) h := by
  refine eq_of_wp (L.refusal.wp rfl ?_)
  unfold m_law_refusal
  simp only [w_ret, w_bad, w_var, w_c, w_dic0, w_bin, w_cmp, w_ix, w_tru, w_notV, w_andV, w_orV, w_ifE, w_notT, w_andT, w_orT, w_blT, w_chain, w_nil, w_cons, w_tup, w_lst, w_fz, w_new, w_neg, w_noP, w_P, w_sl, w_rev, w_bi, w_isT, w_call, w_list, w_listR, w_cat, w_mth, s_next, s_bad, s_break, s_cont, s_retN, s_seq, s_drop, s_ret, s_if, s_set, s_asg, g_nm, gs_nil, gs_cons, g_tp, g_sq, g_ix, s_par, s_par3, i_iter, i_zip, i_enm, i_range1, i_range2, wpO_ok, getO_some, isBl_bl, isInt_int, List.getElem?_cons_zero, List.getElem?_cons_succ, List.map_cons, List.map_nil, List.length_cons, List.length_nil, List.cons_append, List.nil_append, Nat.zero_add, Nat.reduceAdd, Nat.reduceSub, List.replicate_succ, List.replicate_zero, List.set_cons_zero, List.set_cons_succ, vw_non, vw_bl, vw_int, vw_str, vw_tup, vw_lst, vw_dic, vw_lok, Bool.not_true, Bool.not_false, Bool.false_eq_true, if_true, if_false, reduceIte, s_try]
  rw [w_act rfl]
  simp only [w_all_nil, ht, wpO_exc]
  refine ⟨lowsOk_of H lows_nil, ?_⟩
  rw [h_yes fx_n1 (by decide)]
  simp only [w_ret, w_bad, w_var, w_c, w_dic0, w_bin, w_cmp, w_ix, w_tru, w_notV, w_andV, w_orV, w_ifE, w_notT, w_andT, w_orT, w_blT, w_chain, w_nil, w_cons, w_tup, w_lst, w_fz, w_new, w_neg, w_noP, w_P, w_sl, w_rev, w_bi, w_isT, w_call, w_list, w_listR, w_cat, w_mth, s_next, s_bad, s_break, s_cont, s_retN, s_seq, s_drop, s_ret, s_if, s_set, s_asg, g_nm, gs_nil, gs_cons, g_tp, g_sq, g_ix, s_par, s_par3, i_iter, i_zip, i_enm, i_range1, i_range2, wpO_ok, getO_some, isBl_bl, isInt_int, List.getElem?_cons_zero, List.getElem?_cons_succ, List.map_cons, List.map_nil, List.length_cons, List.length_nil, List.cons_append, List.nil_append, Nat.zero_add, Nat.reduceAdd, Nat.reduceSub, List.replicate_succ, List.replicate_zero, List.set_cons_zero, List.set_cons_succ, vw_non, vw_bl, vw_int, vw_str, vw_tup, vw_lst, vw_dic, vw_lok, Bool.not_true, Bool.not_false, Bool.false_eq_true, if_true, if_false, reduceIte, lSu, w_isX, w_fld, ix_n1, fld_n1, truD, lay_vw r.lay]
  refine getO_of (fRepr_of r (by omega) hK) ?_
  refine getO_of (add_str (by have := r.len
                              have : (Str.ofString "number ").length = 7 := by decide
                              omega)) ?_
  exact su_end (h := h) H low_str (end_eq (X := fun _ _ => False) H low_str rfl)
theorem bad_w (L : LC c cT) {G : D → Bool} {tk : Thk} (hG : G .non = false) (ht : ∀ v hh, v.lay = true → Hok hh → tk [v] hh = .ok (.bl (G v)) hh) (H : Hok h) (S : St s B h) (hB : B + 41 ≤ 2 ^ 60) (q : ∀ v h', Ot v → G v = false → Ch s (B + 41) h h' → Q v h') : wpO (cT (n + 4) "_law_bad" tk [.ref s] h) Q X := by
  refine L.bad.wp rfl ?_
  unfold m_law_bad
  have hs := S.lt
  simp only [w_ret, w_bad, w_var, w_c, w_dic0, w_bin, w_cmp, w_ix, w_tru, w_notV, w_andV, w_orV, w_ifE, w_notT, w_andT, w_orT, w_blT, w_chain, w_nil, w_cons, w_tup, w_lst, w_fz, w_new, w_neg, w_noP, w_P, w_sl, w_rev, w_bi, w_isT, w_call, w_list, w_listR, w_cat, w_mth, s_next, s_bad, s_break, s_cont, s_retN, s_seq, s_drop, s_ret, s_if, s_set, s_asg, g_nm, gs_nil, gs_cons, g_tp, g_sq, g_ix, s_par, s_par3, i_iter, i_zip, i_enm, i_range1, i_range2, wpO_ok, getO_some, isBl_bl, isInt_int, List.getElem?_cons_zero, List.getElem?_cons_succ, List.map_cons, List.map_nil, List.length_cons, List.length_nil, List.cons_append, List.nil_append, Nat.zero_add, Nat.reduceAdd, Nat.reduceSub, List.replicate_succ, List.replicate_zero, List.set_cons_zero, List.set_cons_succ, vw_non, vw_bl, vw_int, vw_str, vw_tup, vw_lst, vw_dic, vw_lok, Bool.not_true, Bool.not_false, Bool.false_eq_true, if_true, if_false, reduceIte, w_callC]
  refine ⟨lowsOk_ref H hs, ?_⟩
  refine other_w (n := n) L H S (by omega) fun v h1 hv ch1 => ?_
  refine s_for (WW.intsFrom 0 1 40) (fun i l hh => Ch s (B + 1 + i) h hh ∧ ∃ v o, Ot v ∧ l = [some (.ref s), some .thk, some v, o]) ?_ ?_ ?_
  · simp only [w_ret, w_bad, w_var, w_c, w_dic0, w_bin, w_cmp, w_ix, w_tru, w_notV, w_andV, w_orV, w_ifE, w_notT, w_andT, w_orT, w_blT, w_chain, w_nil, w_cons, w_tup, w_lst, w_fz, w_new, w_neg, w_noP, w_P, w_sl, w_rev, w_bi, w_isT, w_call, w_list, w_listR, w_cat, w_mth, s_next, s_bad, s_break, s_cont, s_retN, s_seq, s_drop, s_ret, s_if, s_set, s_asg, g_nm, gs_nil, gs_cons, g_tp, g_sq, g_ix, s_par, s_par3, i_iter, i_zip, i_enm, i_range1, i_range2, wpO_ok, getO_some, isBl_bl, isInt_int, List.getElem?_cons_zero, List.getElem?_cons_succ, List.map_cons, List.map_nil, List.length_cons, List.length_nil, List.cons_append, List.nil_append, Nat.zero_add, Nat.reduceAdd, Nat.reduceSub, List.replicate_succ, List.replicate_zero, List.set_cons_zero, List.set_cons_succ, vw_non, vw_bl, vw_int, vw_str, vw_tup, vw_lst, vw_dic, vw_lok, Bool.not_true, Bool.not_false, Bool.false_eq_true, if_true, if_false, reduceIte, oneI_int]
    exact ⟨rngB_nat (k := 40) (by decide), by rw [itLen]; exact Nat.le_refl _, ⟨ch1, v, none, hv, rfl⟩, fun i l hx _ _ j => by rw [itAt]; rfl⟩
  · rintro i d l hh ed ⟨ch, v, o, hv, rfl⟩
    obtain ⟨hi, rfl⟩ := intsFrom_ix ed
    have rv := hv.v.rp (by decide) (by decide)
    have Hh := ch.ok H
    simp only [w_ret, w_bad, w_var, w_c, w_dic0, w_bin, w_cmp, w_ix, w_tru, w_notV, w_andV, w_orV, w_ifE, w_notT, w_andT, w_orT, w_blT, w_chain, w_nil, w_cons, w_tup, w_lst, w_fz, w_new, w_neg, w_noP, w_P, w_sl, w_rev, w_bi, w_isT, w_call, w_list, w_listR, w_cat, w_mth, s_next, s_bad, s_break, s_cont, s_retN, s_seq, s_drop, s_ret, s_if, s_set, s_asg, g_nm, gs_nil, gs_cons, g_tp, g_sq, g_ix, s_par, s_par3, i_iter, i_zip, i_enm, i_range1, i_range2, wpO_ok, getO_some, isBl_bl, isInt_int, List.getElem?_cons_zero, List.getElem?_cons_succ, List.map_cons, List.map_nil, List.length_cons, List.length_nil, List.cons_append, List.nil_append, Nat.zero_add, Nat.reduceAdd, Nat.reduceSub, List.replicate_succ, List.replicate_zero, List.set_cons_zero, List.set_cons_succ, vw_non, vw_bl, vw_int, vw_str, vw_tup, vw_lst, vw_dic, vw_lok, Bool.not_true, Bool.not_false, Bool.false_eq_true, if_true, if_false, reduceIte]
    rw [w_act rfl]
    simp only [w_all_nil, w_all_cons, w_ret, w_bad, w_var, w_c, w_dic0, w_bin, w_cmp, w_ix, w_tru, w_notV, w_andV, w_orV, w_ifE, w_notT, w_andT, w_orT, w_blT, w_chain, w_nil, w_cons, w_tup, w_lst, w_fz, w_new, w_neg, w_noP, w_P, w_sl, w_rev, w_bi, w_isT, w_call, w_list, w_listR, w_cat, w_mth, s_next, s_bad, s_break, s_cont, s_retN, s_seq, s_drop, s_ret, s_if, s_set, s_asg, g_nm, gs_nil, gs_cons, g_tp, g_sq, g_ix, s_par, s_par3, i_iter, i_zip, i_enm, i_range1, i_range2, wpO_ok, getO_some, isBl_bl, isInt_int, List.getElem?_cons_zero, List.getElem?_cons_succ, List.map_cons, List.map_nil, List.length_cons, List.length_nil, List.cons_append, List.nil_append, Nat.zero_add, Nat.reduceAdd, Nat.reduceSub, List.replicate_succ, List.replicate_zero, List.set_cons_zero, List.set_cons_succ, vw_non, vw_bl, vw_int, vw_str, vw_tup, vw_lst, vw_dic, vw_lok, Bool.not_true, Bool.not_false, Bool.false_eq_true, if_true, if_false, reduceIte, ht v hh rv.lay Hh, truD]
    refine ⟨lowsOk_one Hh (lay_low rv.lay), ?_⟩
    by_cases g : G v = true
    · rw [if_pos g]
      simp only [w_ret, w_bad, w_var, w_c, w_dic0, w_bin, w_cmp, w_ix, w_tru, w_notV, w_andV, w_orV, w_ifE, w_notT, w_andT, w_orT, w_blT, w_chain, w_nil, w_cons, w_tup, w_lst, w_fz, w_new, w_neg, w_noP, w_P, w_sl, w_rev, w_bi, w_isT, w_call, w_list, w_listR, w_cat, w_mth, s_next, s_bad, s_break, s_cont, s_retN, s_seq, s_drop, s_ret, s_if, s_set, s_asg, g_nm, gs_nil, gs_cons, g_tp, g_sq, g_ix, s_par, s_par3, i_iter, i_zip, i_enm, i_range1, i_range2, wpO_ok, getO_some, isBl_bl, isInt_int, List.getElem?_cons_zero, List.getElem?_cons_succ, List.map_cons, List.map_nil, List.length_cons, List.length_nil, List.cons_append, List.nil_append, Nat.zero_add, Nat.reduceAdd, Nat.reduceSub, List.replicate_succ, List.replicate_zero, List.set_cons_zero, List.set_cons_succ, vw_non, vw_bl, vw_int, vw_str, vw_tup, vw_lst, vw_dic, vw_lok, Bool.not_true, Bool.not_false, Bool.false_eq_true, if_true, if_false, reduceIte, w_callC]
      have hs2 : s < hh.length := by rw [ch.len]; exact hs
      refine ⟨lowsOk_ref Hh hs2, ?_⟩
      refine other_w (n := n) L Hh (ch.st hs) (by omega) fun v2 h2 hv2 ch2 => ?_
      exact ⟨(ch.trans ch2).mono (by omega), v2, _, hv2, rfl⟩
    · rw [if_neg g]
      try simp only [w_ret, w_bad, w_var, w_c, w_dic0, w_bin, w_cmp, w_ix, w_tru, w_notV, w_andV, w_orV, w_ifE, w_notT, w_andT, w_orT, w_blT, w_chain, w_nil, w_cons, w_tup, w_lst, w_fz, w_new, w_neg, w_noP, w_P, w_sl, w_rev, w_bi, w_isT, w_call, w_list, w_listR, w_cat, w_mth, s_next, s_bad, s_break, s_cont, s_retN, s_seq, s_drop, s_ret, s_if, s_set, s_asg, g_nm, gs_nil, gs_cons, g_tp, g_sq, g_ix, s_par, s_par3, i_iter, i_zip, i_enm, i_range1, i_range2, wpO_ok, getO_some, isBl_bl, isInt_int, List.getElem?_cons_zero, List.getElem?_cons_succ, List.map_cons, List.map_nil, List.length_cons, List.length_nil, List.cons_append, List.nil_append, Nat.zero_add, Nat.reduceAdd, Nat.reduceSub, List.replicate_succ, List.replicate_zero, List.set_cons_zero, List.set_cons_succ, vw_non, vw_bl, vw_int, vw_str, vw_tup, vw_lst, vw_dic, vw_lok, Bool.not_true, Bool.not_false, Bool.false_eq_true, if_true, if_false, reduceIte]
      exact ⟨ch.mono (by omega), v, _, hv, rfl⟩
  · rintro l hh ⟨ch, v, o, hv, rfl⟩
    have ch : Ch s (B + 41) h hh := ch.mono (by rw [intsFrom_length]; omega)
    have rv := hv.v.rp (by decide) (by decide)
    have Hh := ch.ok H
    simp only [w_ret, w_bad, w_var, w_c, w_dic0, w_bin, w_cmp, w_ix, w_tru, w_notV, w_andV, w_orV, w_ifE, w_notT, w_andT, w_orT, w_blT, w_chain, w_nil, w_cons, w_tup, w_lst, w_fz, w_new, w_neg, w_noP, w_P, w_sl, w_rev, w_bi, w_isT, w_call, w_list, w_listR, w_cat, w_mth, s_next, s_bad, s_break, s_cont, s_retN, s_seq, s_drop, s_ret, s_if, s_set, s_asg, g_nm, gs_nil, gs_cons, g_tp, g_sq, g_ix, s_par, s_par3, i_iter, i_zip, i_enm, i_range1, i_range2, wpO_ok, getO_some, isBl_bl, isInt_int, List.getElem?_cons_zero, List.getElem?_cons_succ, List.map_cons, List.map_nil, List.length_cons, List.length_nil, List.cons_append, List.nil_append, Nat.zero_add, Nat.reduceAdd, Nat.reduceSub, List.replicate_succ, List.replicate_zero, List.set_cons_zero, List.set_cons_succ, vw_non, vw_bl, vw_int, vw_str, vw_tup, vw_lst, vw_dic, vw_lok, Bool.not_true, Bool.not_false, Bool.false_eq_true, if_true, if_false, reduceIte]
    rw [w_act rfl]
    simp only [w_all_nil, w_all_cons, w_ret, w_bad, w_var, w_c, w_dic0, w_bin, w_cmp, w_ix, w_tru, w_notV, w_andV, w_orV, w_ifE, w_notT, w_andT, w_orT, w_blT, w_chain, w_nil, w_cons, w_tup, w_lst, w_fz, w_new, w_neg, w_noP, w_P, w_sl, w_rev, w_bi, w_isT, w_call, w_list, w_listR, w_cat, w_mth, s_next, s_bad, s_break, s_cont, s_retN, s_seq, s_drop, s_ret, s_if, s_set, s_asg, g_nm, gs_nil, gs_cons, g_tp, g_sq, g_ix, s_par, s_par3, i_iter, i_zip, i_enm, i_range1, i_range2, wpO_ok, getO_some, isBl_bl, isInt_int, List.getElem?_cons_zero, List.getElem?_cons_succ, List.map_cons, List.map_nil, List.length_cons, List.length_nil, List.cons_append, List.nil_append, Nat.zero_add, Nat.reduceAdd, Nat.reduceSub, List.replicate_succ, List.replicate_zero, List.set_cons_zero, List.set_cons_succ, vw_non, vw_bl, vw_int, vw_str, vw_tup, vw_lst, vw_dic, vw_lok, Bool.not_true, Bool.not_false, Bool.false_eq_true, if_true, if_false, reduceIte, ht v hh rv.lay Hh, truD]
    refine ⟨lowsOk_one Hh (lay_low rv.lay), ?_⟩
    by_cases g : G v = true
    · rw [g]
      simp only [w_ret, w_bad, w_var, w_c, w_dic0, w_bin, w_cmp, w_ix, w_tru, w_notV, w_andV, w_orV, w_ifE, w_notT, w_andT, w_orT, w_blT, w_chain, w_nil, w_cons, w_tup, w_lst, w_fz, w_new, w_neg, w_noP, w_P, w_sl, w_rev, w_bi, w_isT, w_call, w_list, w_listR, w_cat, w_mth, s_next, s_bad, s_break, s_cont, s_retN, s_seq, s_drop, s_ret, s_if, s_set, s_asg, g_nm, gs_nil, gs_cons, g_tp, g_sq, g_ix, s_par, s_par3, i_iter, i_zip, i_enm, i_range1, i_range2, wpO_ok, getO_some, isBl_bl, isInt_int, List.getElem?_cons_zero, List.getElem?_cons_succ, List.map_cons, List.map_nil, List.length_cons, List.length_nil, List.cons_append, List.nil_append, Nat.zero_add, Nat.reduceAdd, Nat.reduceSub, List.replicate_succ, List.replicate_zero, List.set_cons_zero, List.set_cons_succ, vw_non, vw_bl, vw_int, vw_str, vw_tup, vw_lst, vw_dic, vw_lok, Bool.not_true, Bool.not_false, Bool.false_eq_true, if_true, if_false, reduceIte]
      exact end_ch H ch low_non (q .non hh ⟨⟨by decide, by decide +kernel, by decide +kernel⟩, by decide +kernel⟩ hG ch)
    · have g : G v = false := by simpa using g
      rw [g]
      simp only [w_ret, w_bad, w_var, w_c, w_dic0, w_bin, w_cmp, w_ix, w_tru, w_notV, w_andV, w_orV, w_ifE, w_notT, w_andT, w_orT, w_blT, w_chain, w_nil, w_cons, w_tup, w_lst, w_fz, w_new, w_neg, w_noP, w_P, w_sl, w_rev, w_bi, w_isT, w_call, w_list, w_listR, w_cat, w_mth, s_next, s_bad, s_break, s_cont, s_retN, s_seq, s_drop, s_ret, s_if, s_set, s_asg, g_nm, gs_nil, gs_cons, g_tp, g_sq, g_ix, s_par, s_par3, i_iter, i_zip, i_enm, i_range1, i_range2, wpO_ok, getO_some, isBl_bl, isInt_int, List.getElem?_cons_zero, List.getElem?_cons_succ, List.map_cons, List.map_nil, List.length_cons, List.length_nil, List.cons_append, List.nil_append, Nat.zero_add, Nat.reduceAdd, Nat.reduceSub, List.replicate_succ, List.replicate_zero, List.set_cons_zero, List.set_cons_succ, vw_non, vw_bl, vw_int, vw_str, vw_tup, vw_lst, vw_dic, vw_lok, Bool.not_true, Bool.not_false, Bool.false_eq_true, if_true, if_false, reduceIte]
      exact end_ch H ch (lay_low rv.lay) (q v hh hv g ch)
theorem lamG (L : LC c cT) {w hi : Int} (w0 : 0 ≤ w) (w1 : w ≤ 1000) (hh : hi ≤ 2 ^ w.toNat - 1) {v x : D} (hv : v.lay = true) (H : Hok h) :
    lamD 1 [some x] (mAndV (mCall (c (n + 1) "_law_is_word") (mCons (mC (.int w)) (mCons (mVar 1) mNil))) (mChain .LtE .LtE (mC (.int 1)) (mVar 1) (mC (.int hi)))) [v] h = .ok (.bl (btw v 1 hi)) h := by
  refine eq_of_wpA ?_
  rw [w_lamD (n := 1) (ds := [v]) rfl]
  simp only [w_ret, w_bad, w_var, w_c, w_dic0, w_bin, w_cmp, w_ix, w_tru, w_notV, w_andV, w_orV, w_ifE, w_notT, w_andT, w_orT, w_blT, w_chain, w_nil, w_cons, w_tup, w_lst, w_fz, w_new, w_neg, w_noP, w_P, w_sl, w_rev, w_bi, w_isT, w_call, w_list, w_listR, w_cat, w_mth, s_next, s_bad, s_break, s_cont, s_retN, s_seq, s_drop, s_ret, s_if, s_set, s_asg, g_nm, gs_nil, gs_cons, g_tp, g_sq, g_ix, s_par, s_par3, i_iter, i_zip, i_enm, i_range1, i_range2, wpO_ok, getO_some, isBl_bl, isInt_int, List.getElem?_cons_zero, List.getElem?_cons_succ, List.map_cons, List.map_nil, List.length_cons, List.length_nil, List.cons_append, List.nil_append, Nat.zero_add, Nat.reduceAdd, Nat.reduceSub, List.replicate_succ, List.replicate_zero, List.set_cons_zero, List.set_cons_succ, vw_non, vw_bl, vw_int, vw_str, vw_tup, vw_lst, vw_dic, vw_lok, Bool.not_true, Bool.not_false, Bool.false_eq_true, if_true, if_false, reduceIte, lis_word_v L w0 w1 hv H, truD, lay_vw hv]
  cases v with
  | int i =>
    by_cases h0 : 0 ≤ i ∧ i ≤ 2 ^ w.toNat - 1
    · have e : wordB w (.int i) = true := decide_eq_true h0
      rw [e]
      simp only [w_ret, w_bad, w_var, w_c, w_dic0, w_bin, w_cmp, w_ix, w_tru, w_notV, w_andV, w_orV, w_ifE, w_notT, w_andT, w_orT, w_blT, w_chain, w_nil, w_cons, w_tup, w_lst, w_fz, w_new, w_neg, w_noP, w_P, w_sl, w_rev, w_bi, w_isT, w_call, w_list, w_listR, w_cat, w_mth, s_next, s_bad, s_break, s_cont, s_retN, s_seq, s_drop, s_ret, s_if, s_set, s_asg, g_nm, gs_nil, gs_cons, g_tp, g_sq, g_ix, s_par, s_par3, i_iter, i_zip, i_enm, i_range1, i_range2, wpO_ok, getO_some, isBl_bl, isInt_int, List.getElem?_cons_zero, List.getElem?_cons_succ, List.map_cons, List.map_nil, List.length_cons, List.length_nil, List.cons_append, List.nil_append, Nat.zero_add, Nat.reduceAdd, Nat.reduceSub, List.replicate_succ, List.replicate_zero, List.set_cons_zero, List.set_cons_succ, vw_non, vw_bl, vw_int, vw_str, vw_tup, vw_lst, vw_dic, vw_lok, Bool.not_true, Bool.not_false, Bool.false_eq_true, if_true, if_false, reduceIte, cmpD, isBl_bl]
      by_cases h1 : 1 ≤ i
      · simp only [h1, decide_true, w_ret, w_bad, w_var, w_c, w_dic0, w_bin, w_cmp, w_ix, w_tru, w_notV, w_andV, w_orV, w_ifE, w_notT, w_andT, w_orT, w_blT, w_chain, w_nil, w_cons, w_tup, w_lst, w_fz, w_new, w_neg, w_noP, w_P, w_sl, w_rev, w_bi, w_isT, w_call, w_list, w_listR, w_cat, w_mth, s_next, s_bad, s_break, s_cont, s_retN, s_seq, s_drop, s_ret, s_if, s_set, s_asg, g_nm, gs_nil, gs_cons, g_tp, g_sq, g_ix, s_par, s_par3, i_iter, i_zip, i_enm, i_range1, i_range2, wpO_ok, getO_some, isBl_bl, isInt_int, List.getElem?_cons_zero, List.getElem?_cons_succ, List.map_cons, List.map_nil, List.length_cons, List.length_nil, List.cons_append, List.nil_append, Nat.zero_add, Nat.reduceAdd, Nat.reduceSub, List.replicate_succ, List.replicate_zero, List.set_cons_zero, List.set_cons_succ, vw_non, vw_bl, vw_int, vw_str, vw_tup, vw_lst, vw_dic, vw_lok, Bool.not_true, Bool.not_false, Bool.false_eq_true, if_true, if_false, reduceIte]
        refine ⟨?_, trivial⟩
        unfold btw
        simp [h1]
      · simp only [h1, decide_false, w_ret, w_bad, w_var, w_c, w_dic0, w_bin, w_cmp, w_ix, w_tru, w_notV, w_andV, w_orV, w_ifE, w_notT, w_andT, w_orT, w_blT, w_chain, w_nil, w_cons, w_tup, w_lst, w_fz, w_new, w_neg, w_noP, w_P, w_sl, w_rev, w_bi, w_isT, w_call, w_list, w_listR, w_cat, w_mth, s_next, s_bad, s_break, s_cont, s_retN, s_seq, s_drop, s_ret, s_if, s_set, s_asg, g_nm, gs_nil, gs_cons, g_tp, g_sq, g_ix, s_par, s_par3, i_iter, i_zip, i_enm, i_range1, i_range2, wpO_ok, getO_some, isBl_bl, isInt_int, List.getElem?_cons_zero, List.getElem?_cons_succ, List.map_cons, List.map_nil, List.length_cons, List.length_nil, List.cons_append, List.nil_append, Nat.zero_add, Nat.reduceAdd, Nat.reduceSub, List.replicate_succ, List.replicate_zero, List.set_cons_zero, List.set_cons_succ, vw_non, vw_bl, vw_int, vw_str, vw_tup, vw_lst, vw_dic, vw_lok, Bool.not_true, Bool.not_false, Bool.false_eq_true, if_true, if_false, reduceIte]
        refine ⟨?_, trivial⟩
        unfold btw
        simp [h1]
    · have e : wordB w (.int i) = false := decide_eq_false h0
      rw [e]
      simp only [w_ret, w_bad, w_var, w_c, w_dic0, w_bin, w_cmp, w_ix, w_tru, w_notV, w_andV, w_orV, w_ifE, w_notT, w_andT, w_orT, w_blT, w_chain, w_nil, w_cons, w_tup, w_lst, w_fz, w_new, w_neg, w_noP, w_P, w_sl, w_rev, w_bi, w_isT, w_call, w_list, w_listR, w_cat, w_mth, s_next, s_bad, s_break, s_cont, s_retN, s_seq, s_drop, s_ret, s_if, s_set, s_asg, g_nm, gs_nil, gs_cons, g_tp, g_sq, g_ix, s_par, s_par3, i_iter, i_zip, i_enm, i_range1, i_range2, wpO_ok, getO_some, isBl_bl, isInt_int, List.getElem?_cons_zero, List.getElem?_cons_succ, List.map_cons, List.map_nil, List.length_cons, List.length_nil, List.cons_append, List.nil_append, Nat.zero_add, Nat.reduceAdd, Nat.reduceSub, List.replicate_succ, List.replicate_zero, List.set_cons_zero, List.set_cons_succ, vw_non, vw_bl, vw_int, vw_str, vw_tup, vw_lst, vw_dic, vw_lok, Bool.not_true, Bool.not_false, Bool.false_eq_true, if_true, if_false, reduceIte, isBl_bl]
      refine ⟨?_, trivial⟩
      show D.bl false = D.bl (decide (1 ≤ i ∧ i ≤ hi))
      rw [decide_eq_false fun z => h0 ⟨by omega, by omega⟩]
  | lok _ => unfold D.lay at hv; cases hv
  | ref _ => unfold D.lay at hv; cases hv
  | thk => unfold D.lay at hv; cases hv
  | exo _ _ => unfold D.lay at hv; cases hv
  | _ => first | exact ⟨rfl, rfl⟩ | exact ⟨rfl, trivial⟩ | exact ⟨trivial, trivial⟩ | exact trivial | (simp only [wordB, btw, w_ret, w_bad, w_var, w_c, w_dic0, w_bin, w_cmp, w_ix, w_tru, w_notV, w_andV, w_orV, w_ifE, w_notT, w_andT, w_orT, w_blT, w_chain, w_nil, w_cons, w_tup, w_lst, w_fz, w_new, w_neg, w_noP, w_P, w_sl, w_rev, w_bi, w_isT, w_call, w_list, w_listR, w_cat, w_mth, s_next, s_bad, s_break, s_cont, s_retN, s_seq, s_drop, s_ret, s_if, s_set, s_asg, g_nm, gs_nil, gs_cons, g_tp, g_sq, g_ix, s_par, s_par3, i_iter, i_zip, i_enm, i_range1, i_range2, wpO_ok, getO_some, isBl_bl, isInt_int, List.getElem?_cons_zero, List.getElem?_cons_succ, List.map_cons, List.map_nil, List.length_cons, List.length_nil, List.cons_append, List.nil_append, Nat.zero_add, Nat.reduceAdd, Nat.reduceSub, List.replicate_succ, List.replicate_zero, List.set_cons_zero, List.set_cons_succ, vw_non, vw_bl, vw_int, vw_str, vw_tup, vw_lst, vw_dic, vw_lok, Bool.not_true, Bool.not_false, Bool.false_eq_true, if_true, if_false, reduceIte]; done) | (simp only [wordB, btw, w_ret, w_bad, w_var, w_c, w_dic0, w_bin, w_cmp, w_ix, w_tru, w_notV, w_andV, w_orV, w_ifE, w_notT, w_andT, w_orT, w_blT, w_chain, w_nil, w_cons, w_tup, w_lst, w_fz, w_new, w_neg, w_noP, w_P, w_sl, w_rev, w_bi, w_isT, w_call, w_list, w_listR, w_cat, w_mth, s_next, s_bad, s_break, s_cont, s_retN, s_seq, s_drop, s_ret, s_if, s_set, s_asg, g_nm, gs_nil, gs_cons, g_tp, g_sq, g_ix, s_par, s_par3, i_iter, i_zip, i_enm, i_range1, i_range2, wpO_ok, getO_some, isBl_bl, isInt_int, List.getElem?_cons_zero, List.getElem?_cons_succ, List.map_cons, List.map_nil, List.length_cons, List.length_nil, List.cons_append, List.nil_append, Nat.zero_add, Nat.reduceAdd, Nat.reduceSub, List.replicate_succ, List.replicate_zero, List.set_cons_zero, List.set_cons_succ, vw_non, vw_bl, vw_int, vw_str, vw_tup, vw_lst, vw_dic, vw_lok, Bool.not_true, Bool.not_false, Bool.false_eq_true, if_true, if_false, reduceIte]; exact ⟨rfl, trivial⟩)
theorem bad_width_w (L : LC c cT) (H : Hok h) (S : St s B h) (hB : B + 41 ≤ 2 ^ 60) (q : ∀ v h', Ot v → btw v 1 16 = false → Ch s (B + 41) h h' → Q v h') : wpO (c (n + 5) "_law_bad_width" [.ref s] h) Q X := by
  refine L.bad_width.wp (n := n + 2) rfl ?_
  unfold m_law_bad_width
  have hs := S.lt
  simp only [w_ret, w_bad, w_var, w_c, w_dic0, w_bin, w_cmp, w_ix, w_tru, w_notV, w_andV, w_orV, w_ifE, w_notT, w_andT, w_orT, w_blT, w_chain, w_nil, w_cons, w_tup, w_lst, w_fz, w_new, w_neg, w_noP, w_P, w_sl, w_rev, w_bi, w_isT, w_call, w_list, w_listR, w_cat, w_mth, s_next, s_bad, s_break, s_cont, s_retN, s_seq, s_drop, s_ret, s_if, s_set, s_asg, g_nm, gs_nil, gs_cons, g_tp, g_sq, g_ix, s_par, s_par3, i_iter, i_zip, i_enm, i_range1, i_range2, wpO_ok, getO_some, isBl_bl, isInt_int, List.getElem?_cons_zero, List.getElem?_cons_succ, List.map_cons, List.map_nil, List.length_cons, List.length_nil, List.cons_append, List.nil_append, Nat.zero_add, Nat.reduceAdd, Nat.reduceSub, List.replicate_succ, List.replicate_zero, List.set_cons_zero, List.set_cons_succ, vw_non, vw_bl, vw_int, vw_str, vw_tup, vw_lst, vw_dic, vw_lok, Bool.not_true, Bool.not_false, Bool.false_eq_true, if_true, if_false, reduceIte, w_lam, w_all_cons, w_all_nil]
  refine bad_w (n := n) L (G := fun v => btw v 1 16) rfl (fun v hh hv Hh => lamG (n := n + 1) L (by decide) (by decide) (by decide) hv Hh) H S hB fun v h' hv hb ch => ?_
  have lv := lay_low (hv.v.rp (by decide) (by decide)).lay
  exact ⟨lowsOk_one (ch.ok H) lv, end_ch H ch lv (q v h' hv hb ch)⟩
theorem bad_size_w (L : LC c cT) (H : Hok h) (S : St s B h) (hB : B + 41 ≤ 2 ^ 60) (q : ∀ v h', Ot v → btw v 1 40 = false → Ch s (B + 41) h h' → Q v h') : wpO (c (n + 5) "_law_bad_size" [.ref s] h) Q X := by
  refine L.bad_size.wp (n := n + 2) rfl ?_
  unfold m_law_bad_size
  have hs := S.lt
  simp only [w_ret, w_bad, w_var, w_c, w_dic0, w_bin, w_cmp, w_ix, w_tru, w_notV, w_andV, w_orV, w_ifE, w_notT, w_andT, w_orT, w_blT, w_chain, w_nil, w_cons, w_tup, w_lst, w_fz, w_new, w_neg, w_noP, w_P, w_sl, w_rev, w_bi, w_isT, w_call, w_list, w_listR, w_cat, w_mth, s_next, s_bad, s_break, s_cont, s_retN, s_seq, s_drop, s_ret, s_if, s_set, s_asg, g_nm, gs_nil, gs_cons, g_tp, g_sq, g_ix, s_par, s_par3, i_iter, i_zip, i_enm, i_range1, i_range2, wpO_ok, getO_some, isBl_bl, isInt_int, List.getElem?_cons_zero, List.getElem?_cons_succ, List.map_cons, List.map_nil, List.length_cons, List.length_nil, List.cons_append, List.nil_append, Nat.zero_add, Nat.reduceAdd, Nat.reduceSub, List.replicate_succ, List.replicate_zero, List.set_cons_zero, List.set_cons_succ, vw_non, vw_bl, vw_int, vw_str, vw_tup, vw_lst, vw_dic, vw_lok, Bool.not_true, Bool.not_false, Bool.false_eq_true, if_true, if_false, reduceIte, w_lam, w_all_cons, w_all_nil]
  refine bad_w (n := n) L (G := fun v => btw v 1 40) rfl (fun v hh hv Hh => lamG (n := n + 1) L (by decide) (by decide) (by decide) hv Hh) H S hB fun v h' hv hb ch => ?_
  have lv := lay_low (hv.v.rp (by decide) (by decide)).lay
  exact ⟨lowsOk_one (ch.ok H) lv, end_ch H ch lv (q v h' hv hb ch)⟩
end
end Pw
/-! levels, inverses and errors: what the package's functions answer -/
namespace Pw
open PySem WW Mr
structure L03 (c : Fam) (cT : FamT) : Prop where
  C : LC c cT
  is_any : Is c "is_any_vector" 2 2 false false m_is_any_vector
  require_vector : Is c "require_vector" 3 3 false false m_require_vector
  require_word : Is c "require_word" 2 2 false false m_require_word
  sum_by : Is c "sum_by" 3 6 false false m_sum_by
  multiple_by : Is c "multiple_by" 3 5 false false m_multiple_by
  dot_by : Is c "dot_by" 3 5 false false m_dot_by
  level_of : Is c "level_of" 2 3 false false m_level_of
  inverse_of : Is c "inverse_of" 2 5 false false m_inverse_of
  vector_sum : Is c "vector_sum" 2 5 true false m_vector_sum
  vector_multiple : Is c "vector_multiple" 3 3 false false m_vector_multiple
  dot_product : Is c "dot_product" 3 3 false false m_dot_product
  word_level : Is c "word_level" 2 2 false false m_word_level
  word_inverse : Is c "word_inverse" 2 2 false false m_word_inverse
  word_right : IsL c cT "_law_word_right" 2 4 m_law_word_right
  bad_word : IsL c cT "_law_bad_word" 2 2 m_law_bad_word
  bad_vector : Is c "_law_bad_vector" 3 6 false false m_law_bad_vector
  lis_any : Is c "_law_is_any" 2 2 false false m_law_is_any
  errors : IsL c cT "_law_errors_right" 3 12 m_law_errors_right_k03
  long : IsL c cT "_law_long_right" 0 2 m_law_long_right_k03
  law : Is c "law" 1 8 false false m_law_k03
section
variable {c : Fam} {cT : FamT} {n s B : Nat} {h : Hh} {Q : D → Hh → Prop} {X : XP}
theorem log2_small {i : Int} (h : i.natAbs < 2 ^ 100) : i.natAbs.log2 < 9000 := by
  by_cases e : i.natAbs = 0
  · rw [e]; decide
  · have := (Nat.log2_lt e).mpr h
    omega
theorem level_of_v (L : L03 c cT) {w : Nat} {x : Int} (hw : w ≤ 16) (h0 : 0 ≤ x) (h1 : x < 2 ^ w) (H : Hok h) : ∃ l : Nat, Lev w x l ∧ c (n + 1) "level_of" [.int w, .int x] h = .ok (.int l) h := by
  by_cases e : x = 0
  · subst e
    refine ⟨w, ⟨Nat.le_refl _, Int.dvd_zero _, .inl rfl⟩, eq_of_wp (L.level_of.wp rfl ?_)⟩
    unfold m_level_of
    simp only [w_ret, w_bad, w_var, w_c, w_dic0, w_bin, w_cmp, w_ix, w_tru, w_notV, w_andV, w_orV, w_ifE, w_notT, w_andT, w_orT, w_blT, w_chain, w_nil, w_cons, w_tup, w_lst, w_fz, w_new, w_neg, w_noP, w_P, w_sl, w_rev, w_bi, w_isT, w_call, w_list, w_listR, w_cat, w_mth, s_next, s_bad, s_break, s_cont, s_retN, s_seq, s_drop, s_ret, s_if, s_set, s_asg, g_nm, gs_nil, gs_cons, g_tp, g_sq, g_ix, s_par, s_par3, i_iter, i_zip, i_enm, i_range1, i_range2, wpO_ok, getO_some, isBl_bl, isInt_int, List.getElem?_cons_zero, List.getElem?_cons_succ, List.map_cons, List.map_nil, List.length_cons, List.length_nil, List.cons_append, List.nil_append, Nat.zero_add, Nat.reduceAdd, Nat.reduceSub, List.replicate_succ, List.replicate_zero, List.set_cons_zero, List.set_cons_succ, vw_non, vw_bl, vw_int, vw_str, vw_tup, vw_lst, vw_dic, vw_lok, Bool.not_true, Bool.not_false, Bool.false_eq_true, if_true, if_false, reduceIte, cmp_ie, decide_true]
    exact end_eq H low_int rfl
  · -- the highest level
    have ex : ∃ l, Lev w x l := by
      have key : ∀ m, m ≤ w → ((2 : Int) ^ m) ∣ x → ∃ l, Lev w x l := by
        intro m
        generalize hk : w - m = k
        induction k generalizing m with
        | zero => exact fun h1 h2 => ⟨m, h1, h2, .inl (by omega)⟩
        | succ k ih =>
          intro h1 h2
          by_cases hd : ((2 : Int) ^ (m + 1)) ∣ x
          · exact ih (m + 1) (by omega) (by omega) hd
          · exact ⟨m, h1, h2, .inr hd⟩
      exact key 0 (Nat.zero_le _) (Int.one_dvd _)
    obtain ⟨l0, hl⟩ := ex
    have hl0 : l0 < w := by
      rcases Nat.lt_or_ge l0 w with z | z
      · exact z
      · have := hl.le
        have z : l0 = w := by omega
        exact absurd (zero_of_dvd h0 h1 (z ▸ hl.dv)) e
    have nt : ¬ ((2 : Int) ^ (l0 + 1)) ∣ x := by
      rcases hl.top with z | z
      · omega
      · exact z
    refine ⟨l0, hl, eq_of_wp (L.level_of.wp rfl ?_)⟩
    unfold m_level_of
    simp only [w_ret, w_bad, w_var, w_c, w_dic0, w_bin, w_cmp, w_ix, w_tru, w_notV, w_andV, w_orV, w_ifE, w_notT, w_andT, w_orT, w_blT, w_chain, w_nil, w_cons, w_tup, w_lst, w_fz, w_new, w_neg, w_noP, w_P, w_sl, w_rev, w_bi, w_isT, w_call, w_list, w_listR, w_cat, w_mth, s_next, s_bad, s_break, s_cont, s_retN, s_seq, s_drop, s_ret, s_if, s_set, s_asg, g_nm, gs_nil, gs_cons, g_tp, g_sq, g_ix, s_par, s_par3, i_iter, i_zip, i_enm, i_range1, i_range2, wpO_ok, getO_some, isBl_bl, isInt_int, List.getElem?_cons_zero, List.getElem?_cons_succ, List.map_cons, List.map_nil, List.length_cons, List.length_nil, List.cons_append, List.nil_append, Nat.zero_add, Nat.reduceAdd, Nat.reduceSub, List.replicate_succ, List.replicate_zero, List.set_cons_zero, List.set_cons_succ, vw_non, vw_bl, vw_int, vw_str, vw_tup, vw_lst, vw_dic, vw_lok, Bool.not_true, Bool.not_false, Bool.false_eq_true, if_true, if_false, reduceIte, cmp_ie, decide_eq_false e]
    refine s_while (fun m l hh => hh = h ∧ m ≤ l0 ∧ l = [some (.int w), some (.int x), some (.int ((l0 - m : Nat) : Int))]) l0 ⟨rfl, Nat.le_refl _, by rw [Nat.sub_self]; rfl⟩ ?_
    rintro m l hh ⟨rfl, hm, rfl⟩
    have rs : binD .RShift (.int x) (.int ((l0 - m : Nat) : Int)) = some (.int (x / 2 ^ (l0 - m))) := by
      unfold binD
      dsimp only
      rw [if_pos (by omega), Int.toNat_natCast]
    have ba : binD .BitAnd (.int (x / 2 ^ (l0 - m))) (.int 1) = some (.int (x / 2 ^ (l0 - m) % 2)) := by
      unfold binD
      dsimp only
      rw [PyProof.Rows.bitAnd_m1]
    simp only [w_ret, w_bad, w_var, w_c, w_dic0, w_bin, w_cmp, w_ix, w_tru, w_notV, w_andV, w_orV, w_ifE, w_notT, w_andT, w_orT, w_blT, w_chain, w_nil, w_cons, w_tup, w_lst, w_fz, w_new, w_neg, w_noP, w_P, w_sl, w_rev, w_bi, w_isT, w_call, w_list, w_listR, w_cat, w_mth, s_next, s_bad, s_break, s_cont, s_retN, s_seq, s_drop, s_ret, s_if, s_set, s_asg, g_nm, gs_nil, gs_cons, g_tp, g_sq, g_ix, s_par, s_par3, i_iter, i_zip, i_enm, i_range1, i_range2, wpO_ok, getO_some, isBl_bl, isInt_int, List.getElem?_cons_zero, List.getElem?_cons_succ, List.map_cons, List.map_nil, List.length_cons, List.length_nil, List.cons_append, List.nil_append, Nat.zero_add, Nat.reduceAdd, Nat.reduceSub, List.replicate_succ, List.replicate_zero, List.set_cons_zero, List.set_cons_succ, vw_non, vw_bl, vw_int, vw_str, vw_tup, vw_lst, vw_dic, vw_lok, Bool.not_true, Bool.not_false, Bool.false_eq_true, if_true, if_false, reduceIte, rs, ba, cmp_ie]
    have dm : ((2 : Int) ^ (l0 - m)) ∣ x := Int.dvd_trans (pow_dvd (by omega)) hl.dv
    cases m with
    | zero =>
      rw [if_neg (by
        rw [decide_eq_true_eq, bit_dvd dm]
        exact nt)]
      exact end_eq H low_int rfl
    | succ m =>
      rw [if_pos (by
        rw [decide_eq_true_eq, bit_dvd dm]
        exact Int.dvd_trans (pow_dvd (by omega)) hl.dv)]
      have e : ((l0 - (m + 1) : Nat) : Int) + 1 = ((l0 - m : Nat) : Int) := by omega
      refine s_augI (j := ((l0 - (m + 1) : Nat) : Int)) (d := ((l0 - m : Nat) : Int)) rfl (by rw [← e]; rfl) ?_
      exact ⟨m, Nat.lt_succ_self m, rfl, by omega, rfl⟩
theorem inverse_of_v (L : L03 c cT) {w : Nat} {x : Int} (hw0 : 1 ≤ w) (hw : w ≤ 16) (h0 : 0 ≤ x) (h1 : x < 2 ^ w) (ho : x % 2 ≠ 0) (H : Hok h) : ∃ f : Int, 0 ≤ f ∧ f < 2 ^ w ∧ f * x % 2 ^ w = 1 ∧ c (n + 2) "inverse_of" [.int w, .int x] h = .ok (.int f) h := by
  suffices z : wpO (c (n + 2) "inverse_of" [.int w, .int x] h) (fun v h' => h' = h ∧ ∃ f : Int, v = .int f ∧ 0 ≤ f ∧ f < 2 ^ w ∧ f * x % 2 ^ w = 1) fun _ _ => False by
    rw [wpO_def] at z
    revert z
    cases c (n + 2) "inverse_of" [.int w, .int x] h with
    | ok v h' => rintro ⟨rfl, f, rfl, a, b, d⟩; exact ⟨f, a, b, d, rfl⟩
    | exc e h' => exact fun z => z.elim
    | bad => exact fun z => z.elim
  refine L.inverse_of.wp rfl ?_
  unfold m_inverse_of
  have pb := pow_le16 hw
  have pp := pow_pos2 w
  have p1 : (1 : Int) < 2 ^ w := by
    have := Int.le_of_dvd (pow_pos2 w) (pow_dvd hw0)
    have : (2 : Int) ≤ 2 ^ w := by simpa using this
    omega
  simp only [w_ret, w_bad, w_var, w_c, w_dic0, w_bin, w_cmp, w_ix, w_tru, w_notV, w_andV, w_orV, w_ifE, w_notT, w_andT, w_orT, w_blT, w_chain, w_nil, w_cons, w_tup, w_lst, w_fz, w_new, w_neg, w_noP, w_P, w_sl, w_rev, w_bi, w_isT, w_call, w_list, w_listR, w_cat, w_mth, s_next, s_bad, s_break, s_cont, s_retN, s_seq, s_drop, s_ret, s_if, s_set, s_asg, g_nm, gs_nil, gs_cons, g_tp, g_sq, g_ix, s_par, s_par3, i_iter, i_zip, i_enm, i_range1, i_range2, wpO_ok, getO_some, isBl_bl, isInt_int, List.getElem?_cons_zero, List.getElem?_cons_succ, List.map_cons, List.map_nil, List.length_cons, List.length_nil, List.cons_append, List.nil_append, Nat.zero_add, Nat.reduceAdd, Nat.reduceSub, List.replicate_succ, List.replicate_zero, List.set_cons_zero, List.set_cons_succ, vw_non, vw_bl, vw_int, vw_str, vw_tup, vw_lst, vw_dic, vw_lok, Bool.not_true, Bool.not_false, Bool.false_eq_true, if_true, if_false, reduceIte, L.C.W.modulus (w := (w : Int)) (by omega) (by omega) H, seqN_t2, ctorL_c, szOk_t, Nat.reduceLeDiff, true_and, Int.toNat_natCast]
  refine s_while (fun m l hh => hh = h ∧ ∃ (f : Int) (b : Nat), l = [some (.int w), some (.int x), some (.int (2 ^ w)), some (.int f), some (.int b)] ∧ 1 ≤ b ∧ m = w - b ∧ 0 ≤ f ∧ f < 2 ^ w ∧ ((2 : Int) ^ min b w) ∣ x * f - 1) (w - 1) ⟨rfl, 1, 1, rfl, by decide, rfl, by decide, p1, inv_start ho⟩ ?_
  rintro m l hh ⟨rfl, f, b, rfl, b1, hm, f0, f1, hd⟩
  simp only [w_ret, w_bad, w_var, w_c, w_dic0, w_bin, w_cmp, w_ix, w_tru, w_notV, w_andV, w_orV, w_ifE, w_notT, w_andT, w_orT, w_blT, w_chain, w_nil, w_cons, w_tup, w_lst, w_fz, w_new, w_neg, w_noP, w_P, w_sl, w_rev, w_bi, w_isT, w_call, w_list, w_listR, w_cat, w_mth, s_next, s_bad, s_break, s_cont, s_retN, s_seq, s_drop, s_ret, s_if, s_set, s_asg, g_nm, gs_nil, gs_cons, g_tp, g_sq, g_ix, s_par, s_par3, i_iter, i_zip, i_enm, i_range1, i_range2, wpO_ok, getO_some, isBl_bl, isInt_int, List.getElem?_cons_zero, List.getElem?_cons_succ, List.map_cons, List.map_nil, List.length_cons, List.length_nil, List.cons_append, List.nil_append, Nat.zero_add, Nat.reduceAdd, Nat.reduceSub, List.replicate_succ, List.replicate_zero, List.set_cons_zero, List.set_cons_succ, vw_non, vw_bl, vw_int, vw_str, vw_tup, vw_lst, vw_dic, vw_lok, Bool.not_true, Bool.not_false, Bool.false_eq_true, if_true, if_false, reduceIte, show cmpD .Lt (.int (b : Int)) (.int (w : Int)) = some (decide ((b : Int) < (w : Int))) from rfl]
  by_cases hb : (b : Int) < (w : Int)
  · rw [if_pos (decide_eq_true hb)]
    have m1 : mulOk x f = true := mul_ok (m := 17) (n := 17) (abs_lt h0 (by omega)) (abs_lt f0 (by omega)) (by decide)
    have hxf : x * f ≤ 65536 * 65536 := Int.mul_le_mul (by omega) (by omega) f0 (by decide)
    have hxf0 : 0 ≤ x * f := Int.mul_nonneg h0 f0
    have e60 : (2 : Nat) ^ 40 = 1099511627776 := by decide
    have m2 : mulOk f (2 - x * f) = true := mul_ok (m := 17) (n := 40) (abs_lt f0 (by omega)) (by omega) (by decide)
    have m3 : mulOk (b : Int) 2 = true := mul_ok (m := 17) (n := 4) (abs_lt (by omega) (by omega)) (by decide) (by decide)
    simp only [w_ret, w_bad, w_var, w_c, w_dic0, w_bin, w_cmp, w_ix, w_tru, w_notV, w_andV, w_orV, w_ifE, w_notT, w_andT, w_orT, w_blT, w_chain, w_nil, w_cons, w_tup, w_lst, w_fz, w_new, w_neg, w_noP, w_P, w_sl, w_rev, w_bi, w_isT, w_call, w_list, w_listR, w_cat, w_mth, s_next, s_bad, s_break, s_cont, s_retN, s_seq, s_drop, s_ret, s_if, s_set, s_asg, g_nm, gs_nil, gs_cons, g_tp, g_sq, g_ix, s_par, s_par3, i_iter, i_zip, i_enm, i_range1, i_range2, wpO_ok, getO_some, isBl_bl, isInt_int, List.getElem?_cons_zero, List.getElem?_cons_succ, List.map_cons, List.map_nil, List.length_cons, List.length_nil, List.cons_append, List.nil_append, Nat.zero_add, Nat.reduceAdd, Nat.reduceSub, List.replicate_succ, List.replicate_zero, List.set_cons_zero, List.set_cons_succ, vw_non, vw_bl, vw_int, vw_str, vw_tup, vw_lst, vw_dic, vw_lok, Bool.not_true, Bool.not_false, Bool.false_eq_true, if_true, if_false, reduceIte, bin_mul m1, bin_sub, bin_mul m2, bin_mod pp]
    refine s_augI (j := (b : Int)) (d := ((b * 2 : Nat) : Int)) rfl (by unfold augI; dsimp only; rw [if_pos (.inr (by decide))]; rfl) ?_
    refine ⟨w - b * 2, by omega, rfl, _, b * 2, rfl, by omega, rfl, Int.emod_nonneg _ (by omega), Int.emod_lt_of_pos _ pp, inv_step hd⟩
  · rw [if_neg (by simpa using hb)]
    have hd : ((2 : Int) ^ w) ∣ x * f - 1 := by
      have e : min b w = w := by omega
      rwa [e] at hd
    exact end_rt H low_int ⟨rfl, f, rfl, f0, f1, inv_end hw0 hd⟩
end
end Pw
/-! answers and refusals -/
namespace Pw
open PySem WW Mr
theorem fx_v1 : findX xs "InvalidVector" = some ⟨"InvalidVector", none, ["InvalidVector", "WordsError", "ValueError"]⟩ := by kernel_rfl
theorem ix_v1 (f : Option (Str × D)) : isXD xs "InvalidWidth" (.exo "InvalidVector" f) = some false ∧ isXD xs "InvalidVector" (.exo "InvalidVector" f) = some true ∧ isXD xs "InvalidBasis" (.exo "InvalidVector" f) = some false := ⟨by kernel_rfl, by kernel_rfl, by kernel_rfl⟩
def lenB : D → Bool
  | .tup xs => decide (1 ≤ xs.length ∧ xs.length ≤ 40)
  | _ => false
def anyB (w : Int) (v : D) : Bool := wordsB w v && lenB v
section
variable {c : Fam} {cT : FamT} {n s B : Nat} {h : Hh} {Q : D → Hh → Prop} {X : XP}
theorem refusal_v (L : LC c cT) {tk : Thk} (H : Hok h) (ht : tk [] h = .exc ⟨"InvalidVector", none⟩ h) : cT (n + 2) "_law_refusal" tk [] h = .ok (.str "vector") h := by
  refine eq_of_wp (L.refusal.wp rfl ?_)
  unfold m_law_refusal
  simp only [w_ret, w_bad, w_var, w_c, w_dic0, w_bin, w_cmp, w_ix, w_tru, w_notV, w_andV, w_orV, w_ifE, w_notT, w_andT, w_orT, w_blT, w_chain, w_nil, w_cons, w_tup, w_lst, w_fz, w_new, w_neg, w_noP, w_P, w_sl, w_rev, w_bi, w_isT, w_call, w_list, w_listR, w_cat, w_mth, s_next, s_bad, s_break, s_cont, s_retN, s_seq, s_drop, s_ret, s_if, s_set, s_asg, g_nm, gs_nil, gs_cons, g_tp, g_sq, g_ix, s_par, s_par3, i_iter, i_zip, i_enm, i_range1, i_range2, wpO_ok, getO_some, isBl_bl, isInt_int, List.getElem?_cons_zero, List.getElem?_cons_succ, List.map_cons, List.map_nil, List.length_cons, List.length_nil, List.cons_append, List.nil_append, Nat.zero_add, Nat.reduceAdd, Nat.reduceSub, List.replicate_succ, List.replicate_zero, List.set_cons_zero, List.set_cons_succ, vw_non, vw_bl, vw_int, vw_str, vw_tup, vw_lst, vw_dic, vw_lok, Bool.not_true, Bool.not_false, Bool.false_eq_true, if_true, if_false, reduceIte, s_try]
  rw [w_act rfl]
  simp only [w_all_nil, ht, wpO_exc]
  refine ⟨lowsOk_of H lows_nil, ?_⟩
  rw [h_no fx_v1 (by decide), h_yes fx_v1 (by decide)]
  obtain ⟨i1, i2, i3⟩ := ix_v1 none
  simp only [w_ret, w_bad, w_var, w_c, w_dic0, w_bin, w_cmp, w_ix, w_tru, w_notV, w_andV, w_orV, w_ifE, w_notT, w_andT, w_orT, w_blT, w_chain, w_nil, w_cons, w_tup, w_lst, w_fz, w_new, w_neg, w_noP, w_P, w_sl, w_rev, w_bi, w_isT, w_call, w_list, w_listR, w_cat, w_mth, s_next, s_bad, s_break, s_cont, s_retN, s_seq, s_drop, s_ret, s_if, s_set, s_asg, g_nm, gs_nil, gs_cons, g_tp, g_sq, g_ix, s_par, s_par3, i_iter, i_zip, i_enm, i_range1, i_range2, wpO_ok, getO_some, isBl_bl, isInt_int, List.getElem?_cons_zero, List.getElem?_cons_succ, List.map_cons, List.map_nil, List.length_cons, List.length_nil, List.cons_append, List.nil_append, Nat.zero_add, Nat.reduceAdd, Nat.reduceSub, List.replicate_succ, List.replicate_zero, List.set_cons_zero, List.set_cons_succ, vw_non, vw_bl, vw_int, vw_str, vw_tup, vw_lst, vw_dic, vw_lok, Bool.not_true, Bool.not_false, Bool.false_eq_true, if_true, if_false, reduceIte, lSu, w_isX, i1, i2, i3, szOk_t, Nat.reduceLeDiff, true_and, tyM_list]
  refine getO_of (show fCount (.lst [.bl false, .bl true, .bl false]) [.bl true] h = some (.int 1, h) by kernel_rfl) ?_
  simp only [w_ret, w_bad, w_var, w_c, w_dic0, w_bin, w_cmp, w_ix, w_tru, w_notV, w_andV, w_orV, w_ifE, w_notT, w_andT, w_orT, w_blT, w_chain, w_nil, w_cons, w_tup, w_lst, w_fz, w_new, w_neg, w_noP, w_P, w_sl, w_rev, w_bi, w_isT, w_call, w_list, w_listR, w_cat, w_mth, s_next, s_bad, s_break, s_cont, s_retN, s_seq, s_drop, s_ret, s_if, s_set, s_asg, g_nm, gs_nil, gs_cons, g_tp, g_sq, g_ix, s_par, s_par3, i_iter, i_zip, i_enm, i_range1, i_range2, wpO_ok, getO_some, isBl_bl, isInt_int, List.getElem?_cons_zero, List.getElem?_cons_succ, List.map_cons, List.map_nil, List.length_cons, List.length_nil, List.cons_append, List.nil_append, Nat.zero_add, Nat.reduceAdd, Nat.reduceSub, List.replicate_succ, List.replicate_zero, List.set_cons_zero, List.set_cons_succ, vw_non, vw_bl, vw_int, vw_str, vw_tup, vw_lst, vw_dic, vw_lok, Bool.not_true, Bool.not_false, Bool.false_eq_true, if_true, if_false, reduceIte, cmp_ie, szOk_t, Nat.reduceLeDiff, true_and, tyM_list, decide_true]
  refine getO_of (show fIndex (.lst [.bl false, .bl true, .bl false]) [.bl true] h = some (.int 1, h) by kernel_rfl) ?_
  refine getO_of rfl ?_
  exact su_end (h := h) H low_str (end_eq (X := fun _ _ => False) H low_str rfl)
theorem is_any_b (L : L03 c cT) {w : Int} {v : D} (w0 : 0 ≤ w) (w1 : w ≤ 1000) (hv : v.lay = true) (hz : ∀ ys, v = .tup ys → ys.length ≤ 1000000) (H : Hok h) : c (n + 5) "is_any_vector" [.int w, v] h = .ok (.bl (anyB w v)) h := by
  refine eq_of_wp (L.is_any.wp rfl ?_)
  unfold m_is_any_vector
  simp only [w_ret, w_bad, w_var, w_c, w_dic0, w_bin, w_cmp, w_ix, w_tru, w_notV, w_andV, w_orV, w_ifE, w_notT, w_andT, w_orT, w_blT, w_chain, w_nil, w_cons, w_tup, w_lst, w_fz, w_new, w_neg, w_noP, w_P, w_sl, w_rev, w_bi, w_isT, w_call, w_list, w_listR, w_cat, w_mth, s_next, s_bad, s_break, s_cont, s_retN, s_seq, s_drop, s_ret, s_if, s_set, s_asg, g_nm, gs_nil, gs_cons, g_tp, g_sq, g_ix, s_par, s_par3, i_iter, i_zip, i_enm, i_range1, i_range2, wpO_ok, getO_some, isBl_bl, isInt_int, List.getElem?_cons_zero, List.getElem?_cons_succ, List.map_cons, List.map_nil, List.length_cons, List.length_nil, List.cons_append, List.nil_append, Nat.zero_add, Nat.reduceAdd, Nat.reduceSub, List.replicate_succ, List.replicate_zero, List.set_cons_zero, List.set_cons_succ, vw_non, vw_bl, vw_int, vw_str, vw_tup, vw_lst, vw_dic, vw_lok, Bool.not_true, Bool.not_false, Bool.false_eq_true, if_true, if_false, reduceIte, L.C.W.words w0 w1 hv (fun ys e => sz_of (hz ys e)) H, truD, lay_vw hv]
  cases v with
  | tup xs =>
    by_cases hw : wordsB w (.tup xs) = true
    · simp only [hw, w_ret, w_bad, w_var, w_c, w_dic0, w_bin, w_cmp, w_ix, w_tru, w_notV, w_andV, w_orV, w_ifE, w_notT, w_andT, w_orT, w_blT, w_chain, w_nil, w_cons, w_tup, w_lst, w_fz, w_new, w_neg, w_noP, w_P, w_sl, w_rev, w_bi, w_isT, w_call, w_list, w_listR, w_cat, w_mth, s_next, s_bad, s_break, s_cont, s_retN, s_seq, s_drop, s_ret, s_if, s_set, s_asg, g_nm, gs_nil, gs_cons, g_tp, g_sq, g_ix, s_par, s_par3, i_iter, i_zip, i_enm, i_range1, i_range2, wpO_ok, getO_some, isBl_bl, isInt_int, List.getElem?_cons_zero, List.getElem?_cons_succ, List.map_cons, List.map_nil, List.length_cons, List.length_nil, List.cons_append, List.nil_append, Nat.zero_add, Nat.reduceAdd, Nat.reduceSub, List.replicate_succ, List.replicate_zero, List.set_cons_zero, List.set_cons_succ, vw_non, vw_bl, vw_int, vw_str, vw_tup, vw_lst, vw_dic, vw_lok, Bool.not_true, Bool.not_false, Bool.false_eq_true, if_true, if_false, reduceIte, fLen, le_int]
      by_cases h1 : (1 : Int) ≤ (xs.length : Int)
      · simp only [h1, decide_true, w_ret, w_bad, w_var, w_c, w_dic0, w_bin, w_cmp, w_ix, w_tru, w_notV, w_andV, w_orV, w_ifE, w_notT, w_andT, w_orT, w_blT, w_chain, w_nil, w_cons, w_tup, w_lst, w_fz, w_new, w_neg, w_noP, w_P, w_sl, w_rev, w_bi, w_isT, w_call, w_list, w_listR, w_cat, w_mth, s_next, s_bad, s_break, s_cont, s_retN, s_seq, s_drop, s_ret, s_if, s_set, s_asg, g_nm, gs_nil, gs_cons, g_tp, g_sq, g_ix, s_par, s_par3, i_iter, i_zip, i_enm, i_range1, i_range2, wpO_ok, getO_some, isBl_bl, isInt_int, List.getElem?_cons_zero, List.getElem?_cons_succ, List.map_cons, List.map_nil, List.length_cons, List.length_nil, List.cons_append, List.nil_append, Nat.zero_add, Nat.reduceAdd, Nat.reduceSub, List.replicate_succ, List.replicate_zero, List.set_cons_zero, List.set_cons_succ, vw_non, vw_bl, vw_int, vw_str, vw_tup, vw_lst, vw_dic, vw_lok, Bool.not_true, Bool.not_false, Bool.false_eq_true, if_true, if_false, reduceIte]
        refine end_eq H low_bl ?_
        unfold anyB lenB
        rw [hw, Bool.true_and]
        exact congrArg D.bl (decide_eq_decide.mpr ⟨fun z => ⟨by omega, by omega⟩, fun z => by omega⟩)
      · simp only [h1, decide_false, w_ret, w_bad, w_var, w_c, w_dic0, w_bin, w_cmp, w_ix, w_tru, w_notV, w_andV, w_orV, w_ifE, w_notT, w_andT, w_orT, w_blT, w_chain, w_nil, w_cons, w_tup, w_lst, w_fz, w_new, w_neg, w_noP, w_P, w_sl, w_rev, w_bi, w_isT, w_call, w_list, w_listR, w_cat, w_mth, s_next, s_bad, s_break, s_cont, s_retN, s_seq, s_drop, s_ret, s_if, s_set, s_asg, g_nm, gs_nil, gs_cons, g_tp, g_sq, g_ix, s_par, s_par3, i_iter, i_zip, i_enm, i_range1, i_range2, wpO_ok, getO_some, isBl_bl, isInt_int, List.getElem?_cons_zero, List.getElem?_cons_succ, List.map_cons, List.map_nil, List.length_cons, List.length_nil, List.cons_append, List.nil_append, Nat.zero_add, Nat.reduceAdd, Nat.reduceSub, List.replicate_succ, List.replicate_zero, List.set_cons_zero, List.set_cons_succ, vw_non, vw_bl, vw_int, vw_str, vw_tup, vw_lst, vw_dic, vw_lok, Bool.not_true, Bool.not_false, Bool.false_eq_true, if_true, if_false, reduceIte]
        refine end_eq H low_bl ?_
        unfold anyB lenB
        rw [hw, Bool.true_and]
        show D.bl false = D.bl (decide (1 ≤ xs.length ∧ xs.length ≤ 40))
        rw [decide_eq_false fun z => h1 (by omega)]
    · have hw : wordsB w (.tup xs) = false := by simpa using hw
      simp only [hw, w_ret, w_bad, w_var, w_c, w_dic0, w_bin, w_cmp, w_ix, w_tru, w_notV, w_andV, w_orV, w_ifE, w_notT, w_andT, w_orT, w_blT, w_chain, w_nil, w_cons, w_tup, w_lst, w_fz, w_new, w_neg, w_noP, w_P, w_sl, w_rev, w_bi, w_isT, w_call, w_list, w_listR, w_cat, w_mth, s_next, s_bad, s_break, s_cont, s_retN, s_seq, s_drop, s_ret, s_if, s_set, s_asg, g_nm, gs_nil, gs_cons, g_tp, g_sq, g_ix, s_par, s_par3, i_iter, i_zip, i_enm, i_range1, i_range2, wpO_ok, getO_some, isBl_bl, isInt_int, List.getElem?_cons_zero, List.getElem?_cons_succ, List.map_cons, List.map_nil, List.length_cons, List.length_nil, List.cons_append, List.nil_append, Nat.zero_add, Nat.reduceAdd, Nat.reduceSub, List.replicate_succ, List.replicate_zero, List.set_cons_zero, List.set_cons_succ, vw_non, vw_bl, vw_int, vw_str, vw_tup, vw_lst, vw_dic, vw_lok, Bool.not_true, Bool.not_false, Bool.false_eq_true, if_true, if_false, reduceIte]
      refine end_eq H low_bl ?_
      unfold anyB
      rw [hw, Bool.false_and]
  | _ => first | (simp only [wordsB, w_ret, w_bad, w_var, w_c, w_dic0, w_bin, w_cmp, w_ix, w_tru, w_notV, w_andV, w_orV, w_ifE, w_notT, w_andT, w_orT, w_blT, w_chain, w_nil, w_cons, w_tup, w_lst, w_fz, w_new, w_neg, w_noP, w_P, w_sl, w_rev, w_bi, w_isT, w_call, w_list, w_listR, w_cat, w_mth, s_next, s_bad, s_break, s_cont, s_retN, s_seq, s_drop, s_ret, s_if, s_set, s_asg, g_nm, gs_nil, gs_cons, g_tp, g_sq, g_ix, s_par, s_par3, i_iter, i_zip, i_enm, i_range1, i_range2, wpO_ok, getO_some, isBl_bl, isInt_int, List.getElem?_cons_zero, List.getElem?_cons_succ, List.map_cons, List.map_nil, List.length_cons, List.length_nil, List.cons_append, List.nil_append, Nat.zero_add, Nat.reduceAdd, Nat.reduceSub, List.replicate_succ, List.replicate_zero, List.set_cons_zero, List.set_cons_succ, vw_non, vw_bl, vw_int, vw_str, vw_tup, vw_lst, vw_dic, vw_lok, Bool.not_true, Bool.not_false, Bool.false_eq_true, if_true, if_false, reduceIte]; exact end_eq H low_bl rfl) | (unfold D.lay at hv; cases hv)
theorem lis_any_v (L : L03 c cT) {w : Int} {v : D} (w0 : 0 ≤ w) (w1 : w ≤ 1000) (hv : v.lay = true) (hz : ∀ ys, v = .tup ys → ys.length ≤ 1000000) (H : Hok h) : c (n + 3) "_law_is_any" [.int w, v] h = .ok (.bl (anyB w v)) h := by
  refine eq_of_wp (L.lis_any.wp rfl ?_)
  unfold m_law_is_any
  obtain ⟨t, t1, t2⟩ := isTup_v hv h
  simp only [w_ret, w_bad, w_var, w_c, w_dic0, w_bin, w_cmp, w_ix, w_tru, w_notV, w_andV, w_orV, w_ifE, w_notT, w_andT, w_orT, w_blT, w_chain, w_nil, w_cons, w_tup, w_lst, w_fz, w_new, w_neg, w_noP, w_P, w_sl, w_rev, w_bi, w_isT, w_call, w_list, w_listR, w_cat, w_mth, s_next, s_bad, s_break, s_cont, s_retN, s_seq, s_drop, s_ret, s_if, s_set, s_asg, g_nm, gs_nil, gs_cons, g_tp, g_sq, g_ix, s_par, s_par3, i_iter, i_zip, i_enm, i_range1, i_range2, wpO_ok, getO_some, isBl_bl, isInt_int, List.getElem?_cons_zero, List.getElem?_cons_succ, List.map_cons, List.map_nil, List.length_cons, List.length_nil, List.cons_append, List.nil_append, Nat.zero_add, Nat.reduceAdd, Nat.reduceSub, List.replicate_succ, List.replicate_zero, List.set_cons_zero, List.set_cons_succ, vw_non, vw_bl, vw_int, vw_str, vw_tup, vw_lst, vw_dic, vw_lok, Bool.not_true, Bool.not_false, Bool.false_eq_true, if_true, if_false, reduceIte, t1, t2, truD]
  cases v with
  | tup xs =>
    have lv := lis_vector_v (n := n) L.C (k := (xs.length : Int)) w0 w1 hv hz H
    have ve : vecB w (.int (xs.length : Int)) (.tup xs) = wordsB w (.tup xs) := by
      unfold vecB
      dsimp only
      rw [decide_eq_true rfl, Bool.and_true]
    rw [ve] at lv
    simp only [tupB, w_ret, w_bad, w_var, w_c, w_dic0, w_bin, w_cmp, w_ix, w_tru, w_notV, w_andV, w_orV, w_ifE, w_notT, w_andT, w_orT, w_blT, w_chain, w_nil, w_cons, w_tup, w_lst, w_fz, w_new, w_neg, w_noP, w_P, w_sl, w_rev, w_bi, w_isT, w_call, w_list, w_listR, w_cat, w_mth, s_next, s_bad, s_break, s_cont, s_retN, s_seq, s_drop, s_ret, s_if, s_set, s_asg, g_nm, gs_nil, gs_cons, g_tp, g_sq, g_ix, s_par, s_par3, i_iter, i_zip, i_enm, i_range1, i_range2, wpO_ok, getO_some, isBl_bl, isInt_int, List.getElem?_cons_zero, List.getElem?_cons_succ, List.map_cons, List.map_nil, List.length_cons, List.length_nil, List.cons_append, List.nil_append, Nat.zero_add, Nat.reduceAdd, Nat.reduceSub, List.replicate_succ, List.replicate_zero, List.set_cons_zero, List.set_cons_succ, vw_non, vw_bl, vw_int, vw_str, vw_tup, vw_lst, vw_dic, vw_lok, Bool.not_true, Bool.not_false, Bool.false_eq_true, if_true, if_false, reduceIte, fLen, le_int, lv]
    by_cases h1 : (1 : Int) ≤ (xs.length : Int)
    · simp only [h1, decide_true, w_ret, w_bad, w_var, w_c, w_dic0, w_bin, w_cmp, w_ix, w_tru, w_notV, w_andV, w_orV, w_ifE, w_notT, w_andT, w_orT, w_blT, w_chain, w_nil, w_cons, w_tup, w_lst, w_fz, w_new, w_neg, w_noP, w_P, w_sl, w_rev, w_bi, w_isT, w_call, w_list, w_listR, w_cat, w_mth, s_next, s_bad, s_break, s_cont, s_retN, s_seq, s_drop, s_ret, s_if, s_set, s_asg, g_nm, gs_nil, gs_cons, g_tp, g_sq, g_ix, s_par, s_par3, i_iter, i_zip, i_enm, i_range1, i_range2, wpO_ok, getO_some, isBl_bl, isInt_int, List.getElem?_cons_zero, List.getElem?_cons_succ, List.map_cons, List.map_nil, List.length_cons, List.length_nil, List.cons_append, List.nil_append, Nat.zero_add, Nat.reduceAdd, Nat.reduceSub, List.replicate_succ, List.replicate_zero, List.set_cons_zero, List.set_cons_succ, vw_non, vw_bl, vw_int, vw_str, vw_tup, vw_lst, vw_dic, vw_lok, Bool.not_true, Bool.not_false, Bool.false_eq_true, if_true, if_false, reduceIte, truD]
      by_cases h2 : (xs.length : Int) ≤ 40
      · simp only [h2, decide_true, w_ret, w_bad, w_var, w_c, w_dic0, w_bin, w_cmp, w_ix, w_tru, w_notV, w_andV, w_orV, w_ifE, w_notT, w_andT, w_orT, w_blT, w_chain, w_nil, w_cons, w_tup, w_lst, w_fz, w_new, w_neg, w_noP, w_P, w_sl, w_rev, w_bi, w_isT, w_call, w_list, w_listR, w_cat, w_mth, s_next, s_bad, s_break, s_cont, s_retN, s_seq, s_drop, s_ret, s_if, s_set, s_asg, g_nm, gs_nil, gs_cons, g_tp, g_sq, g_ix, s_par, s_par3, i_iter, i_zip, i_enm, i_range1, i_range2, wpO_ok, getO_some, isBl_bl, isInt_int, List.getElem?_cons_zero, List.getElem?_cons_succ, List.map_cons, List.map_nil, List.length_cons, List.length_nil, List.cons_append, List.nil_append, Nat.zero_add, Nat.reduceAdd, Nat.reduceSub, List.replicate_succ, List.replicate_zero, List.set_cons_zero, List.set_cons_succ, vw_non, vw_bl, vw_int, vw_str, vw_tup, vw_lst, vw_dic, vw_lok, Bool.not_true, Bool.not_false, Bool.false_eq_true, if_true, if_false, reduceIte, truD]
        refine end_eq H low_bl ?_
        unfold anyB lenB
        dsimp only
        rw [decide_eq_true (by omega), Bool.and_true]
      · simp only [h2, decide_false, w_ret, w_bad, w_var, w_c, w_dic0, w_bin, w_cmp, w_ix, w_tru, w_notV, w_andV, w_orV, w_ifE, w_notT, w_andT, w_orT, w_blT, w_chain, w_nil, w_cons, w_tup, w_lst, w_fz, w_new, w_neg, w_noP, w_P, w_sl, w_rev, w_bi, w_isT, w_call, w_list, w_listR, w_cat, w_mth, s_next, s_bad, s_break, s_cont, s_retN, s_seq, s_drop, s_ret, s_if, s_set, s_asg, g_nm, gs_nil, gs_cons, g_tp, g_sq, g_ix, s_par, s_par3, i_iter, i_zip, i_enm, i_range1, i_range2, wpO_ok, getO_some, isBl_bl, isInt_int, List.getElem?_cons_zero, List.getElem?_cons_succ, List.map_cons, List.map_nil, List.length_cons, List.length_nil, List.cons_append, List.nil_append, Nat.zero_add, Nat.reduceAdd, Nat.reduceSub, List.replicate_succ, List.replicate_zero, List.set_cons_zero, List.set_cons_succ, vw_non, vw_bl, vw_int, vw_str, vw_tup, vw_lst, vw_dic, vw_lok, Bool.not_true, Bool.not_false, Bool.false_eq_true, if_true, if_false, reduceIte, truD]
        refine end_eq H low_bl ?_
        unfold anyB lenB
        dsimp only
        rw [decide_eq_false (by omega), Bool.and_false]
    · simp only [h1, decide_false, w_ret, w_bad, w_var, w_c, w_dic0, w_bin, w_cmp, w_ix, w_tru, w_notV, w_andV, w_orV, w_ifE, w_notT, w_andT, w_orT, w_blT, w_chain, w_nil, w_cons, w_tup, w_lst, w_fz, w_new, w_neg, w_noP, w_P, w_sl, w_rev, w_bi, w_isT, w_call, w_list, w_listR, w_cat, w_mth, s_next, s_bad, s_break, s_cont, s_retN, s_seq, s_drop, s_ret, s_if, s_set, s_asg, g_nm, gs_nil, gs_cons, g_tp, g_sq, g_ix, s_par, s_par3, i_iter, i_zip, i_enm, i_range1, i_range2, wpO_ok, getO_some, isBl_bl, isInt_int, List.getElem?_cons_zero, List.getElem?_cons_succ, List.map_cons, List.map_nil, List.length_cons, List.length_nil, List.cons_append, List.nil_append, Nat.zero_add, Nat.reduceAdd, Nat.reduceSub, List.replicate_succ, List.replicate_zero, List.set_cons_zero, List.set_cons_succ, vw_non, vw_bl, vw_int, vw_str, vw_tup, vw_lst, vw_dic, vw_lok, Bool.not_true, Bool.not_false, Bool.false_eq_true, if_true, if_false, reduceIte, truD]
      refine end_eq H low_bl ?_
      unfold anyB lenB
      dsimp only
      rw [decide_eq_false (by omega), Bool.and_false]
  | _ => first | (simp only [tupB, w_ret, w_bad, w_var, w_c, w_dic0, w_bin, w_cmp, w_ix, w_tru, w_notV, w_andV, w_orV, w_ifE, w_notT, w_andT, w_orT, w_blT, w_chain, w_nil, w_cons, w_tup, w_lst, w_fz, w_new, w_neg, w_noP, w_P, w_sl, w_rev, w_bi, w_isT, w_call, w_list, w_listR, w_cat, w_mth, s_next, s_bad, s_break, s_cont, s_retN, s_seq, s_drop, s_ret, s_if, s_set, s_asg, g_nm, gs_nil, gs_cons, g_tp, g_sq, g_ix, s_par, s_par3, i_iter, i_zip, i_enm, i_range1, i_range2, wpO_ok, getO_some, isBl_bl, isInt_int, List.getElem?_cons_zero, List.getElem?_cons_succ, List.map_cons, List.map_nil, List.length_cons, List.length_nil, List.cons_append, List.nil_append, Nat.zero_add, Nat.reduceAdd, Nat.reduceSub, List.replicate_succ, List.replicate_zero, List.set_cons_zero, List.set_cons_succ, vw_non, vw_bl, vw_int, vw_str, vw_tup, vw_lst, vw_dic, vw_lok, Bool.not_true, Bool.not_false, Bool.false_eq_true, if_true, if_false, reduceIte]; exact end_eq H low_bl rfl) | (unfold D.lay at hv; cases hv)
theorem word_level_v (L : L03 c cT) {w : Nat} {x : Int} (hw0 : 1 ≤ w) (hw : w ≤ 16) (h0 : 0 ≤ x) (h1 : x < 2 ^ w) (H : Hok h) : ∃ l : Nat, Lev w x l ∧ c (n + 5) "word_level" [.int w, .int x] h = .ok (.int l) h := by
  obtain ⟨l, hl, e⟩ := level_of_v (n := n + 3) L hw h0 h1 H
  refine ⟨l, hl, eq_of_wp (L.word_level.wp rfl ?_)⟩
  unfold m_word_level
  simp only [w_ret, w_bad, w_var, w_c, w_dic0, w_bin, w_cmp, w_ix, w_tru, w_notV, w_andV, w_orV, w_ifE, w_notT, w_andT, w_orT, w_blT, w_chain, w_nil, w_cons, w_tup, w_lst, w_fz, w_new, w_neg, w_noP, w_P, w_sl, w_rev, w_bi, w_isT, w_call, w_list, w_listR, w_cat, w_mth, s_next, s_bad, s_break, s_cont, s_retN, s_seq, s_drop, s_ret, s_if, s_set, s_asg, g_nm, gs_nil, gs_cons, g_tp, g_sq, g_ix, s_par, s_par3, i_iter, i_zip, i_enm, i_range1, i_range2, wpO_ok, getO_some, isBl_bl, isInt_int, List.getElem?_cons_zero, List.getElem?_cons_succ, List.map_cons, List.map_nil, List.length_cons, List.length_nil, List.cons_append, List.nil_append, Nat.zero_add, Nat.reduceAdd, Nat.reduceSub, List.replicate_succ, List.replicate_zero, List.set_cons_zero, List.set_cons_succ, vw_non, vw_bl, vw_int, vw_str, vw_tup, vw_lst, vw_dic, vw_lok, Bool.not_true, Bool.not_false, Bool.false_eq_true, if_true, if_false, reduceIte, require_width_v L.C.W L.C.require_width (show (1 : Int) ≤ (w : Int) by omega) (show (w : Int) ≤ 16 by omega) H, require_word_v (n := n) L.C.W L.require_word (show (0 : Int) ≤ (w : Int) by omega) (show (w : Int) ≤ 1000 by omega) (⟨h0, by rwa [Int.toNat_natCast]⟩ : 0 ≤ x ∧ x < (2 : Int) ^ ((w : Int)).toNat) H, e]
  exact end_eq H low_int rfl
theorem word_inverse_v (L : L03 c cT) {w : Nat} {x : Int} (hw0 : 1 ≤ w) (hw : w ≤ 16) (h0 : 0 ≤ x) (h1 : x < 2 ^ w) (ho : x % 2 ≠ 0) (H : Hok h) : ∃ f : Int, 0 ≤ f ∧ f < 2 ^ w ∧ f * x % 2 ^ w = 1 ∧ c (n + 5) "word_inverse" [.int w, .int x] h = .ok (.int f) h := by
  obtain ⟨f, a, b, d, e⟩ := inverse_of_v (n := n + 2) L hw0 hw h0 h1 ho H
  refine ⟨f, a, b, d, eq_of_wp (L.word_inverse.wp rfl ?_)⟩
  unfold m_word_inverse
  have wb : wordB (w : Int) (.int x) = true := decide_eq_true ⟨h0, by rw [Int.toNat_natCast]; omega⟩
  simp only [w_ret, w_bad, w_var, w_c, w_dic0, w_bin, w_cmp, w_ix, w_tru, w_notV, w_andV, w_orV, w_ifE, w_notT, w_andT, w_orT, w_blT, w_chain, w_nil, w_cons, w_tup, w_lst, w_fz, w_new, w_neg, w_noP, w_P, w_sl, w_rev, w_bi, w_isT, w_call, w_list, w_listR, w_cat, w_mth, s_next, s_bad, s_break, s_cont, s_retN, s_seq, s_drop, s_ret, s_if, s_set, s_asg, g_nm, gs_nil, gs_cons, g_tp, g_sq, g_ix, s_par, s_par3, i_iter, i_zip, i_enm, i_range1, i_range2, wpO_ok, getO_some, isBl_bl, isInt_int, List.getElem?_cons_zero, List.getElem?_cons_succ, List.map_cons, List.map_nil, List.length_cons, List.length_nil, List.cons_append, List.nil_append, Nat.zero_add, Nat.reduceAdd, Nat.reduceSub, List.replicate_succ, List.replicate_zero, List.set_cons_zero, List.set_cons_succ, vw_non, vw_bl, vw_int, vw_str, vw_tup, vw_lst, vw_dic, vw_lok, Bool.not_true, Bool.not_false, Bool.false_eq_true, if_true, if_false, reduceIte, require_width_v L.C.W L.C.require_width (show (1 : Int) ≤ (w : Int) by omega) (show (w : Int) ≤ 16 by omega) H, L.C.W.word (n := n + 1) (show (0 : Int) ≤ (w : Int) by omega) (show (w : Int) ≤ 1000 by omega) lay_int H, wb, truD, bin_mod (show (0 : Int) < 2 by decide), cmp_ie, decide_eq_false ho, e]
  exact end_eq H low_int rfl
theorem word_inverse_xe (L : L03 c cT) {w : Nat} {x : Int} (hw0 : 1 ≤ w) (hw : w ≤ 16) (h0 : 0 ≤ x) (h1 : x < 2 ^ w) (ho : x % 2 = 0) (H : Hok h) : c (n + 5) "word_inverse" [.int w, .int x] h = .exc ⟨"InvalidNumber", some ("value", .int x)⟩ h := by
  refine eq_exc_of_wp (L.word_inverse.wp rfl ?_)
  unfold m_word_inverse
  have wb : wordB (w : Int) (.int x) = true := decide_eq_true ⟨h0, by rw [Int.toNat_natCast]; omega⟩
  simp only [w_ret, w_bad, w_var, w_c, w_dic0, w_bin, w_cmp, w_ix, w_tru, w_notV, w_andV, w_orV, w_ifE, w_notT, w_andT, w_orT, w_blT, w_chain, w_nil, w_cons, w_tup, w_lst, w_fz, w_new, w_neg, w_noP, w_P, w_sl, w_rev, w_bi, w_isT, w_call, w_list, w_listR, w_cat, w_mth, s_next, s_bad, s_break, s_cont, s_retN, s_seq, s_drop, s_ret, s_if, s_set, s_asg, g_nm, gs_nil, gs_cons, g_tp, g_sq, g_ix, s_par, s_par3, i_iter, i_zip, i_enm, i_range1, i_range2, wpO_ok, getO_some, isBl_bl, isInt_int, List.getElem?_cons_zero, List.getElem?_cons_succ, List.map_cons, List.map_nil, List.length_cons, List.length_nil, List.cons_append, List.nil_append, Nat.zero_add, Nat.reduceAdd, Nat.reduceSub, List.replicate_succ, List.replicate_zero, List.set_cons_zero, List.set_cons_succ, vw_non, vw_bl, vw_int, vw_str, vw_tup, vw_lst, vw_dic, vw_lok, Bool.not_true, Bool.not_false, Bool.false_eq_true, if_true, if_false, reduceIte, require_width_v L.C.W L.C.require_width (show (1 : Int) ≤ (w : Int) by omega) (show (w : Int) ≤ 16 by omega) H, L.C.W.word (n := n + 1) (show (0 : Int) ≤ (w : Int) by omega) (show (w : Int) ≤ 1000 by omega) lay_int H, wb, truD, bin_mod (show (0 : Int) < 2 by decide), cmp_ie, decide_eq_true ho, s_raise]
  exact end_ex H (fun f y e => by cases e; exact low_int) ⟨rfl, rfl⟩
theorem word_inverse_xb (L : L03 c cT) {w : Int} {v : D} (w0 : 1 ≤ w) (w1 : w ≤ 16) (hv : v.lay = true) (hb : wordB w v = false) (H : Hok h) : c (n + 5) "word_inverse" [.int w, v] h = .exc ⟨"InvalidNumber", some ("value", v)⟩ h := by
  refine eq_exc_of_wp (L.word_inverse.wp rfl ?_)
  unfold m_word_inverse
  simp only [w_ret, w_bad, w_var, w_c, w_dic0, w_bin, w_cmp, w_ix, w_tru, w_notV, w_andV, w_orV, w_ifE, w_notT, w_andT, w_orT, w_blT, w_chain, w_nil, w_cons, w_tup, w_lst, w_fz, w_new, w_neg, w_noP, w_P, w_sl, w_rev, w_bi, w_isT, w_call, w_list, w_listR, w_cat, w_mth, s_next, s_bad, s_break, s_cont, s_retN, s_seq, s_drop, s_ret, s_if, s_set, s_asg, g_nm, gs_nil, gs_cons, g_tp, g_sq, g_ix, s_par, s_par3, i_iter, i_zip, i_enm, i_range1, i_range2, wpO_ok, getO_some, isBl_bl, isInt_int, List.getElem?_cons_zero, List.getElem?_cons_succ, List.map_cons, List.map_nil, List.length_cons, List.length_nil, List.cons_append, List.nil_append, Nat.zero_add, Nat.reduceAdd, Nat.reduceSub, List.replicate_succ, List.replicate_zero, List.set_cons_zero, List.set_cons_succ, vw_non, vw_bl, vw_int, vw_str, vw_tup, vw_lst, vw_dic, vw_lok, Bool.not_true, Bool.not_false, Bool.false_eq_true, if_true, if_false, reduceIte, require_width_v L.C.W L.C.require_width w0 w1 H, L.C.W.word (n := n + 1) (show 0 ≤ w by omega) (show w ≤ 1000 by omega) hv H, hb, truD, s_raise]
  exact end_ex H (fun f y e => by cases e; exact lay_low hv) ⟨rfl, rfl⟩
theorem require_word_x (L : L03 c cT) {w : Int} {v : D} (w0 : 1 ≤ w) (w1 : w ≤ 16) (hv : v.lay = true) (hb : wordB w v = false) (H : Hok h) : c (n + 4) "require_word" [.int w, v] h = .exc ⟨"InvalidNumber", some ("value", v)⟩ h := by
  refine eq_exc_of_wp (L.require_word.wp rfl ?_)
  unfold m_require_word
  simp only [w_ret, w_bad, w_var, w_c, w_dic0, w_bin, w_cmp, w_ix, w_tru, w_notV, w_andV, w_orV, w_ifE, w_notT, w_andT, w_orT, w_blT, w_chain, w_nil, w_cons, w_tup, w_lst, w_fz, w_new, w_neg, w_noP, w_P, w_sl, w_rev, w_bi, w_isT, w_call, w_list, w_listR, w_cat, w_mth, s_next, s_bad, s_break, s_cont, s_retN, s_seq, s_drop, s_ret, s_if, s_set, s_asg, g_nm, gs_nil, gs_cons, g_tp, g_sq, g_ix, s_par, s_par3, i_iter, i_zip, i_enm, i_range1, i_range2, wpO_ok, getO_some, isBl_bl, isInt_int, List.getElem?_cons_zero, List.getElem?_cons_succ, List.map_cons, List.map_nil, List.length_cons, List.length_nil, List.cons_append, List.nil_append, Nat.zero_add, Nat.reduceAdd, Nat.reduceSub, List.replicate_succ, List.replicate_zero, List.set_cons_zero, List.set_cons_succ, vw_non, vw_bl, vw_int, vw_str, vw_tup, vw_lst, vw_dic, vw_lok, Bool.not_true, Bool.not_false, Bool.false_eq_true, if_true, if_false, reduceIte, L.C.W.word (n := n) (show 0 ≤ w by omega) (show w ≤ 1000 by omega) hv H, hb, truD, s_raise]
  exact end_ex H (fun f y e => by cases e; exact lay_low hv) ⟨rfl, rfl⟩
theorem require_vector_x (L : L03 c cT) {w k : Int} {v : D} (w0 : 1 ≤ w) (w1 : w ≤ 16) (hv : v.lay = true) (hz : ∀ ys, v = .tup ys → ys.length ≤ 1000000) (hb : vecB w (.int k) v = false) (H : Hok h) : c (n + 6) "require_vector" [.int w, .int k, v] h = .exc ⟨"InvalidVector", none⟩ h := by
  refine eq_exc_of_wp (L.require_vector.wp rfl ?_)
  unfold m_require_vector
  simp only [w_ret, w_bad, w_var, w_c, w_dic0, w_bin, w_cmp, w_ix, w_tru, w_notV, w_andV, w_orV, w_ifE, w_notT, w_andT, w_orT, w_blT, w_chain, w_nil, w_cons, w_tup, w_lst, w_fz, w_new, w_neg, w_noP, w_P, w_sl, w_rev, w_bi, w_isT, w_call, w_list, w_listR, w_cat, w_mth, s_next, s_bad, s_break, s_cont, s_retN, s_seq, s_drop, s_ret, s_if, s_set, s_asg, g_nm, gs_nil, gs_cons, g_tp, g_sq, g_ix, s_par, s_par3, i_iter, i_zip, i_enm, i_range1, i_range2, wpO_ok, getO_some, isBl_bl, isInt_int, List.getElem?_cons_zero, List.getElem?_cons_succ, List.map_cons, List.map_nil, List.length_cons, List.length_nil, List.cons_append, List.nil_append, Nat.zero_add, Nat.reduceAdd, Nat.reduceSub, List.replicate_succ, List.replicate_zero, List.set_cons_zero, List.set_cons_succ, vw_non, vw_bl, vw_int, vw_str, vw_tup, vw_lst, vw_dic, vw_lok, Bool.not_true, Bool.not_false, Bool.false_eq_true, if_true, if_false, reduceIte, L.C.W.vec (n := n) (show 0 ≤ w by omega) (show w ≤ 1000 by omega) hv (fun ys e => sz_of (hz ys e)) H, hb, truD, s_raise]
  exact end_ex H (fun f y e => nomatch e) ⟨rfl, rfl⟩
theorem word_level_xb (L : L03 c cT) {w : Int} {v : D} (w0 : 1 ≤ w) (w1 : w ≤ 16) (hv : v.lay = true) (hb : wordB w v = false) (H : Hok h) : c (n + 5) "word_level" [.int w, v] h = .exc ⟨"InvalidNumber", some ("value", v)⟩ h := by
  refine eq_exc_of_wp (L.word_level.wp rfl ?_)
  unfold m_word_level
  simp only [w_ret, w_bad, w_var, w_c, w_dic0, w_bin, w_cmp, w_ix, w_tru, w_notV, w_andV, w_orV, w_ifE, w_notT, w_andT, w_orT, w_blT, w_chain, w_nil, w_cons, w_tup, w_lst, w_fz, w_new, w_neg, w_noP, w_P, w_sl, w_rev, w_bi, w_isT, w_call, w_list, w_listR, w_cat, w_mth, s_next, s_bad, s_break, s_cont, s_retN, s_seq, s_drop, s_ret, s_if, s_set, s_asg, g_nm, gs_nil, gs_cons, g_tp, g_sq, g_ix, s_par, s_par3, i_iter, i_zip, i_enm, i_range1, i_range2, wpO_ok, getO_some, isBl_bl, isInt_int, List.getElem?_cons_zero, List.getElem?_cons_succ, List.map_cons, List.map_nil, List.length_cons, List.length_nil, List.cons_append, List.nil_append, Nat.zero_add, Nat.reduceAdd, Nat.reduceSub, List.replicate_succ, List.replicate_zero, List.set_cons_zero, List.set_cons_succ, vw_non, vw_bl, vw_int, vw_str, vw_tup, vw_lst, vw_dic, vw_lok, Bool.not_true, Bool.not_false, Bool.false_eq_true, if_true, if_false, reduceIte, require_width_v L.C.W L.C.require_width w0 w1 H, require_word_x (n := n) L w0 w1 hv hb H, wpO_exc]
  exact end_ex H (fun f y e => by cases e; exact lay_low hv) ⟨rfl, rfl⟩
theorem word_level_xw (L : L03 c cT) {o v : D} (ho : o.lay = true) (hb : btw o 1 16 = false) (H : Hok h) : c (n + 5) "word_level" [o, v] h = .exc ⟨"InvalidWidth", none⟩ h := by
  refine eq_exc_of_wp (L.word_level.wp rfl ?_)
  unfold m_word_level
  simp only [w_ret, w_bad, w_var, w_c, w_dic0, w_bin, w_cmp, w_ix, w_tru, w_notV, w_andV, w_orV, w_ifE, w_notT, w_andT, w_orT, w_blT, w_chain, w_nil, w_cons, w_tup, w_lst, w_fz, w_new, w_neg, w_noP, w_P, w_sl, w_rev, w_bi, w_isT, w_call, w_list, w_listR, w_cat, w_mth, s_next, s_bad, s_break, s_cont, s_retN, s_seq, s_drop, s_ret, s_if, s_set, s_asg, g_nm, gs_nil, gs_cons, g_tp, g_sq, g_ix, s_par, s_par3, i_iter, i_zip, i_enm, i_range1, i_range2, wpO_ok, getO_some, isBl_bl, isInt_int, List.getElem?_cons_zero, List.getElem?_cons_succ, List.map_cons, List.map_nil, List.length_cons, List.length_nil, List.cons_append, List.nil_append, Nat.zero_add, Nat.reduceAdd, Nat.reduceSub, List.replicate_succ, List.replicate_zero, List.set_cons_zero, List.set_cons_succ, vw_non, vw_bl, vw_int, vw_str, vw_tup, vw_lst, vw_dic, vw_lok, Bool.not_true, Bool.not_false, Bool.false_eq_true, if_true, if_false, reduceIte, require_width_x L.C ho hb H, wpO_exc]
  exact end_ex H (fun f y e => nomatch e) ⟨rfl, rfl⟩
theorem word_inverse_xw (L : L03 c cT) {o v : D} (ho : o.lay = true) (hb : btw o 1 16 = false) (H : Hok h) : c (n + 5) "word_inverse" [o, v] h = .exc ⟨"InvalidWidth", none⟩ h := by
  refine eq_exc_of_wp (L.word_inverse.wp rfl ?_)
  unfold m_word_inverse
  simp only [w_ret, w_bad, w_var, w_c, w_dic0, w_bin, w_cmp, w_ix, w_tru, w_notV, w_andV, w_orV, w_ifE, w_notT, w_andT, w_orT, w_blT, w_chain, w_nil, w_cons, w_tup, w_lst, w_fz, w_new, w_neg, w_noP, w_P, w_sl, w_rev, w_bi, w_isT, w_call, w_list, w_listR, w_cat, w_mth, s_next, s_bad, s_break, s_cont, s_retN, s_seq, s_drop, s_ret, s_if, s_set, s_asg, g_nm, gs_nil, gs_cons, g_tp, g_sq, g_ix, s_par, s_par3, i_iter, i_zip, i_enm, i_range1, i_range2, wpO_ok, getO_some, isBl_bl, isInt_int, List.getElem?_cons_zero, List.getElem?_cons_succ, List.map_cons, List.map_nil, List.length_cons, List.length_nil, List.cons_append, List.nil_append, Nat.zero_add, Nat.reduceAdd, Nat.reduceSub, List.replicate_succ, List.replicate_zero, List.set_cons_zero, List.set_cons_succ, vw_non, vw_bl, vw_int, vw_str, vw_tup, vw_lst, vw_dic, vw_lok, Bool.not_true, Bool.not_false, Bool.false_eq_true, if_true, if_false, reduceIte, require_width_x L.C ho hb H, wpO_exc]
  exact end_ex H (fun f y e => nomatch e) ⟨rfl, rfl⟩
theorem vector_multiple_xw (L : L03 c cT) {o v f : D} (ho : o.lay = true) (hb : btw o 1 16 = false) (H : Hok h) : c (n + 6) "vector_multiple" [o, v, f] h = .exc ⟨"InvalidWidth", none⟩ h := by
  refine eq_exc_of_wp (L.vector_multiple.wp rfl ?_)
  unfold m_vector_multiple
  simp only [w_ret, w_bad, w_var, w_c, w_dic0, w_bin, w_cmp, w_ix, w_tru, w_notV, w_andV, w_orV, w_ifE, w_notT, w_andT, w_orT, w_blT, w_chain, w_nil, w_cons, w_tup, w_lst, w_fz, w_new, w_neg, w_noP, w_P, w_sl, w_rev, w_bi, w_isT, w_call, w_list, w_listR, w_cat, w_mth, s_next, s_bad, s_break, s_cont, s_retN, s_seq, s_drop, s_ret, s_if, s_set, s_asg, g_nm, gs_nil, gs_cons, g_tp, g_sq, g_ix, s_par, s_par3, i_iter, i_zip, i_enm, i_range1, i_range2, wpO_ok, getO_some, isBl_bl, isInt_int, List.getElem?_cons_zero, List.getElem?_cons_succ, List.map_cons, List.map_nil, List.length_cons, List.length_nil, List.cons_append, List.nil_append, Nat.zero_add, Nat.reduceAdd, Nat.reduceSub, List.replicate_succ, List.replicate_zero, List.set_cons_zero, List.set_cons_succ, vw_non, vw_bl, vw_int, vw_str, vw_tup, vw_lst, vw_dic, vw_lok, Bool.not_true, Bool.not_false, Bool.false_eq_true, if_true, if_false, reduceIte, require_width_x L.C ho hb H, wpO_exc]
  exact end_ex H (fun f y e => nomatch e) ⟨rfl, rfl⟩
theorem vector_multiple_xv (L : L03 c cT) {w : Int} {v f : D} (w0 : 1 ≤ w) (w1 : w ≤ 16) (hv : v.lay = true) (hz : ∀ ys, v = .tup ys → ys.length ≤ 1000000) (hb : anyB w v = false) (H : Hok h) : c (n + 6) "vector_multiple" [.int w, v, f] h = .exc ⟨"InvalidVector", none⟩ h := by
  refine eq_exc_of_wp (L.vector_multiple.wp rfl ?_)
  unfold m_vector_multiple
  simp only [w_ret, w_bad, w_var, w_c, w_dic0, w_bin, w_cmp, w_ix, w_tru, w_notV, w_andV, w_orV, w_ifE, w_notT, w_andT, w_orT, w_blT, w_chain, w_nil, w_cons, w_tup, w_lst, w_fz, w_new, w_neg, w_noP, w_P, w_sl, w_rev, w_bi, w_isT, w_call, w_list, w_listR, w_cat, w_mth, s_next, s_bad, s_break, s_cont, s_retN, s_seq, s_drop, s_ret, s_if, s_set, s_asg, g_nm, gs_nil, gs_cons, g_tp, g_sq, g_ix, s_par, s_par3, i_iter, i_zip, i_enm, i_range1, i_range2, wpO_ok, getO_some, isBl_bl, isInt_int, List.getElem?_cons_zero, List.getElem?_cons_succ, List.map_cons, List.map_nil, List.length_cons, List.length_nil, List.cons_append, List.nil_append, Nat.zero_add, Nat.reduceAdd, Nat.reduceSub, List.replicate_succ, List.replicate_zero, List.set_cons_zero, List.set_cons_succ, vw_non, vw_bl, vw_int, vw_str, vw_tup, vw_lst, vw_dic, vw_lok, Bool.not_true, Bool.not_false, Bool.false_eq_true, if_true, if_false, reduceIte, require_width_v L.C.W L.C.require_width w0 w1 H, is_any_b (n := n) L (show 0 ≤ w by omega) (show w ≤ 1000 by omega) hv hz H, hb, truD, s_raise]
  exact end_ex H (fun f y e => nomatch e) ⟨rfl, rfl⟩
theorem vector_multiple_xn (L : L03 c cT) {w : Int} {v f : D} (w0 : 1 ≤ w) (w1 : w ≤ 16) (hv : v.lay = true) (hz : ∀ ys, v = .tup ys → ys.length ≤ 1000000) (hb : anyB w v = true) (hf : f.lay = true) (hfb : wordB w f = false) (H : Hok h) : c (n + 6) "vector_multiple" [.int w, v, f] h = .exc ⟨"InvalidNumber", some ("value", f)⟩ h := by
  refine eq_exc_of_wp (L.vector_multiple.wp rfl ?_)
  unfold m_vector_multiple
  simp only [w_ret, w_bad, w_var, w_c, w_dic0, w_bin, w_cmp, w_ix, w_tru, w_notV, w_andV, w_orV, w_ifE, w_notT, w_andT, w_orT, w_blT, w_chain, w_nil, w_cons, w_tup, w_lst, w_fz, w_new, w_neg, w_noP, w_P, w_sl, w_rev, w_bi, w_isT, w_call, w_list, w_listR, w_cat, w_mth, s_next, s_bad, s_break, s_cont, s_retN, s_seq, s_drop, s_ret, s_if, s_set, s_asg, g_nm, gs_nil, gs_cons, g_tp, g_sq, g_ix, s_par, s_par3, i_iter, i_zip, i_enm, i_range1, i_range2, wpO_ok, getO_some, isBl_bl, isInt_int, List.getElem?_cons_zero, List.getElem?_cons_succ, List.map_cons, List.map_nil, List.length_cons, List.length_nil, List.cons_append, List.nil_append, Nat.zero_add, Nat.reduceAdd, Nat.reduceSub, List.replicate_succ, List.replicate_zero, List.set_cons_zero, List.set_cons_succ, vw_non, vw_bl, vw_int, vw_str, vw_tup, vw_lst, vw_dic, vw_lok, Bool.not_true, Bool.not_false, Bool.false_eq_true, if_true, if_false, reduceIte, require_width_v L.C.W L.C.require_width w0 w1 H, is_any_b (n := n) L (show 0 ≤ w by omega) (show w ≤ 1000 by omega) hv hz H, hb, truD, require_word_x (n := n + 1) L w0 w1 hf hfb H, wpO_exc]
  exact end_ex H (fun f y e => by cases e; exact lay_low hf) ⟨rfl, rfl⟩
theorem dot_product_xw (L : L03 c cT) {o v f : D} (ho : o.lay = true) (hb : btw o 1 16 = false) (H : Hok h) : c (n + 6) "dot_product" [o, v, f] h = .exc ⟨"InvalidWidth", none⟩ h := by
  refine eq_exc_of_wp (L.dot_product.wp rfl ?_)
  unfold m_dot_product
  simp only [w_ret, w_bad, w_var, w_c, w_dic0, w_bin, w_cmp, w_ix, w_tru, w_notV, w_andV, w_orV, w_ifE, w_notT, w_andT, w_orT, w_blT, w_chain, w_nil, w_cons, w_tup, w_lst, w_fz, w_new, w_neg, w_noP, w_P, w_sl, w_rev, w_bi, w_isT, w_call, w_list, w_listR, w_cat, w_mth, s_next, s_bad, s_break, s_cont, s_retN, s_seq, s_drop, s_ret, s_if, s_set, s_asg, g_nm, gs_nil, gs_cons, g_tp, g_sq, g_ix, s_par, s_par3, i_iter, i_zip, i_enm, i_range1, i_range2, wpO_ok, getO_some, isBl_bl, isInt_int, List.getElem?_cons_zero, List.getElem?_cons_succ, List.map_cons, List.map_nil, List.length_cons, List.length_nil, List.cons_append, List.nil_append, Nat.zero_add, Nat.reduceAdd, Nat.reduceSub, List.replicate_succ, List.replicate_zero, List.set_cons_zero, List.set_cons_succ, vw_non, vw_bl, vw_int, vw_str, vw_tup, vw_lst, vw_dic, vw_lok, Bool.not_true, Bool.not_false, Bool.false_eq_true, if_true, if_false, reduceIte, require_width_x L.C ho hb H, wpO_exc]
  exact end_ex H (fun f y e => nomatch e) ⟨rfl, rfl⟩
theorem dot_product_xv (L : L03 c cT) {w : Int} {v f : D} (w0 : 1 ≤ w) (w1 : w ≤ 16) (hv : v.lay = true) (hz : ∀ ys, v = .tup ys → ys.length ≤ 1000000) (hb : anyB w v = false) (H : Hok h) : c (n + 6) "dot_product" [.int w, v, f] h = .exc ⟨"InvalidVector", none⟩ h := by
  refine eq_exc_of_wp (L.dot_product.wp rfl ?_)
  unfold m_dot_product
  simp only [w_ret, w_bad, w_var, w_c, w_dic0, w_bin, w_cmp, w_ix, w_tru, w_notV, w_andV, w_orV, w_ifE, w_notT, w_andT, w_orT, w_blT, w_chain, w_nil, w_cons, w_tup, w_lst, w_fz, w_new, w_neg, w_noP, w_P, w_sl, w_rev, w_bi, w_isT, w_call, w_list, w_listR, w_cat, w_mth, s_next, s_bad, s_break, s_cont, s_retN, s_seq, s_drop, s_ret, s_if, s_set, s_asg, g_nm, gs_nil, gs_cons, g_tp, g_sq, g_ix, s_par, s_par3, i_iter, i_zip, i_enm, i_range1, i_range2, wpO_ok, getO_some, isBl_bl, isInt_int, List.getElem?_cons_zero, List.getElem?_cons_succ, List.map_cons, List.map_nil, List.length_cons, List.length_nil, List.cons_append, List.nil_append, Nat.zero_add, Nat.reduceAdd, Nat.reduceSub, List.replicate_succ, List.replicate_zero, List.set_cons_zero, List.set_cons_succ, vw_non, vw_bl, vw_int, vw_str, vw_tup, vw_lst, vw_dic, vw_lok, Bool.not_true, Bool.not_false, Bool.false_eq_true, if_true, if_false, reduceIte, require_width_v L.C.W L.C.require_width w0 w1 H, is_any_b (n := n) L (show 0 ≤ w by omega) (show w ≤ 1000 by omega) hv hz H, hb, truD, s_raise]
  exact end_ex H (fun f y e => nomatch e) ⟨rfl, rfl⟩
theorem dot_product_xo (L : L03 c cT) {w : Int} {k : Nat} {ys : List D} {f : D} (w0 : 1 ≤ w) (w1 : w ≤ 16) (hv : (D.tup ys).lay = true) (hl : ys.length = k) (hk : k ≤ 40) (hb : anyB w (.tup ys) = true) (hf : f.lay = true) (hz : ∀ ys, f = .tup ys → ys.length ≤ 1000000) (hfb : vecB w (.int k) f = false) (H : Hok h) : c (n + 6) "dot_product" [.int w, .tup ys, f] h = .exc ⟨"InvalidVector", none⟩ h := by
  refine eq_exc_of_wp (L.dot_product.wp rfl ?_)
  unfold m_dot_product
  have hz0 : ∀ zs, D.tup ys = .tup zs → zs.length ≤ 1000000 := fun zs e => by cases e; omega
  simp only [w_ret, w_bad, w_var, w_c, w_dic0, w_bin, w_cmp, w_ix, w_tru, w_notV, w_andV, w_orV, w_ifE, w_notT, w_andT, w_orT, w_blT, w_chain, w_nil, w_cons, w_tup, w_lst, w_fz, w_new, w_neg, w_noP, w_P, w_sl, w_rev, w_bi, w_isT, w_call, w_list, w_listR, w_cat, w_mth, s_next, s_bad, s_break, s_cont, s_retN, s_seq, s_drop, s_ret, s_if, s_set, s_asg, g_nm, gs_nil, gs_cons, g_tp, g_sq, g_ix, s_par, s_par3, i_iter, i_zip, i_enm, i_range1, i_range2, wpO_ok, getO_some, isBl_bl, isInt_int, List.getElem?_cons_zero, List.getElem?_cons_succ, List.map_cons, List.map_nil, List.length_cons, List.length_nil, List.cons_append, List.nil_append, Nat.zero_add, Nat.reduceAdd, Nat.reduceSub, List.replicate_succ, List.replicate_zero, List.set_cons_zero, List.set_cons_succ, vw_non, vw_bl, vw_int, vw_str, vw_tup, vw_lst, vw_dic, vw_lok, Bool.not_true, Bool.not_false, Bool.false_eq_true, if_true, if_false, reduceIte, require_width_v L.C.W L.C.require_width w0 w1 H, is_any_b (n := n) L (show 0 ≤ w by omega) (show w ≤ 1000 by omega) hv hz0 H, is_any_b (n := n) L (show 0 ≤ w by omega) (show w ≤ 1000 by omega) hf hz H, hb, truD]
  by_cases ha : anyB w f = true
  · have hfl := ha
    unfold anyB at hfl
    obtain ⟨a1, a2⟩ := Bool.and_eq_true_iff.mp hfl
    cases f with
    | tup fs =>
      have hne : ¬ ((ys.length : Int) = (fs.length : Int)) := fun z => by
        unfold vecB at hfb
        rw [a1, Bool.true_and] at hfb
        have := of_decide_eq_false hfb
        omega
      simp only [ha, w_ret, w_bad, w_var, w_c, w_dic0, w_bin, w_cmp, w_ix, w_tru, w_notV, w_andV, w_orV, w_ifE, w_notT, w_andT, w_orT, w_blT, w_chain, w_nil, w_cons, w_tup, w_lst, w_fz, w_new, w_neg, w_noP, w_P, w_sl, w_rev, w_bi, w_isT, w_call, w_list, w_listR, w_cat, w_mth, s_next, s_bad, s_break, s_cont, s_retN, s_seq, s_drop, s_ret, s_if, s_set, s_asg, g_nm, gs_nil, gs_cons, g_tp, g_sq, g_ix, s_par, s_par3, i_iter, i_zip, i_enm, i_range1, i_range2, wpO_ok, getO_some, isBl_bl, isInt_int, List.getElem?_cons_zero, List.getElem?_cons_succ, List.map_cons, List.map_nil, List.length_cons, List.length_nil, List.cons_append, List.nil_append, Nat.zero_add, Nat.reduceAdd, Nat.reduceSub, List.replicate_succ, List.replicate_zero, List.set_cons_zero, List.set_cons_succ, vw_non, vw_bl, vw_int, vw_str, vw_tup, vw_lst, vw_dic, vw_lok, Bool.not_true, Bool.not_false, Bool.false_eq_true, if_true, if_false, reduceIte, fLen, cmp_in, decide_eq_false hne, s_raise]
      exact end_ex H (fun f y e => nomatch e) ⟨rfl, rfl⟩
    | _ => cases a1
  · have ha : anyB w f = false := by simpa using ha
    simp only [ha, w_ret, w_bad, w_var, w_c, w_dic0, w_bin, w_cmp, w_ix, w_tru, w_notV, w_andV, w_orV, w_ifE, w_notT, w_andT, w_orT, w_blT, w_chain, w_nil, w_cons, w_tup, w_lst, w_fz, w_new, w_neg, w_noP, w_P, w_sl, w_rev, w_bi, w_isT, w_call, w_list, w_listR, w_cat, w_mth, s_next, s_bad, s_break, s_cont, s_retN, s_seq, s_drop, s_ret, s_if, s_set, s_asg, g_nm, gs_nil, gs_cons, g_tp, g_sq, g_ix, s_par, s_par3, i_iter, i_zip, i_enm, i_range1, i_range2, wpO_ok, getO_some, isBl_bl, isInt_int, List.getElem?_cons_zero, List.getElem?_cons_succ, List.map_cons, List.map_nil, List.length_cons, List.length_nil, List.cons_append, List.nil_append, Nat.zero_add, Nat.reduceAdd, Nat.reduceSub, List.replicate_succ, List.replicate_zero, List.set_cons_zero, List.set_cons_succ, vw_non, vw_bl, vw_int, vw_str, vw_tup, vw_lst, vw_dic, vw_lok, Bool.not_true, Bool.not_false, Bool.false_eq_true, if_true, if_false, reduceIte, s_raise]
    exact end_ex H (fun f y e => nomatch e) ⟨rfl, rfl⟩
theorem vector_sum_xw (L : L03 c cT) {o k v : D} (ho : o.lay = true) (hb : btw o 1 16 = false) (H : Hok h) : c (n + 7) "vector_sum" [o, k, v] h = .exc ⟨"InvalidWidth", none⟩ h := by
  refine eq_exc_of_wp (L.vector_sum.wpV ⟨by simp, by simp⟩ ?_)
  unfold m_vector_sum
  simp only [List.take_succ_cons, List.take_zero, List.drop_succ_cons, List.drop_zero, w_ret, w_bad, w_var, w_c, w_dic0, w_bin, w_cmp, w_ix, w_tru, w_notV, w_andV, w_orV, w_ifE, w_notT, w_andT, w_orT, w_blT, w_chain, w_nil, w_cons, w_tup, w_lst, w_fz, w_new, w_neg, w_noP, w_P, w_sl, w_rev, w_bi, w_isT, w_call, w_list, w_listR, w_cat, w_mth, s_next, s_bad, s_break, s_cont, s_retN, s_seq, s_drop, s_ret, s_if, s_set, s_asg, g_nm, gs_nil, gs_cons, g_tp, g_sq, g_ix, s_par, s_par3, i_iter, i_zip, i_enm, i_range1, i_range2, wpO_ok, getO_some, isBl_bl, isInt_int, List.getElem?_cons_zero, List.getElem?_cons_succ, List.map_cons, List.map_nil, List.length_cons, List.length_nil, List.cons_append, List.nil_append, Nat.zero_add, Nat.reduceAdd, Nat.reduceSub, List.replicate_succ, List.replicate_zero, List.set_cons_zero, List.set_cons_succ, vw_non, vw_bl, vw_int, vw_str, vw_tup, vw_lst, vw_dic, vw_lok, Bool.not_true, Bool.not_false, Bool.false_eq_true, if_true, if_false, reduceIte, require_width_x L.C ho hb H, wpO_exc]
  exact end_ex H (fun f y e => nomatch e) ⟨rfl, rfl⟩
theorem vector_sum_xs (L : L03 c cT) {w : Int} {k v : D} (w0 : 1 ≤ w) (w1 : w ≤ 16) (hk : k.lay = true) (hb : btw k 1 40 = false) (H : Hok h) : c (n + 7) "vector_sum" [.int w, k, v] h = .exc ⟨"InvalidNumber", some ("value", k)⟩ h := by
  refine eq_exc_of_wp (L.vector_sum.wpV ⟨by simp, by simp⟩ ?_)
  unfold m_vector_sum
  simp only [List.take_succ_cons, List.take_zero, List.drop_succ_cons, List.drop_zero, w_ret, w_bad, w_var, w_c, w_dic0, w_bin, w_cmp, w_ix, w_tru, w_notV, w_andV, w_orV, w_ifE, w_notT, w_andT, w_orT, w_blT, w_chain, w_nil, w_cons, w_tup, w_lst, w_fz, w_new, w_neg, w_noP, w_P, w_sl, w_rev, w_bi, w_isT, w_call, w_list, w_listR, w_cat, w_mth, s_next, s_bad, s_break, s_cont, s_retN, s_seq, s_drop, s_ret, s_if, s_set, s_asg, g_nm, gs_nil, gs_cons, g_tp, g_sq, g_ix, s_par, s_par3, i_iter, i_zip, i_enm, i_range1, i_range2, wpO_ok, getO_some, isBl_bl, isInt_int, List.getElem?_cons_zero, List.getElem?_cons_succ, List.map_cons, List.map_nil, List.length_cons, List.length_nil, List.cons_append, List.nil_append, Nat.zero_add, Nat.reduceAdd, Nat.reduceSub, List.replicate_succ, List.replicate_zero, List.set_cons_zero, List.set_cons_succ, vw_non, vw_bl, vw_int, vw_str, vw_tup, vw_lst, vw_dic, vw_lok, Bool.not_true, Bool.not_false, Bool.false_eq_true, if_true, if_false, reduceIte, require_width_v L.C.W L.C.require_width w0 w1 H, require_size_x L.C hk hb H, wpO_exc]
  exact end_ex H (fun f y e => by cases e; exact lay_low hk) ⟨rfl, rfl⟩
/-- good vectors, then one that is none -/
theorem vector_sum_xv (L : L03 c cT) {w : Int} {k : Nat} {vs : List (List Int)} {v : D} (w0 : 1 ≤ w) (w1 : w ≤ 16) (k0 : 1 ≤ k) (k1 : k ≤ 40) (hvs : ∀ v ∈ vs, Wd w v ∧ v.length = k) (hn : vs.length ≤ 100) (hv : v.lay = true) (hz : ∀ ys, v = .tup ys → ys.length ≤ 1000000) (hb : vecB w (.int k) v = false) (H : Hok h) :
    c (n + 7) "vector_sum" (.int w :: .int k :: (vs.map vec ++ [v])) h = .exc ⟨"InvalidVector", none⟩ h := by
  refine eq_exc_of_wp (L.vector_sum.wpV ⟨by simp, by simp; omega⟩ ?_)
  unfold m_vector_sum
  have a0 : 0 ≤ w := by omega
  have a1 : w ≤ 1000 := by omega
  have b1 : (1 : Int) ≤ k := by omega
  have b2 : (k : Int) ≤ 40 := by omega
  simp only [List.take_succ_cons, List.take_zero, List.drop_succ_cons, List.drop_zero, w_ret, w_bad, w_var, w_c, w_dic0, w_bin, w_cmp, w_ix, w_tru, w_notV, w_andV, w_orV, w_ifE, w_notT, w_andT, w_orT, w_blT, w_chain, w_nil, w_cons, w_tup, w_lst, w_fz, w_new, w_neg, w_noP, w_P, w_sl, w_rev, w_bi, w_isT, w_call, w_list, w_listR, w_cat, w_mth, s_next, s_bad, s_break, s_cont, s_retN, s_seq, s_drop, s_ret, s_if, s_set, s_asg, g_nm, gs_nil, gs_cons, g_tp, g_sq, g_ix, s_par, s_par3, i_iter, i_zip, i_enm, i_range1, i_range2, wpO_ok, getO_some, isBl_bl, isInt_int, List.getElem?_cons_zero, List.getElem?_cons_succ, List.map_cons, List.map_nil, List.length_cons, List.length_nil, List.cons_append, List.nil_append, Nat.zero_add, Nat.reduceAdd, Nat.reduceSub, List.replicate_succ, List.replicate_zero, List.set_cons_zero, List.set_cons_succ, vw_non, vw_bl, vw_int, vw_str, vw_tup, vw_lst, vw_dic, vw_lok, Bool.not_true, Bool.not_false, Bool.false_eq_true, if_true, if_false, reduceIte, require_width_v L.C.W L.C.require_width w0 w1 H, require_size_v L.C.W L.C.is_size L.C.require_size b1 b2 H]
  refine ⟨szOk_of (by decide), getO_of (bin_rep k0 (by omega)) ?_⟩
  refine s_for (vs.map vec ++ [v]) (fun i l hh => hh = h ∧ i ≤ vs.length ∧ ∃ o, l = [some (.int w), some (.int k), some (.tup (vs.map vec ++ [v])), some (vec (sumsV w k (vs.take i))), o] ∧ (sumsV w k (vs.take i)).length = k) ?_ ?_ ?_
  · simp only [w_ret, w_bad, w_var, w_c, w_dic0, w_bin, w_cmp, w_ix, w_tru, w_notV, w_andV, w_orV, w_ifE, w_notT, w_andT, w_orT, w_blT, w_chain, w_nil, w_cons, w_tup, w_lst, w_fz, w_new, w_neg, w_noP, w_P, w_sl, w_rev, w_bi, w_isT, w_call, w_list, w_listR, w_cat, w_mth, s_next, s_bad, s_break, s_cont, s_retN, s_seq, s_drop, s_ret, s_if, s_set, s_asg, g_nm, gs_nil, gs_cons, g_tp, g_sq, g_ix, s_par, s_par3, i_iter, i_zip, i_enm, i_range1, i_range2, wpO_ok, getO_some, isBl_bl, isInt_int, List.getElem?_cons_zero, List.getElem?_cons_succ, List.map_cons, List.map_nil, List.length_cons, List.length_nil, List.cons_append, List.nil_append, Nat.zero_add, Nat.reduceAdd, Nat.reduceSub, List.replicate_succ, List.replicate_zero, List.set_cons_zero, List.set_cons_succ, vw_non, vw_bl, vw_int, vw_str, vw_tup, vw_lst, vw_dic, vw_lok, Bool.not_true, Bool.not_false, Bool.false_eq_true, if_true, if_false, reduceIte, iterO]
    refine ⟨Nat.le_refl _, ⟨trivial, Nat.zero_le _, none, rfl, ?_⟩, fun i l hh _ _ j => by rw [itAt]⟩
    show (List.replicate k (0 : Int)).length = k
    exact List.length_replicate ..
  · rintro i d l hh ed ⟨rfl, hi, o, rfl, hl⟩
    rcases Nat.lt_or_ge i vs.length with hi2 | hi2
    · rw [List.getElem?_append_left (by rw [List.length_map]; exact hi2), List.getElem?_map] at ed
      obtain ⟨y, ev, rfl⟩ := Option.map_eq_some_iff.mp ed
      obtain ⟨v1, v2⟩ := hvs y (List.mem_of_getElem? ev)
      have v3 : (y.length : Int) = k := by omega
      have v4 : y.length ≤ 1000 := by omega
      have v5 : (sumsV w k (vs.take i)).length ≤ 1000 := by omega
      simp only [w_ret, w_bad, w_var, w_c, w_dic0, w_bin, w_cmp, w_ix, w_tru, w_notV, w_andV, w_orV, w_ifE, w_notT, w_andT, w_orT, w_blT, w_chain, w_nil, w_cons, w_tup, w_lst, w_fz, w_new, w_neg, w_noP, w_P, w_sl, w_rev, w_bi, w_isT, w_call, w_list, w_listR, w_cat, w_mth, s_next, s_bad, s_break, s_cont, s_retN, s_seq, s_drop, s_ret, s_if, s_set, s_asg, g_nm, gs_nil, gs_cons, g_tp, g_sq, g_ix, s_par, s_par3, i_iter, i_zip, i_enm, i_range1, i_range2, wpO_ok, getO_some, isBl_bl, isInt_int, List.getElem?_cons_zero, List.getElem?_cons_succ, List.map_cons, List.map_nil, List.length_cons, List.length_nil, List.cons_append, List.nil_append, Nat.zero_add, Nat.reduceAdd, Nat.reduceSub, List.replicate_succ, List.replicate_zero, List.set_cons_zero, List.set_cons_succ, vw_non, vw_bl, vw_int, vw_str, vw_tup, vw_lst, vw_dic, vw_lok, Bool.not_true, Bool.not_false, Bool.false_eq_true, if_true, if_false, reduceIte, require_vector_v L.C.W L.require_vector a0 a1 v1 v3 v4 H, sum_by_v L.C.W L.sum_by a0 a1 v5 H]
      have e : sumV w (sumsV w k (vs.take i)) y = sumsV w k (vs.take (i + 1)) := by
        unfold sumsV
        rw [List.take_add_one, ev, Option.toList_some, List.foldl_append]
        rfl
      rw [e]
      refine ⟨trivial, by omega, _, rfl, ?_⟩
      rw [← e, sumV_len (by omega), hl]
    · have e : i = vs.length := by omega
      subst e
      rw [List.getElem?_append_right (by rw [List.length_map]; exact Nat.le_refl _), List.length_map, Nat.sub_self] at ed
      cases ed
      simp only [w_ret, w_bad, w_var, w_c, w_dic0, w_bin, w_cmp, w_ix, w_tru, w_notV, w_andV, w_orV, w_ifE, w_notT, w_andT, w_orT, w_blT, w_chain, w_nil, w_cons, w_tup, w_lst, w_fz, w_new, w_neg, w_noP, w_P, w_sl, w_rev, w_bi, w_isT, w_call, w_list, w_listR, w_cat, w_mth, s_next, s_bad, s_break, s_cont, s_retN, s_seq, s_drop, s_ret, s_if, s_set, s_asg, g_nm, gs_nil, gs_cons, g_tp, g_sq, g_ix, s_par, s_par3, i_iter, i_zip, i_enm, i_range1, i_range2, wpO_ok, getO_some, isBl_bl, isInt_int, List.getElem?_cons_zero, List.getElem?_cons_succ, List.map_cons, List.map_nil, List.length_cons, List.length_nil, List.cons_append, List.nil_append, Nat.zero_add, Nat.reduceAdd, Nat.reduceSub, List.replicate_succ, List.replicate_zero, List.set_cons_zero, List.set_cons_succ, vw_non, vw_bl, vw_int, vw_str, vw_tup, vw_lst, vw_dic, vw_lok, Bool.not_true, Bool.not_false, Bool.false_eq_true, if_true, if_false, reduceIte, require_vector_x (n := n) L w0 w1 hv hz hb H, wpO_exc]
      exact end_ex H (fun f y e => nomatch e) ⟨rfl, rfl⟩
  · rintro l hh ⟨_, hl, _⟩
    rw [List.length_append, List.length_map] at hl
    exact absurd (show vs.length + 1 ≤ vs.length from hl) (by omega)
end
end Pw
/-! one word judged; values that are none -/
namespace Pw
open PySem WW Mr
theorem bin_shl2 {l : Nat} (h : l ≤ 1000) : binD .LShift (.int 2) (.int (l : Int)) = some (.int (2 ^ (l + 1))) := by
  have e : (Builtin.Int.intBits 2 : Int) = 2 := by decide +kernel
  rw [bin_shl (by omega) (by rw [e]; omega), Int.toNat_natCast, Int.pow_succ, Int.mul_comm]
section
variable {c : Fam} {cT : FamT} {n s B : Nat} {h : Hh} {Q : D → Hh → Prop} {X : XP}
theorem word_right_v (L : L03 c cT) {w : Nat} {x : Int} (hw0 : 1 ≤ w) (hw : w ≤ 16) (h0 : 0 ≤ x) (h1 : x < 2 ^ w) (H : Hok h) : c (n + 8) "_law_word_right" [.int w, .int x] h = .ok (.bl true) h := by
  refine eq_of_wp (L.word_right.wp (n := n + 5) rfl ?_)
  unfold m_law_word_right
  have pp := pow_pos2 w
  have pb := pow_le16 hw
  have rx : ∀ i : Int, 0 ≤ i → i ≤ 65536 → Rp (.int i) 200 0 := fun i i0 i1 => (Vl.int (a := 131) (i := i) (by
    have : 65536 < 2 ^ 131 := by decide
    omega)).rp (by decide) (by decide)
  refine s_seqR (fun l hh => hh = h ∧ l = [some (.int w), some (.int x), some (.int 0), none]) ?_ ?_
  · simp only [w_ret, w_bad, w_var, w_c, w_dic0, w_bin, w_cmp, w_ix, w_tru, w_notV, w_andV, w_orV, w_ifE, w_notT, w_andT, w_orT, w_blT, w_chain, w_nil, w_cons, w_tup, w_lst, w_fz, w_new, w_neg, w_noP, w_P, w_sl, w_rev, w_bi, w_isT, w_call, w_list, w_listR, w_cat, w_mth, s_next, s_bad, s_break, s_cont, s_retN, s_seq, s_drop, s_ret, s_if, s_set, s_asg, g_nm, gs_nil, gs_cons, g_tp, g_sq, g_ix, s_par, s_par3, i_iter, i_zip, i_enm, i_range1, i_range2, wpO_ok, getO_some, isBl_bl, isInt_int, List.getElem?_cons_zero, List.getElem?_cons_succ, List.map_cons, List.map_nil, List.length_cons, List.length_nil, List.cons_append, List.nil_append, Nat.zero_add, Nat.reduceAdd, Nat.reduceSub, List.replicate_succ, List.replicate_zero, List.set_cons_zero, List.set_cons_succ, vw_non, vw_bl, vw_int, vw_str, vw_tup, vw_lst, vw_dic, vw_lok, Bool.not_true, Bool.not_false, Bool.false_eq_true, if_true, if_false, reduceIte]
    first | exact ⟨trivial, trivial⟩ | exact ⟨trivial, rfl⟩ | exact ⟨rfl, rfl⟩ | exact rfl | exact trivial
  rintro _ hh ⟨rfl, rfl⟩
  refine s_seqR (fun l h1 => h1 = hh ∧ ∃ k : Nat, Lev w x k ∧ l = [some (.int w), some (.int x), some (.int k), none]) ?_ ?_
  · refine s_while (fun m l h1 => h1 = hh ∧ ∃ k : Nat, l = [some (.int w), some (.int x), some (.int k), none] ∧ k ≤ w ∧ m = w - k ∧ ((2 : Int) ^ k) ∣ x) w ⟨rfl, 0, rfl, Nat.zero_le _, rfl, Int.one_dvd _⟩ ?_
    rintro m l h1 ⟨rfl, k, rfl, hk, hm, hd⟩
    simp only [w_ret, w_bad, w_var, w_c, w_dic0, w_bin, w_cmp, w_ix, w_tru, w_notV, w_andV, w_orV, w_ifE, w_notT, w_andT, w_orT, w_blT, w_chain, w_nil, w_cons, w_tup, w_lst, w_fz, w_new, w_neg, w_noP, w_P, w_sl, w_rev, w_bi, w_isT, w_call, w_list, w_listR, w_cat, w_mth, s_next, s_bad, s_break, s_cont, s_retN, s_seq, s_drop, s_ret, s_if, s_set, s_asg, g_nm, gs_nil, gs_cons, g_tp, g_sq, g_ix, s_par, s_par3, i_iter, i_zip, i_enm, i_range1, i_range2, wpO_ok, getO_some, isBl_bl, isInt_int, List.getElem?_cons_zero, List.getElem?_cons_succ, List.map_cons, List.map_nil, List.length_cons, List.length_nil, List.cons_append, List.nil_append, Nat.zero_add, Nat.reduceAdd, Nat.reduceSub, List.replicate_succ, List.replicate_zero, List.set_cons_zero, List.set_cons_succ, vw_non, vw_bl, vw_int, vw_str, vw_tup, vw_lst, vw_dic, vw_lok, Bool.not_true, Bool.not_false, Bool.false_eq_true, if_true, if_false, reduceIte, show cmpD .Lt (.int (k : Int)) (.int (w : Int)) = some (decide ((k : Int) < (w : Int))) from rfl]
    by_cases hb : (k : Int) < (w : Int)
    · rw [if_pos (decide_eq_true hb)]
      have p2 : (0 : Int) < 2 ^ (k + 1) := pow_pos2 (k + 1)
      simp only [bin_shl2 (show k ≤ 1000 by omega), getO_some, vw_int, bin_mod p2, cmp_ie, isBl_bl]
      by_cases hd2 : x % 2 ^ (k + 1) = 0
      · rw [if_pos (decide_eq_true hd2)]
        simp only [w_ret, w_bad, w_var, w_c, w_dic0, w_bin, w_cmp, w_ix, w_tru, w_notV, w_andV, w_orV, w_ifE, w_notT, w_andT, w_orT, w_blT, w_chain, w_nil, w_cons, w_tup, w_lst, w_fz, w_new, w_neg, w_noP, w_P, w_sl, w_rev, w_bi, w_isT, w_call, w_list, w_listR, w_cat, w_mth, s_next, s_bad, s_break, s_cont, s_retN, s_seq, s_drop, s_ret, s_if, s_set, s_asg, g_nm, gs_nil, gs_cons, g_tp, g_sq, g_ix, s_par, s_par3, i_iter, i_zip, i_enm, i_range1, i_range2, wpO_ok, getO_some, isBl_bl, isInt_int, List.getElem?_cons_zero, List.getElem?_cons_succ, List.map_cons, List.map_nil, List.length_cons, List.length_nil, List.cons_append, List.nil_append, Nat.zero_add, Nat.reduceAdd, Nat.reduceSub, List.replicate_succ, List.replicate_zero, List.set_cons_zero, List.set_cons_succ, vw_non, vw_bl, vw_int, vw_str, vw_tup, vw_lst, vw_dic, vw_lok, Bool.not_true, Bool.not_false, Bool.false_eq_true, if_true, if_false, reduceIte, bin_add]
        exact ⟨w - (k + 1), by omega, trivial, k + 1, rfl, by omega, rfl, dvd_iff.mp hd2⟩
      · rw [if_neg (by simpa using hd2)]
        exact ⟨trivial, k, ⟨hk, hd, .inr fun z => hd2 (dvd_iff.mpr z)⟩, rfl⟩
    · rw [if_neg (by simpa using hb)]
      exact ⟨trivial, k, ⟨hk, hd, .inl (by omega)⟩, rfl⟩
  · rintro _ h1 ⟨rfl, k, hl, rfl⟩
    have hk := hl.le
    obtain ⟨l2, hl2, e2⟩ := word_level_v (n := n + 2) L hw0 hw h0 ‹x < 2 ^ w› H
    obtain rfl := hl.uniq hl2
    have r2 := fRepr_of (rx k (by omega) (by omega)) (by decide) (by decide)
    have r1 := fRepr_of (rx x h0 (by omega)) (by decide) (by decide)
    simp only [w_ret, w_bad, w_var, w_c, w_dic0, w_bin, w_cmp, w_ix, w_tru, w_notV, w_andV, w_orV, w_ifE, w_notT, w_andT, w_orT, w_blT, w_chain, w_nil, w_cons, w_tup, w_lst, w_fz, w_new, w_neg, w_noP, w_P, w_sl, w_rev, w_bi, w_isT, w_call, w_list, w_listR, w_cat, w_mth, s_next, s_bad, s_break, s_cont, s_retN, s_seq, s_drop, s_ret, s_if, s_set, s_asg, g_nm, gs_nil, gs_cons, g_tp, g_sq, g_ix, s_par, s_par3, i_iter, i_zip, i_enm, i_range1, i_range2, wpO_ok, getO_some, isBl_bl, isInt_int, List.getElem?_cons_zero, List.getElem?_cons_succ, List.map_cons, List.map_nil, List.length_cons, List.length_nil, List.cons_append, List.nil_append, Nat.zero_add, Nat.reduceAdd, Nat.reduceSub, List.replicate_succ, List.replicate_zero, List.set_cons_zero, List.set_cons_succ, vw_non, vw_bl, vw_int, vw_str, vw_tup, vw_lst, vw_dic, vw_lok, Bool.not_true, Bool.not_false, Bool.false_eq_true, if_true, if_false, reduceIte, e2, r2, cmp_str, decide_true, bin_mod (show (0 : Int) < 2 by decide), cmp_ie]
    by_cases ho : x % 2 = 0
    · rw [if_pos (decide_eq_true ho)]
      refine lam_w H (refusal_n (n := n + 5) L.C H (word_inverse_xe (n := n) L hw0 hw h0 ‹x < 2 ^ w› ho H) (rx x h0 (by omega)) (by decide) (by decide)) low_str ?_
      refine getO_of r1 ?_
      refine getO_of (add_str (by have := (rx x h0 (by omega)).len
                                  have : (Str.ofString "number ").length = 7 := by decide
                                  omega)) ?_
      refine getO_of (cmp_str _ _).2 ?_
      rw [decide_eq_true rfl]
      exact end_eq H low_bl rfl
    · rw [if_neg (by simpa using ho)]
      obtain ⟨f, f0, f1, fe, e3⟩ := word_inverse_v (n := n + 2) L hw0 hw h0 ‹x < 2 ^ w› ho H
      have wb : wordB (w : Int) (.int f) = true := decide_eq_true ⟨f0, by rw [Int.toNat_natCast]; omega⟩
      have m1 : mulOk f x = true := mul_ok (m := 17) (n := 17) (abs_lt f0 (by omega)) (abs_lt h0 (by omega)) (by decide)
      simp only [w_ret, w_bad, w_var, w_c, w_dic0, w_bin, w_cmp, w_ix, w_tru, w_notV, w_andV, w_orV, w_ifE, w_notT, w_andT, w_orT, w_blT, w_chain, w_nil, w_cons, w_tup, w_lst, w_fz, w_new, w_neg, w_noP, w_P, w_sl, w_rev, w_bi, w_isT, w_call, w_list, w_listR, w_cat, w_mth, s_next, s_bad, s_break, s_cont, s_retN, s_seq, s_drop, s_ret, s_if, s_set, s_asg, g_nm, gs_nil, gs_cons, g_tp, g_sq, g_ix, s_par, s_par3, i_iter, i_zip, i_enm, i_range1, i_range2, wpO_ok, getO_some, isBl_bl, isInt_int, List.getElem?_cons_zero, List.getElem?_cons_succ, List.map_cons, List.map_nil, List.length_cons, List.length_nil, List.cons_append, List.nil_append, Nat.zero_add, Nat.reduceAdd, Nat.reduceSub, List.replicate_succ, List.replicate_zero, List.set_cons_zero, List.set_cons_succ, vw_non, vw_bl, vw_int, vw_str, vw_tup, vw_lst, vw_dic, vw_lok, Bool.not_true, Bool.not_false, Bool.false_eq_true, if_true, if_false, reduceIte, e3, lis_word_v (n := n + 6) L.C (show (0 : Int) ≤ (w : Int) by omega) (show (w : Int) ≤ 1000 by omega) lay_int H, wb, truD, bin_mul m1, bin_shl1 (show (0 : Int) ≤ (w : Int) by omega) (show (w : Int) ≤ 1000 by omega), Int.toNat_natCast, bin_mod pp, cmp_ie, fe, decide_true]
      exact end_eq H low_bl rfl
theorem lamW (L : LC c cT) {w : Int} (w0 : 0 ≤ w) (w1 : w ≤ 1000) {v x : D} (hv : v.lay = true) (H : Hok h) :
    lamD 1 [some x, some (.int w)] (mCall (c (n + 1) "_law_is_word") (mCons (mVar 1) (mCons (mVar 2) mNil))) [v] h = .ok (.bl (wordB w v)) h := by
  refine eq_of_wpA ?_
  rw [w_lamD (n := 1) (ds := [v]) rfl]
  simp only [w_ret, w_bad, w_var, w_c, w_dic0, w_bin, w_cmp, w_ix, w_tru, w_notV, w_andV, w_orV, w_ifE, w_notT, w_andT, w_orT, w_blT, w_chain, w_nil, w_cons, w_tup, w_lst, w_fz, w_new, w_neg, w_noP, w_P, w_sl, w_rev, w_bi, w_isT, w_call, w_list, w_listR, w_cat, w_mth, s_next, s_bad, s_break, s_cont, s_retN, s_seq, s_drop, s_ret, s_if, s_set, s_asg, g_nm, gs_nil, gs_cons, g_tp, g_sq, g_ix, s_par, s_par3, i_iter, i_zip, i_enm, i_range1, i_range2, wpO_ok, getO_some, isBl_bl, isInt_int, List.getElem?_cons_zero, List.getElem?_cons_succ, List.map_cons, List.map_nil, List.length_cons, List.length_nil, List.cons_append, List.nil_append, Nat.zero_add, Nat.reduceAdd, Nat.reduceSub, List.replicate_succ, List.replicate_zero, List.set_cons_zero, List.set_cons_succ, vw_non, vw_bl, vw_int, vw_str, vw_tup, vw_lst, vw_dic, vw_lok, Bool.not_true, Bool.not_false, Bool.false_eq_true, if_true, if_false, reduceIte, lis_word_v L w0 w1 hv H]
  first | exact ⟨rfl, rfl⟩ | exact ⟨trivial, trivial⟩ | exact trivial
theorem bad_word_w (L : L03 c cT) (H : Hok h) (S : St s B h) (hB : B + 41 ≤ 2 ^ 60) {w : Int} (w0 : 0 ≤ w) (w1 : w ≤ 1000) (q : ∀ v h', Ot v → wordB w v = false → Ch s (B + 41) h h' → Q v h') : wpO (c (n + 5) "_law_bad_word" [.ref s, .int w] h) Q X := by
  refine L.bad_word.wp (n := n + 2) rfl ?_
  unfold m_law_bad_word
  have hs := S.lt
  simp only [w_ret, w_bad, w_var, w_c, w_dic0, w_bin, w_cmp, w_ix, w_tru, w_notV, w_andV, w_orV, w_ifE, w_notT, w_andT, w_orT, w_blT, w_chain, w_nil, w_cons, w_tup, w_lst, w_fz, w_new, w_neg, w_noP, w_P, w_sl, w_rev, w_bi, w_isT, w_call, w_list, w_listR, w_cat, w_mth, s_next, s_bad, s_break, s_cont, s_retN, s_seq, s_drop, s_ret, s_if, s_set, s_asg, g_nm, gs_nil, gs_cons, g_tp, g_sq, g_ix, s_par, s_par3, i_iter, i_zip, i_enm, i_range1, i_range2, wpO_ok, getO_some, isBl_bl, isInt_int, List.getElem?_cons_zero, List.getElem?_cons_succ, List.map_cons, List.map_nil, List.length_cons, List.length_nil, List.cons_append, List.nil_append, Nat.zero_add, Nat.reduceAdd, Nat.reduceSub, List.replicate_succ, List.replicate_zero, List.set_cons_zero, List.set_cons_succ, vw_non, vw_bl, vw_int, vw_str, vw_tup, vw_lst, vw_dic, vw_lok, Bool.not_true, Bool.not_false, Bool.false_eq_true, if_true, if_false, reduceIte, w_lam, w_all_cons, w_all_nil]
  refine bad_w (n := n) L.C (G := fun v => wordB w v) rfl (fun v hh hv Hh => lamW (n := n + 1) L.C w0 w1 hv Hh) H S hB fun v h' hv hb ch => ?_
  have lv := lay_low (hv.v.rp (by decide) (by decide)).lay
  exact ⟨lowsOk_one (ch.ok H) lv, end_ch H ch lv (q v h' hv hb ch)⟩
/-- a row as a value -/
theorem vec_vl40 {w : Int} {ys : List Int} (h : Wd w ys) (w1 : w ≤ 16) (hl : ys.length ≤ 40) : Vl 131 1 8005 (vec ys) := by
  have z : Vs 131 0 ((ys.map D.int).length * 200) (ys.map D.int) := Vs.all fun x hx => by
    obtain ⟨y, hy, rfl⟩ := List.mem_map.mp hx
    have pb := pow_le16 (a := w.toNat) (by omega)
    have := h y hy
    exact Vl.int (Nat.lt_of_lt_of_le (abs_lt (m := 17) this.1 (by omega)) (Nat.pow_le_pow_right (by decide) (by decide)))
  exact z.tup.le (by omega) (by rw [List.length_map]; omega)
theorem bad_vector_w (L : L03 c cT) (H : Hok h) (S : St s B h) {w : Int} {k : Nat} (hB : B + 1000 ≤ 2 ^ 60) (w0 : 1 ≤ w) (w1 : w ≤ 16) (k0 : 1 ≤ k) (k1 : k ≤ 40) (q : ∀ v h', Vl 132 3 20000 v → vecB w (.int k) v = false → Ch s (B + 200) h h' → Q v h') : wpO (c (n + 6) "_law_bad_vector" [.ref s, .int w, .int k] h) Q X := by
  refine L.bad_vector.wp rfl ?_
  unfold m_law_bad_vector
  have hs := S.lt
  simp only [w_ret, w_bad, w_var, w_c, w_dic0, w_bin, w_cmp, w_ix, w_tru, w_notV, w_andV, w_orV, w_ifE, w_notT, w_andT, w_orT, w_blT, w_chain, w_nil, w_cons, w_tup, w_lst, w_fz, w_new, w_neg, w_noP, w_P, w_sl, w_rev, w_bi, w_isT, w_call, w_list, w_listR, w_cat, w_mth, s_next, s_bad, s_break, s_cont, s_retN, s_seq, s_drop, s_ret, s_if, s_set, s_asg, g_nm, gs_nil, gs_cons, g_tp, g_sq, g_ix, s_par, s_par3, i_iter, i_zip, i_enm, i_range1, i_range2, wpO_ok, getO_some, isBl_bl, isInt_int, List.getElem?_cons_zero, List.getElem?_cons_succ, List.map_cons, List.map_nil, List.length_cons, List.length_nil, List.cons_append, List.nil_append, Nat.zero_add, Nat.reduceAdd, Nat.reduceSub, List.replicate_succ, List.replicate_zero, List.set_cons_zero, List.set_cons_succ, vw_non, vw_bl, vw_int, vw_str, vw_tup, vw_lst, vw_dic, vw_lok, Bool.not_true, Bool.not_false, Bool.false_eq_true, if_true, if_false, reduceIte]
  refine row_w L.C.draw L.C.row H S (by omega) w0 (by omega) (by omega) fun ys h1 hl hy ch1 => ?_
  have ch1 := ch1.mono (B' := B + 80) (by omega)
  have y131 : ∀ y ∈ ys, y.natAbs < 2 ^ 131 := fun y hy2 => by
    have pb := pow_le16 (a := w.toNat) (by omega)
    have := hy y hy2
    have : 65536 < 2 ^ 131 := by decide
    omega
  have hne : ys ≠ [] := fun e => by rw [e] at hl; simp at hl; omega
  refine bent1_w (n := n) L.C (ch1.ok H) (ch1.st hs) (by omega) hne y131 (by omega) fun v h2 hv ch2 => ?_
  have c2 := ch1.trans ch2
  have a0 : 0 ≤ w := by omega
  have a1 : w ≤ 1000 := by omega
  have short : ∀ {v : D}, Vl 132 3 20000 v → ∀ ys, v = .tup ys → ys.length ≤ 1000000 := fun hv ys e => (hv.short (by decide) ys e).1
  refine s_for (WW.intsFrom 0 1 20) (fun i l hh => Ch s (B + 85 + 5 * i) h hh ∧ ∃ v o, Vl 132 3 20000 v ∧ l = [some (.ref s), some (.int w), some (.int k), some (vec ys), some v, o]) ?_ ?_ ?_
  · simp only [w_ret, w_bad, w_var, w_c, w_dic0, w_bin, w_cmp, w_ix, w_tru, w_notV, w_andV, w_orV, w_ifE, w_notT, w_andT, w_orT, w_blT, w_chain, w_nil, w_cons, w_tup, w_lst, w_fz, w_new, w_neg, w_noP, w_P, w_sl, w_rev, w_bi, w_isT, w_call, w_list, w_listR, w_cat, w_mth, s_next, s_bad, s_break, s_cont, s_retN, s_seq, s_drop, s_ret, s_if, s_set, s_asg, g_nm, gs_nil, gs_cons, g_tp, g_sq, g_ix, s_par, s_par3, i_iter, i_zip, i_enm, i_range1, i_range2, wpO_ok, getO_some, isBl_bl, isInt_int, List.getElem?_cons_zero, List.getElem?_cons_succ, List.map_cons, List.map_nil, List.length_cons, List.length_nil, List.cons_append, List.nil_append, Nat.zero_add, Nat.reduceAdd, Nat.reduceSub, List.replicate_succ, List.replicate_zero, List.set_cons_zero, List.set_cons_succ, vw_non, vw_bl, vw_int, vw_str, vw_tup, vw_lst, vw_dic, vw_lok, Bool.not_true, Bool.not_false, Bool.false_eq_true, if_true, if_false, reduceIte, oneI_int]
    exact ⟨rngB_nat (k := 20) (by decide), by rw [itLen]; exact Nat.le_refl _, ⟨c2.mono (by omega), v, none, hv, rfl⟩, fun i l hx _ _ j => by rw [itAt]; rfl⟩
  · rintro i d l hh ed ⟨ch, v, o, hv, rfl⟩
    obtain ⟨hi, rfl⟩ := intsFrom_ix ed
    have rv := hv.rp (by decide) (by decide)
    have Hh := ch.ok H
    simp only [w_ret, w_bad, w_var, w_c, w_dic0, w_bin, w_cmp, w_ix, w_tru, w_notV, w_andV, w_orV, w_ifE, w_notT, w_andT, w_orT, w_blT, w_chain, w_nil, w_cons, w_tup, w_lst, w_fz, w_new, w_neg, w_noP, w_P, w_sl, w_rev, w_bi, w_isT, w_call, w_list, w_listR, w_cat, w_mth, s_next, s_bad, s_break, s_cont, s_retN, s_seq, s_drop, s_ret, s_if, s_set, s_asg, g_nm, gs_nil, gs_cons, g_tp, g_sq, g_ix, s_par, s_par3, i_iter, i_zip, i_enm, i_range1, i_range2, wpO_ok, getO_some, isBl_bl, isInt_int, List.getElem?_cons_zero, List.getElem?_cons_succ, List.map_cons, List.map_nil, List.length_cons, List.length_nil, List.cons_append, List.nil_append, Nat.zero_add, Nat.reduceAdd, Nat.reduceSub, List.replicate_succ, List.replicate_zero, List.set_cons_zero, List.set_cons_succ, vw_non, vw_bl, vw_int, vw_str, vw_tup, vw_lst, vw_dic, vw_lok, Bool.not_true, Bool.not_false, Bool.false_eq_true, if_true, if_false, reduceIte, lis_vector_v (n := n + 3) L.C a0 a1 rv.lay (short hv) Hh, truD]
    by_cases g : vecB w (.int k) v = true
    · rw [if_pos g]
      try simp only [w_ret, w_bad, w_var, w_c, w_dic0, w_bin, w_cmp, w_ix, w_tru, w_notV, w_andV, w_orV, w_ifE, w_notT, w_andT, w_orT, w_blT, w_chain, w_nil, w_cons, w_tup, w_lst, w_fz, w_new, w_neg, w_noP, w_P, w_sl, w_rev, w_bi, w_isT, w_call, w_list, w_listR, w_cat, w_mth, s_next, s_bad, s_break, s_cont, s_retN, s_seq, s_drop, s_ret, s_if, s_set, s_asg, g_nm, gs_nil, gs_cons, g_tp, g_sq, g_ix, s_par, s_par3, i_iter, i_zip, i_enm, i_range1, i_range2, wpO_ok, getO_some, isBl_bl, isInt_int, List.getElem?_cons_zero, List.getElem?_cons_succ, List.map_cons, List.map_nil, List.length_cons, List.length_nil, List.cons_append, List.nil_append, Nat.zero_add, Nat.reduceAdd, Nat.reduceSub, List.replicate_succ, List.replicate_zero, List.set_cons_zero, List.set_cons_succ, vw_non, vw_bl, vw_int, vw_str, vw_tup, vw_lst, vw_dic, vw_lok, Bool.not_true, Bool.not_false, Bool.false_eq_true, if_true, if_false, reduceIte]
      refine bent1_w (n := n) L.C Hh (ch.st hs) (by omega) hne y131 (by omega) fun v2 h3 hv2 ch3 => ?_
      exact ⟨(ch.trans ch3).mono (by omega), v2, _, hv2, rfl⟩
    · rw [if_neg g]
      try simp only [w_ret, w_bad, w_var, w_c, w_dic0, w_bin, w_cmp, w_ix, w_tru, w_notV, w_andV, w_orV, w_ifE, w_notT, w_andT, w_orT, w_blT, w_chain, w_nil, w_cons, w_tup, w_lst, w_fz, w_new, w_neg, w_noP, w_P, w_sl, w_rev, w_bi, w_isT, w_call, w_list, w_listR, w_cat, w_mth, s_next, s_bad, s_break, s_cont, s_retN, s_seq, s_drop, s_ret, s_if, s_set, s_asg, g_nm, gs_nil, gs_cons, g_tp, g_sq, g_ix, s_par, s_par3, i_iter, i_zip, i_enm, i_range1, i_range2, wpO_ok, getO_some, isBl_bl, isInt_int, List.getElem?_cons_zero, List.getElem?_cons_succ, List.map_cons, List.map_nil, List.length_cons, List.length_nil, List.cons_append, List.nil_append, Nat.zero_add, Nat.reduceAdd, Nat.reduceSub, List.replicate_succ, List.replicate_zero, List.set_cons_zero, List.set_cons_succ, vw_non, vw_bl, vw_int, vw_str, vw_tup, vw_lst, vw_dic, vw_lok, Bool.not_true, Bool.not_false, Bool.false_eq_true, if_true, if_false, reduceIte]
      exact ⟨ch.mono (by omega), v, _, hv, rfl⟩
  · rintro l hh ⟨ch, v, o, hv, rfl⟩
    have ch : Ch s (B + 200) h hh := ch.mono (by rw [intsFrom_length]; omega)
    have rv := hv.rp (by decide) (by decide)
    have Hh := ch.ok H
    have sq1 : ∀ P : List D → Prop, seqO (vec ys) P = P (ys.map D.int) := fun P => seqO_t
    have vt : ∀ h, vw h (vec ys) = vec ys := fun h => rfl
    simp only [w_ret, w_bad, w_var, w_c, w_dic0, w_bin, w_cmp, w_ix, w_tru, w_notV, w_andV, w_orV, w_ifE, w_notT, w_andT, w_orT, w_blT, w_chain, w_nil, w_cons, w_tup, w_lst, w_fz, w_new, w_neg, w_noP, w_P, w_sl, w_rev, w_bi, w_isT, w_call, w_list, w_listR, w_cat, w_mth, s_next, s_bad, s_break, s_cont, s_retN, s_seq, s_drop, s_ret, s_if, s_set, s_asg, g_nm, gs_nil, gs_cons, g_tp, g_sq, g_ix, s_par, s_par3, i_iter, i_zip, i_enm, i_range1, i_range2, wpO_ok, getO_some, isBl_bl, isInt_int, List.getElem?_cons_zero, List.getElem?_cons_succ, List.map_cons, List.map_nil, List.length_cons, List.length_nil, List.cons_append, List.nil_append, Nat.zero_add, Nat.reduceAdd, Nat.reduceSub, List.replicate_succ, List.replicate_zero, List.set_cons_zero, List.set_cons_succ, vw_non, vw_bl, vw_int, vw_str, vw_tup, vw_lst, vw_dic, vw_lok, Bool.not_true, Bool.not_false, Bool.false_eq_true, if_true, if_false, reduceIte, lis_vector_v (n := n + 3) L.C a0 a1 rv.lay (short hv) Hh, truD, sq1, vt]
    by_cases g : vecB w (.int k) v = true
    · rw [g]
      simp only [w_ret, w_bad, w_var, w_c, w_dic0, w_bin, w_cmp, w_ix, w_tru, w_notV, w_andV, w_orV, w_ifE, w_notT, w_andT, w_orT, w_blT, w_chain, w_nil, w_cons, w_tup, w_lst, w_fz, w_new, w_neg, w_noP, w_P, w_sl, w_rev, w_bi, w_isT, w_call, w_list, w_listR, w_cat, w_mth, s_next, s_bad, s_break, s_cont, s_retN, s_seq, s_drop, s_ret, s_if, s_set, s_asg, g_nm, gs_nil, gs_cons, g_tp, g_sq, g_ix, s_par, s_par3, i_iter, i_zip, i_enm, i_range1, i_range2, wpO_ok, getO_some, isBl_bl, isInt_int, List.getElem?_cons_zero, List.getElem?_cons_succ, List.map_cons, List.map_nil, List.length_cons, List.length_nil, List.cons_append, List.nil_append, Nat.zero_add, Nat.reduceAdd, Nat.reduceSub, List.replicate_succ, List.replicate_zero, List.set_cons_zero, List.set_cons_succ, vw_non, vw_bl, vw_int, vw_str, vw_tup, vw_lst, vw_dic, vw_lok, Bool.not_true, Bool.not_false, Bool.false_eq_true, if_true, if_false, reduceIte]
      obtain ⟨u, _⟩ := (vec_vl40 hy w1 (by omega)).tups
      have vl : Vl 132 3 20000 (.lst (ys.map D.int)) := (u.lst.up (by decide)).le (by decide) (by decide)
      exact end_ch H ch (vl.low (by decide) (by decide)) (q _ hh vl rfl ch)
    · have g : vecB w (.int k) v = false := by simpa using g
      rw [g]
      simp only [w_ret, w_bad, w_var, w_c, w_dic0, w_bin, w_cmp, w_ix, w_tru, w_notV, w_andV, w_orV, w_ifE, w_notT, w_andT, w_orT, w_blT, w_chain, w_nil, w_cons, w_tup, w_lst, w_fz, w_new, w_neg, w_noP, w_P, w_sl, w_rev, w_bi, w_isT, w_call, w_list, w_listR, w_cat, w_mth, s_next, s_bad, s_break, s_cont, s_retN, s_seq, s_drop, s_ret, s_if, s_set, s_asg, g_nm, gs_nil, gs_cons, g_tp, g_sq, g_ix, s_par, s_par3, i_iter, i_zip, i_enm, i_range1, i_range2, wpO_ok, getO_some, isBl_bl, isInt_int, List.getElem?_cons_zero, List.getElem?_cons_succ, List.map_cons, List.map_nil, List.length_cons, List.length_nil, List.cons_append, List.nil_append, Nat.zero_add, Nat.reduceAdd, Nat.reduceSub, List.replicate_succ, List.replicate_zero, List.set_cons_zero, List.set_cons_succ, vw_non, vw_bl, vw_int, vw_str, vw_tup, vw_lst, vw_dic, vw_lok, Bool.not_true, Bool.not_false, Bool.false_eq_true, if_true, if_false, reduceIte]
      exact end_ch H ch (lay_low rv.lay) (q v hh hv g ch)
end
end Pw
/-! errors right -/
namespace Pw
open PySem WW Mr
theorem rep2 {a b : D} : binD .Mult (.lst [a, b]) (.int 2) = some (.lst [a, b, a, b]) := by kernel_rfl
theorem canv : PyData.canLay0 (.str "vector") = true := by decide +kernel
theorem canw : PyData.canLay0 (.str "width") = true := by decide +kernel
section
variable {c : Fam} {cT : FamT} {n s B : Nat} {h : Hh} {Q : D → Hh → Prop} {X : XP}
theorem errors_w (L : L03 c cT) (H : Hok h) (S : St s B h) (hB : B + 2000 ≤ 2 ^ 60) {w : Int} {k : Nat} (w0 : 1 ≤ w) (w1 : w ≤ 16) (k0 : 1 ≤ k) (k1 : k ≤ 40)
    (q : ∀ h', Ch s (B + 500) h h' → Q (.bl true) h') : wpO (c (n + 10) "_law_errors_right" [.ref s, .int w, .int k] h) Q X := by
  refine L.errors.wp (n := n + 7) rfl ?_
  unfold m_law_errors_right_k03
  have hs := S.lt
  have a0 : 0 ≤ w := by omega
  have a1 : w ≤ 1000 := by omega
  refine s_seqR (fun l h1 => ∃ wide many, Ot wide ∧ btw wide 1 16 = false ∧ Ot many ∧ btw many 1 40 = false ∧ Ch s (B + 82) h h1 ∧ l = [some (.ref s), some (.int w), some (.int k), some wide, some many, none, none, none, none, none, none, none]) ?_ ?_
  · simp only [w_ret, w_bad, w_var, w_c, w_dic0, w_bin, w_cmp, w_ix, w_tru, w_notV, w_andV, w_orV, w_ifE, w_notT, w_andT, w_orT, w_blT, w_chain, w_nil, w_cons, w_tup, w_lst, w_fz, w_new, w_neg, w_noP, w_P, w_sl, w_rev, w_bi, w_isT, w_call, w_list, w_listR, w_cat, w_mth, s_next, s_bad, s_break, s_cont, s_retN, s_seq, s_drop, s_ret, s_if, s_set, s_asg, g_nm, gs_nil, gs_cons, g_tp, g_sq, g_ix, s_par, s_par3, i_iter, i_zip, i_enm, i_range1, i_range2, wpO_ok, getO_some, isBl_bl, isInt_int, List.getElem?_cons_zero, List.getElem?_cons_succ, List.map_cons, List.map_nil, List.length_cons, List.length_nil, List.cons_append, List.nil_append, Nat.zero_add, Nat.reduceAdd, Nat.reduceSub, List.replicate_succ, List.replicate_zero, List.set_cons_zero, List.set_cons_succ, vw_non, vw_bl, vw_int, vw_str, vw_tup, vw_lst, vw_dic, vw_lok, Bool.not_true, Bool.not_false, Bool.false_eq_true, if_true, if_false, reduceIte, szOk_t, Nat.reduceLeDiff, true_and]
    refine bad_width_w (n := n + 4) L.C H S (by omega) fun wide h1 hw bw ch1 => ?_
    refine bad_size_w (n := n + 4) L.C (ch1.ok H) (ch1.st hs) (by omega) fun many h2 hm bm ch2 => ?_
    simp only [w_ret, w_bad, w_var, w_c, w_dic0, w_bin, w_cmp, w_ix, w_tru, w_notV, w_andV, w_orV, w_ifE, w_notT, w_andT, w_orT, w_blT, w_chain, w_nil, w_cons, w_tup, w_lst, w_fz, w_new, w_neg, w_noP, w_P, w_sl, w_rev, w_bi, w_isT, w_call, w_list, w_listR, w_cat, w_mth, s_next, s_bad, s_break, s_cont, s_retN, s_seq, s_drop, s_ret, s_if, s_set, s_asg, g_nm, gs_nil, gs_cons, g_tp, g_sq, g_ix, s_par, s_par3, i_iter, i_zip, i_enm, i_range1, i_range2, wpO_ok, getO_some, isBl_bl, isInt_int, List.getElem?_cons_zero, List.getElem?_cons_succ, List.map_cons, List.map_nil, List.length_cons, List.length_nil, List.cons_append, List.nil_append, Nat.zero_add, Nat.reduceAdd, Nat.reduceSub, List.replicate_succ, List.replicate_zero, List.set_cons_zero, List.set_cons_succ, vw_non, vw_bl, vw_int, vw_str, vw_tup, vw_lst, vw_dic, vw_lok, Bool.not_true, Bool.not_false, Bool.false_eq_true, if_true, if_false, reduceIte, seqN_t2, ctorL_c, szOk_t, Nat.reduceLeDiff, true_and]
    exact ⟨wide, many, hw, bw, hm, bm, (ch1.trans ch2).mono (by omega), rfl⟩
  rintro _ h1 ⟨wide, many, hw, bw, hm, bm, ch1, rfl⟩
  refine s_seqR (fun l h2 => ∃ word ys, Ot word ∧ wordB w word = false ∧ Wd w ys ∧ ys.length = k ∧ Ch s (B + 203) h h2 ∧ l = [some (.ref s), some (.int w), some (.int k), some wide, some many, some word, some (vec ys), none, none, none, none, none]) ?_ ?_
  · simp only [w_ret, w_bad, w_var, w_c, w_dic0, w_bin, w_cmp, w_ix, w_tru, w_notV, w_andV, w_orV, w_ifE, w_notT, w_andT, w_orT, w_blT, w_chain, w_nil, w_cons, w_tup, w_lst, w_fz, w_new, w_neg, w_noP, w_P, w_sl, w_rev, w_bi, w_isT, w_call, w_list, w_listR, w_cat, w_mth, s_next, s_bad, s_break, s_cont, s_retN, s_seq, s_drop, s_ret, s_if, s_set, s_asg, g_nm, gs_nil, gs_cons, g_tp, g_sq, g_ix, s_par, s_par3, i_iter, i_zip, i_enm, i_range1, i_range2, wpO_ok, getO_some, isBl_bl, isInt_int, List.getElem?_cons_zero, List.getElem?_cons_succ, List.map_cons, List.map_nil, List.length_cons, List.length_nil, List.cons_append, List.nil_append, Nat.zero_add, Nat.reduceAdd, Nat.reduceSub, List.replicate_succ, List.replicate_zero, List.set_cons_zero, List.set_cons_succ, vw_non, vw_bl, vw_int, vw_str, vw_tup, vw_lst, vw_dic, vw_lok, Bool.not_true, Bool.not_false, Bool.false_eq_true, if_true, if_false, reduceIte, szOk_t, Nat.reduceLeDiff, true_and]
    refine bad_word_w (n := n + 4) L (ch1.ok H) (ch1.st hs) (by omega) a0 a1 fun word h2 hwd bwd ch2 => ?_
    have c2 := ch1.trans ch2
    refine row_w L.C.draw L.C.row (c2.ok H) (c2.st hs) (by omega) w0 a1 (by omega) fun ys h3 hl hy ch3 => ?_
    simp only [w_ret, w_bad, w_var, w_c, w_dic0, w_bin, w_cmp, w_ix, w_tru, w_notV, w_andV, w_orV, w_ifE, w_notT, w_andT, w_orT, w_blT, w_chain, w_nil, w_cons, w_tup, w_lst, w_fz, w_new, w_neg, w_noP, w_P, w_sl, w_rev, w_bi, w_isT, w_call, w_list, w_listR, w_cat, w_mth, s_next, s_bad, s_break, s_cont, s_retN, s_seq, s_drop, s_ret, s_if, s_set, s_asg, g_nm, gs_nil, gs_cons, g_tp, g_sq, g_ix, s_par, s_par3, i_iter, i_zip, i_enm, i_range1, i_range2, wpO_ok, getO_some, isBl_bl, isInt_int, List.getElem?_cons_zero, List.getElem?_cons_succ, List.map_cons, List.map_nil, List.length_cons, List.length_nil, List.cons_append, List.nil_append, Nat.zero_add, Nat.reduceAdd, Nat.reduceSub, List.replicate_succ, List.replicate_zero, List.set_cons_zero, List.set_cons_succ, vw_non, vw_bl, vw_int, vw_str, vw_tup, vw_lst, vw_dic, vw_lok, Bool.not_true, Bool.not_false, Bool.false_eq_true, if_true, if_false, reduceIte, seqN_t2, ctorL_c, szOk_t, Nat.reduceLeDiff, true_and]
    exact ⟨word, ys, hwd, bwd, hy, hl, (c2.trans ch3).mono (by omega), rfl⟩
  rintro _ h2 ⟨word, ys, hwd, bwd, hy, hl, ch2, rfl⟩
  refine s_seqR (fun l h3 => ∃ odd, Vl 132 3 20000 odd ∧ vecB w (.int k) odd = false ∧ Ch s (B + 500) h h3 ∧ l = [some (.ref s), some (.int w), some (.int k), some wide, some many, some word, some (vec ys), some odd, none, none, none, none]) ?_ ?_
  · simp only [w_ret, w_bad, w_var, w_c, w_dic0, w_bin, w_cmp, w_ix, w_tru, w_notV, w_andV, w_orV, w_ifE, w_notT, w_andT, w_orT, w_blT, w_chain, w_nil, w_cons, w_tup, w_lst, w_fz, w_new, w_neg, w_noP, w_P, w_sl, w_rev, w_bi, w_isT, w_call, w_list, w_listR, w_cat, w_mth, s_next, s_bad, s_break, s_cont, s_retN, s_seq, s_drop, s_ret, s_if, s_set, s_asg, g_nm, gs_nil, gs_cons, g_tp, g_sq, g_ix, s_par, s_par3, i_iter, i_zip, i_enm, i_range1, i_range2, wpO_ok, getO_some, isBl_bl, isInt_int, List.getElem?_cons_zero, List.getElem?_cons_succ, List.map_cons, List.map_nil, List.length_cons, List.length_nil, List.cons_append, List.nil_append, Nat.zero_add, Nat.reduceAdd, Nat.reduceSub, List.replicate_succ, List.replicate_zero, List.set_cons_zero, List.set_cons_succ, vw_non, vw_bl, vw_int, vw_str, vw_tup, vw_lst, vw_dic, vw_lok, Bool.not_true, Bool.not_false, Bool.false_eq_true, if_true, if_false, reduceIte, szOk_t, Nat.reduceLeDiff, true_and]
    refine bad_vector_w (n := n + 3) L (ch2.ok H) (ch2.st hs) (by omega) w0 w1 k0 k1 fun odd h3 ho bo ch3 => ?_
    exact ⟨odd, ho, bo, (ch2.trans ch3).mono (by omega), rfl⟩
  rintro _ h3 ⟨odd, ho, bo, c3, rfl⟩
  have H3 := c3.ok H
  have ro := ho.rp (by decide) (by decide)
  have shO : ∀ ys, odd = .tup ys → ys.length ≤ 1000000 := fun ys e => (ho.short (by decide) ys e).1
  have vg := vec_vl40 hy w1 (by omega)
  have lg := (vg.rp (by decide) (by decide)).lay
  have shG : ∀ zs, vec ys = .tup zs → zs.length ≤ 1000000 := fun zs e => (vg.short (by decide) zs e).1
  refine s_seqR (fun l h4 => h4 = h3 ∧ ∃ fr : D, fr.lay = true ∧ (∀ ys, fr = .tup ys → ys.length ≤ 1000000) ∧ anyB w fr = false ∧ l = [some (.ref s), some (.int w), some (.int k), some wide, some many, some word, some (vec ys), some odd, some fr, none, none, none]) ?_ ?_
  · have sq1 : ∀ P : List D → Prop, seqO (vec ys) P = P (ys.map D.int) := fun P => seqO_t
    have vt : ∀ h, vw h (vec ys) = vec ys := fun h => rfl
    simp only [w_ret, w_bad, w_var, w_c, w_dic0, w_bin, w_cmp, w_ix, w_tru, w_notV, w_andV, w_orV, w_ifE, w_notT, w_andT, w_orT, w_blT, w_chain, w_nil, w_cons, w_tup, w_lst, w_fz, w_new, w_neg, w_noP, w_P, w_sl, w_rev, w_bi, w_isT, w_call, w_list, w_listR, w_cat, w_mth, s_next, s_bad, s_break, s_cont, s_retN, s_seq, s_drop, s_ret, s_if, s_set, s_asg, g_nm, gs_nil, gs_cons, g_tp, g_sq, g_ix, s_par, s_par3, i_iter, i_zip, i_enm, i_range1, i_range2, wpO_ok, getO_some, isBl_bl, isInt_int, List.getElem?_cons_zero, List.getElem?_cons_succ, List.map_cons, List.map_nil, List.length_cons, List.length_nil, List.cons_append, List.nil_append, Nat.zero_add, Nat.reduceAdd, Nat.reduceSub, List.replicate_succ, List.replicate_zero, List.set_cons_zero, List.set_cons_succ, vw_non, vw_bl, vw_int, vw_str, vw_tup, vw_lst, vw_dic, vw_lok, Bool.not_true, Bool.not_false, Bool.false_eq_true, if_true, if_false, reduceIte, lis_any_v (n := n + 6) L a0 a1 ro.lay shO H3, truD, sq1, vt]
    by_cases g : anyB w odd = true
    · rw [g]
      simp only [w_ret, w_bad, w_var, w_c, w_dic0, w_bin, w_cmp, w_ix, w_tru, w_notV, w_andV, w_orV, w_ifE, w_notT, w_andT, w_orT, w_blT, w_chain, w_nil, w_cons, w_tup, w_lst, w_fz, w_new, w_neg, w_noP, w_P, w_sl, w_rev, w_bi, w_isT, w_call, w_list, w_listR, w_cat, w_mth, s_next, s_bad, s_break, s_cont, s_retN, s_seq, s_drop, s_ret, s_if, s_set, s_asg, g_nm, gs_nil, gs_cons, g_tp, g_sq, g_ix, s_par, s_par3, i_iter, i_zip, i_enm, i_range1, i_range2, wpO_ok, getO_some, isBl_bl, isInt_int, List.getElem?_cons_zero, List.getElem?_cons_succ, List.map_cons, List.map_nil, List.length_cons, List.length_nil, List.cons_append, List.nil_append, Nat.zero_add, Nat.reduceAdd, Nat.reduceSub, List.replicate_succ, List.replicate_zero, List.set_cons_zero, List.set_cons_succ, vw_non, vw_bl, vw_int, vw_str, vw_tup, vw_lst, vw_dic, vw_lok, Bool.not_true, Bool.not_false, Bool.false_eq_true, if_true, if_false, reduceIte]
      refine ⟨trivial, .lst (ys.map D.int), ?_, fun _ e => (nomatch e), rfl, rfl⟩
      rw [D.lay]
      exact lays_int
    · have g : anyB w odd = false := by simpa using g
      rw [g]
      simp only [w_ret, w_bad, w_var, w_c, w_dic0, w_bin, w_cmp, w_ix, w_tru, w_notV, w_andV, w_orV, w_ifE, w_notT, w_andT, w_orT, w_blT, w_chain, w_nil, w_cons, w_tup, w_lst, w_fz, w_new, w_neg, w_noP, w_P, w_sl, w_rev, w_bi, w_isT, w_call, w_list, w_listR, w_cat, w_mth, s_next, s_bad, s_break, s_cont, s_retN, s_seq, s_drop, s_ret, s_if, s_set, s_asg, g_nm, gs_nil, gs_cons, g_tp, g_sq, g_ix, s_par, s_par3, i_iter, i_zip, i_enm, i_range1, i_range2, wpO_ok, getO_some, isBl_bl, isInt_int, List.getElem?_cons_zero, List.getElem?_cons_succ, List.map_cons, List.map_nil, List.length_cons, List.length_nil, List.cons_append, List.nil_append, Nat.zero_add, Nat.reduceAdd, Nat.reduceSub, List.replicate_succ, List.replicate_zero, List.set_cons_zero, List.set_cons_succ, vw_non, vw_bl, vw_int, vw_str, vw_tup, vw_lst, vw_dic, vw_lok, Bool.not_true, Bool.not_false, Bool.false_eq_true, if_true, if_false, reduceIte]
      exact ⟨trivial, odd, ro.lay, shO, g, rfl⟩
  rintro _ h4 ⟨rfl, fr, lf, shF, bf, rfl⟩
  have rw' := hw.v.rp (by decide) (by decide)
  have rm := hm.v.rp (by decide) (by decide)
  have rd := hwd.v.rp (by decide) (by decide)
  have t1 : (Str.ofString "number ").length = 7 := by decide
  have gd : anyB w (vec ys) = true := by
    unfold anyB
    rw [wordsB_vec hy, Bool.true_and]
    show decide (1 ≤ (ys.map D.int).length ∧ (ys.map D.int).length ≤ 40) = true
    rw [List.length_map]
    exact decide_eq_true (by omega)
  have vt : ∀ h, vw h (vec ys) = vec ys := fun h => rfl
  have push : ∀ ys : List D, D.lows 0 ys = true → Hok (h4 ++ [.lst ys]) := fun ys z => H3.push z
  try simp only [w_ret, w_bad, w_var, w_c, w_dic0, w_bin, w_cmp, w_ix, w_tru, w_notV, w_andV, w_orV, w_ifE, w_notT, w_andT, w_orT, w_blT, w_chain, w_nil, w_cons, w_tup, w_lst, w_fz, w_new, w_neg, w_noP, w_P, w_sl, w_rev, w_bi, w_isT, w_call, w_list, w_listR, w_cat, w_mth, s_next, s_bad, s_break, s_cont, s_retN, s_seq, s_drop, s_ret, s_if, s_set, s_asg, g_nm, gs_nil, gs_cons, g_tp, g_sq, g_ix, s_par, s_par3, i_iter, i_zip, i_enm, i_range1, i_range2, wpO_ok, getO_some, isBl_bl, isInt_int, List.getElem?_cons_zero, List.getElem?_cons_succ, List.map_cons, List.map_nil, List.length_cons, List.length_nil, List.cons_append, List.nil_append, Nat.zero_add, Nat.reduceAdd, Nat.reduceSub, List.replicate_succ, List.replicate_zero, List.set_cons_zero, List.set_cons_succ, vw_non, vw_bl, vw_int, vw_str, vw_tup, vw_lst, vw_dic, vw_lok, Bool.not_true, Bool.not_false, Bool.false_eq_true, if_true, if_false, reduceIte, szOk_t, Nat.reduceLeDiff, true_and, vw_top, tyM_list, lay_vw rw'.lay, lay_vw rm.lay, lay_vw rd.lay, lay_vw ro.lay, lay_vw lf, vt]
  refine lam_w H3 (refusal_w (n := n + 7) L.C H3 (vector_sum_xw (n := n) L rw'.lay bw H3)) low_str ?_
  have P1 := push [.str (Str.ofString "width")] (by simp only [lows_cons, lows_nil, low_str, Bool.and_self])
  try simp only [w_ret, w_bad, w_var, w_c, w_dic0, w_bin, w_cmp, w_ix, w_tru, w_notV, w_andV, w_orV, w_ifE, w_notT, w_andT, w_orT, w_blT, w_chain, w_nil, w_cons, w_tup, w_lst, w_fz, w_new, w_neg, w_noP, w_P, w_sl, w_rev, w_bi, w_isT, w_call, w_list, w_listR, w_cat, w_mth, s_next, s_bad, s_break, s_cont, s_retN, s_seq, s_drop, s_ret, s_if, s_set, s_asg, g_nm, gs_nil, gs_cons, g_tp, g_sq, g_ix, s_par, s_par3, i_iter, i_zip, i_enm, i_range1, i_range2, wpO_ok, getO_some, isBl_bl, isInt_int, List.getElem?_cons_zero, List.getElem?_cons_succ, List.map_cons, List.map_nil, List.length_cons, List.length_nil, List.cons_append, List.nil_append, Nat.zero_add, Nat.reduceAdd, Nat.reduceSub, List.replicate_succ, List.replicate_zero, List.set_cons_zero, List.set_cons_succ, vw_non, vw_bl, vw_int, vw_str, vw_tup, vw_lst, vw_dic, vw_lok, Bool.not_true, Bool.not_false, Bool.false_eq_true, if_true, if_false, reduceIte, szOk_t, Nat.reduceLeDiff, true_and, vw_top, tyM_list, lay_vw rw'.lay, lay_vw rm.lay, lay_vw rd.lay, lay_vw ro.lay, lay_vw lf, vt]
  refine lam_w P1 (refusal_n (n := n + 7) L.C P1 (vector_sum_xs (n := n) L w0 w1 rm.lay bm P1) rm (by decide) (by decide)) low_str ?_
  refine getO_of (app_top (by simp)) ?_
  have P2 := push [.str (Str.ofString "width"), .str (Str.ofString "number " ++ many.py.shown)] (by simp only [lows_cons, lows_nil, low_str, Bool.and_self])
  try simp only [w_ret, w_bad, w_var, w_c, w_dic0, w_bin, w_cmp, w_ix, w_tru, w_notV, w_andV, w_orV, w_ifE, w_notT, w_andT, w_orT, w_blT, w_chain, w_nil, w_cons, w_tup, w_lst, w_fz, w_new, w_neg, w_noP, w_P, w_sl, w_rev, w_bi, w_isT, w_call, w_list, w_listR, w_cat, w_mth, s_next, s_bad, s_break, s_cont, s_retN, s_seq, s_drop, s_ret, s_if, s_set, s_asg, g_nm, gs_nil, gs_cons, g_tp, g_sq, g_ix, s_par, s_par3, i_iter, i_zip, i_enm, i_range1, i_range2, wpO_ok, getO_some, isBl_bl, isInt_int, List.getElem?_cons_zero, List.getElem?_cons_succ, List.map_cons, List.map_nil, List.length_cons, List.length_nil, List.cons_append, List.nil_append, Nat.zero_add, Nat.reduceAdd, Nat.reduceSub, List.replicate_succ, List.replicate_zero, List.set_cons_zero, List.set_cons_succ, vw_non, vw_bl, vw_int, vw_str, vw_tup, vw_lst, vw_dic, vw_lok, Bool.not_true, Bool.not_false, Bool.false_eq_true, if_true, if_false, reduceIte, szOk_t, Nat.reduceLeDiff, true_and, vw_top, tyM_list, lay_vw rw'.lay, lay_vw rm.lay, lay_vw rd.lay, lay_vw ro.lay, lay_vw lf, vt]
  refine lam_w P2 (refusal_v (n := n + 7) L.C P2 (vector_sum_xv (n := n) (vs := []) L w0 w1 k0 k1 (fun _ z => nomatch z) (by decide) ro.lay shO bo P2)) low_str ?_
  refine getO_of (app_top (by simp)) ?_
  have P3 := push [.str (Str.ofString "width"), .str (Str.ofString "number " ++ many.py.shown), .str (Str.ofString "vector")] (by simp only [lows_cons, lows_nil, low_str, Bool.and_self])
  try simp only [w_ret, w_bad, w_var, w_c, w_dic0, w_bin, w_cmp, w_ix, w_tru, w_notV, w_andV, w_orV, w_ifE, w_notT, w_andT, w_orT, w_blT, w_chain, w_nil, w_cons, w_tup, w_lst, w_fz, w_new, w_neg, w_noP, w_P, w_sl, w_rev, w_bi, w_isT, w_call, w_list, w_listR, w_cat, w_mth, s_next, s_bad, s_break, s_cont, s_retN, s_seq, s_drop, s_ret, s_if, s_set, s_asg, g_nm, gs_nil, gs_cons, g_tp, g_sq, g_ix, s_par, s_par3, i_iter, i_zip, i_enm, i_range1, i_range2, wpO_ok, getO_some, isBl_bl, isInt_int, List.getElem?_cons_zero, List.getElem?_cons_succ, List.map_cons, List.map_nil, List.length_cons, List.length_nil, List.cons_append, List.nil_append, Nat.zero_add, Nat.reduceAdd, Nat.reduceSub, List.replicate_succ, List.replicate_zero, List.set_cons_zero, List.set_cons_succ, vw_non, vw_bl, vw_int, vw_str, vw_tup, vw_lst, vw_dic, vw_lok, Bool.not_true, Bool.not_false, Bool.false_eq_true, if_true, if_false, reduceIte, szOk_t, Nat.reduceLeDiff, true_and, vw_top, tyM_list, lay_vw rw'.lay, lay_vw rm.lay, lay_vw rd.lay, lay_vw ro.lay, lay_vw lf, vt]
  refine lam_w P3 (refusal_v (n := n + 7) L.C P3 (vector_sum_xv (n := n) (vs := [ys]) L w0 w1 k0 k1 (fun v z => by rw [List.mem_singleton.mp z]; exact ⟨hy, hl⟩) (by simp) ro.lay shO bo P3)) low_str ?_
  refine getO_of (app_top (by simp)) ?_
  have P4 := push [.str (Str.ofString "width"), .str (Str.ofString "number " ++ many.py.shown), .str (Str.ofString "vector"), .str (Str.ofString "vector")] (by simp only [lows_cons, lows_nil, low_str, Bool.and_self])
  try simp only [w_ret, w_bad, w_var, w_c, w_dic0, w_bin, w_cmp, w_ix, w_tru, w_notV, w_andV, w_orV, w_ifE, w_notT, w_andT, w_orT, w_blT, w_chain, w_nil, w_cons, w_tup, w_lst, w_fz, w_new, w_neg, w_noP, w_P, w_sl, w_rev, w_bi, w_isT, w_call, w_list, w_listR, w_cat, w_mth, s_next, s_bad, s_break, s_cont, s_retN, s_seq, s_drop, s_ret, s_if, s_set, s_asg, g_nm, gs_nil, gs_cons, g_tp, g_sq, g_ix, s_par, s_par3, i_iter, i_zip, i_enm, i_range1, i_range2, wpO_ok, getO_some, isBl_bl, isInt_int, List.getElem?_cons_zero, List.getElem?_cons_succ, List.map_cons, List.map_nil, List.length_cons, List.length_nil, List.cons_append, List.nil_append, Nat.zero_add, Nat.reduceAdd, Nat.reduceSub, List.replicate_succ, List.replicate_zero, List.set_cons_zero, List.set_cons_succ, vw_non, vw_bl, vw_int, vw_str, vw_tup, vw_lst, vw_dic, vw_lok, Bool.not_true, Bool.not_false, Bool.false_eq_true, if_true, if_false, reduceIte, szOk_t, Nat.reduceLeDiff, true_and, vw_top, tyM_list, lay_vw rw'.lay, lay_vw rm.lay, lay_vw rd.lay, lay_vw ro.lay, lay_vw lf, vt]
  refine lam_w P4 (refusal_w (n := n + 7) L.C P4 (vector_multiple_xw (n := n + 1) L rw'.lay bw P4)) low_str ?_
  refine getO_of (app_top (by simp)) ?_
  have P5 := push [.str (Str.ofString "width"), .str (Str.ofString "number " ++ many.py.shown), .str (Str.ofString "vector"), .str (Str.ofString "vector"), .str (Str.ofString "width")] (by simp only [lows_cons, lows_nil, low_str, Bool.and_self])
  try simp only [w_ret, w_bad, w_var, w_c, w_dic0, w_bin, w_cmp, w_ix, w_tru, w_notV, w_andV, w_orV, w_ifE, w_notT, w_andT, w_orT, w_blT, w_chain, w_nil, w_cons, w_tup, w_lst, w_fz, w_new, w_neg, w_noP, w_P, w_sl, w_rev, w_bi, w_isT, w_call, w_list, w_listR, w_cat, w_mth, s_next, s_bad, s_break, s_cont, s_retN, s_seq, s_drop, s_ret, s_if, s_set, s_asg, g_nm, gs_nil, gs_cons, g_tp, g_sq, g_ix, s_par, s_par3, i_iter, i_zip, i_enm, i_range1, i_range2, wpO_ok, getO_some, isBl_bl, isInt_int, List.getElem?_cons_zero, List.getElem?_cons_succ, List.map_cons, List.map_nil, List.length_cons, List.length_nil, List.cons_append, List.nil_append, Nat.zero_add, Nat.reduceAdd, Nat.reduceSub, List.replicate_succ, List.replicate_zero, List.set_cons_zero, List.set_cons_succ, vw_non, vw_bl, vw_int, vw_str, vw_tup, vw_lst, vw_dic, vw_lok, Bool.not_true, Bool.not_false, Bool.false_eq_true, if_true, if_false, reduceIte, szOk_t, Nat.reduceLeDiff, true_and, vw_top, tyM_list, lay_vw rw'.lay, lay_vw rm.lay, lay_vw rd.lay, lay_vw ro.lay, lay_vw lf, vt]
  refine lam_w P5 (refusal_v (n := n + 7) L.C P5 (vector_multiple_xv (n := n + 1) L w0 w1 lf shF bf P5)) low_str ?_
  refine getO_of (app_top (by simp)) ?_
  have P6 := push [.str (Str.ofString "width"), .str (Str.ofString "number " ++ many.py.shown), .str (Str.ofString "vector"), .str (Str.ofString "vector"), .str (Str.ofString "width"), .str (Str.ofString "vector")] (by simp only [lows_cons, lows_nil, low_str, Bool.and_self])
  try simp only [w_ret, w_bad, w_var, w_c, w_dic0, w_bin, w_cmp, w_ix, w_tru, w_notV, w_andV, w_orV, w_ifE, w_notT, w_andT, w_orT, w_blT, w_chain, w_nil, w_cons, w_tup, w_lst, w_fz, w_new, w_neg, w_noP, w_P, w_sl, w_rev, w_bi, w_isT, w_call, w_list, w_listR, w_cat, w_mth, s_next, s_bad, s_break, s_cont, s_retN, s_seq, s_drop, s_ret, s_if, s_set, s_asg, g_nm, gs_nil, gs_cons, g_tp, g_sq, g_ix, s_par, s_par3, i_iter, i_zip, i_enm, i_range1, i_range2, wpO_ok, getO_some, isBl_bl, isInt_int, List.getElem?_cons_zero, List.getElem?_cons_succ, List.map_cons, List.map_nil, List.length_cons, List.length_nil, List.cons_append, List.nil_append, Nat.zero_add, Nat.reduceAdd, Nat.reduceSub, List.replicate_succ, List.replicate_zero, List.set_cons_zero, List.set_cons_succ, vw_non, vw_bl, vw_int, vw_str, vw_tup, vw_lst, vw_dic, vw_lok, Bool.not_true, Bool.not_false, Bool.false_eq_true, if_true, if_false, reduceIte, szOk_t, Nat.reduceLeDiff, true_and, vw_top, tyM_list, lay_vw rw'.lay, lay_vw rm.lay, lay_vw rd.lay, lay_vw ro.lay, lay_vw lf, vt]
  refine lam_w P6 (refusal_n (n := n + 7) L.C P6 (vector_multiple_xn (n := n + 1) L w0 w1 lg shG gd rd.lay bwd P6) rd (by decide) (by decide)) low_str ?_
  refine getO_of (app_top (by simp)) ?_
  have P7 := push [.str (Str.ofString "width"), .str (Str.ofString "number " ++ many.py.shown), .str (Str.ofString "vector"), .str (Str.ofString "vector"), .str (Str.ofString "width"), .str (Str.ofString "vector"), .str (Str.ofString "number " ++ word.py.shown)] (by simp only [lows_cons, lows_nil, low_str, Bool.and_self])
  try simp only [w_ret, w_bad, w_var, w_c, w_dic0, w_bin, w_cmp, w_ix, w_tru, w_notV, w_andV, w_orV, w_ifE, w_notT, w_andT, w_orT, w_blT, w_chain, w_nil, w_cons, w_tup, w_lst, w_fz, w_new, w_neg, w_noP, w_P, w_sl, w_rev, w_bi, w_isT, w_call, w_list, w_listR, w_cat, w_mth, s_next, s_bad, s_break, s_cont, s_retN, s_seq, s_drop, s_ret, s_if, s_set, s_asg, g_nm, gs_nil, gs_cons, g_tp, g_sq, g_ix, s_par, s_par3, i_iter, i_zip, i_enm, i_range1, i_range2, wpO_ok, getO_some, isBl_bl, isInt_int, List.getElem?_cons_zero, List.getElem?_cons_succ, List.map_cons, List.map_nil, List.length_cons, List.length_nil, List.cons_append, List.nil_append, Nat.zero_add, Nat.reduceAdd, Nat.reduceSub, List.replicate_succ, List.replicate_zero, List.set_cons_zero, List.set_cons_succ, vw_non, vw_bl, vw_int, vw_str, vw_tup, vw_lst, vw_dic, vw_lok, Bool.not_true, Bool.not_false, Bool.false_eq_true, if_true, if_false, reduceIte, szOk_t, Nat.reduceLeDiff, true_and, vw_top, tyM_list, lay_vw rw'.lay, lay_vw rm.lay, lay_vw rd.lay, lay_vw ro.lay, lay_vw lf, vt]
  refine lam_w P7 (refusal_w (n := n + 7) L.C P7 (dot_product_xw (n := n + 1) L rw'.lay bw P7)) low_str ?_
  refine getO_of (app_top (by simp)) ?_
  have P8 := push [.str (Str.ofString "width"), .str (Str.ofString "number " ++ many.py.shown), .str (Str.ofString "vector"), .str (Str.ofString "vector"), .str (Str.ofString "width"), .str (Str.ofString "vector"), .str (Str.ofString "number " ++ word.py.shown), .str (Str.ofString "width")] (by simp only [lows_cons, lows_nil, low_str, Bool.and_self])
  try simp only [w_ret, w_bad, w_var, w_c, w_dic0, w_bin, w_cmp, w_ix, w_tru, w_notV, w_andV, w_orV, w_ifE, w_notT, w_andT, w_orT, w_blT, w_chain, w_nil, w_cons, w_tup, w_lst, w_fz, w_new, w_neg, w_noP, w_P, w_sl, w_rev, w_bi, w_isT, w_call, w_list, w_listR, w_cat, w_mth, s_next, s_bad, s_break, s_cont, s_retN, s_seq, s_drop, s_ret, s_if, s_set, s_asg, g_nm, gs_nil, gs_cons, g_tp, g_sq, g_ix, s_par, s_par3, i_iter, i_zip, i_enm, i_range1, i_range2, wpO_ok, getO_some, isBl_bl, isInt_int, List.getElem?_cons_zero, List.getElem?_cons_succ, List.map_cons, List.map_nil, List.length_cons, List.length_nil, List.cons_append, List.nil_append, Nat.zero_add, Nat.reduceAdd, Nat.reduceSub, List.replicate_succ, List.replicate_zero, List.set_cons_zero, List.set_cons_succ, vw_non, vw_bl, vw_int, vw_str, vw_tup, vw_lst, vw_dic, vw_lok, Bool.not_true, Bool.not_false, Bool.false_eq_true, if_true, if_false, reduceIte, szOk_t, Nat.reduceLeDiff, true_and, vw_top, tyM_list, lay_vw rw'.lay, lay_vw rm.lay, lay_vw rd.lay, lay_vw ro.lay, lay_vw lf, vt]
  refine lam_w P8 (refusal_v (n := n + 7) L.C P8 (dot_product_xv (n := n + 1) L w0 w1 lf shF bf P8)) low_str ?_
  refine getO_of (app_top (by simp)) ?_
  have P9 := push [.str (Str.ofString "width"), .str (Str.ofString "number " ++ many.py.shown), .str (Str.ofString "vector"), .str (Str.ofString "vector"), .str (Str.ofString "width"), .str (Str.ofString "vector"), .str (Str.ofString "number " ++ word.py.shown), .str (Str.ofString "width"), .str (Str.ofString "vector")] (by simp only [lows_cons, lows_nil, low_str, Bool.and_self])
  try simp only [w_ret, w_bad, w_var, w_c, w_dic0, w_bin, w_cmp, w_ix, w_tru, w_notV, w_andV, w_orV, w_ifE, w_notT, w_andT, w_orT, w_blT, w_chain, w_nil, w_cons, w_tup, w_lst, w_fz, w_new, w_neg, w_noP, w_P, w_sl, w_rev, w_bi, w_isT, w_call, w_list, w_listR, w_cat, w_mth, s_next, s_bad, s_break, s_cont, s_retN, s_seq, s_drop, s_ret, s_if, s_set, s_asg, g_nm, gs_nil, gs_cons, g_tp, g_sq, g_ix, s_par, s_par3, i_iter, i_zip, i_enm, i_range1, i_range2, wpO_ok, getO_some, isBl_bl, isInt_int, List.getElem?_cons_zero, List.getElem?_cons_succ, List.map_cons, List.map_nil, List.length_cons, List.length_nil, List.cons_append, List.nil_append, Nat.zero_add, Nat.reduceAdd, Nat.reduceSub, List.replicate_succ, List.replicate_zero, List.set_cons_zero, List.set_cons_succ, vw_non, vw_bl, vw_int, vw_str, vw_tup, vw_lst, vw_dic, vw_lok, Bool.not_true, Bool.not_false, Bool.false_eq_true, if_true, if_false, reduceIte, szOk_t, Nat.reduceLeDiff, true_and, vw_top, tyM_list, lay_vw rw'.lay, lay_vw rm.lay, lay_vw rd.lay, lay_vw ro.lay, lay_vw lf, vt]
  refine lam_w P9 (refusal_v (n := n + 7) L.C P9 (dot_product_xo (n := n + 1) L w0 w1 lg (by rw [List.length_map]; exact hl) k1 gd ro.lay shO bo P9)) low_str ?_
  refine getO_of (app_top (by simp)) ?_
  have P10 := push [.str (Str.ofString "width"), .str (Str.ofString "number " ++ many.py.shown), .str (Str.ofString "vector"), .str (Str.ofString "vector"), .str (Str.ofString "width"), .str (Str.ofString "vector"), .str (Str.ofString "number " ++ word.py.shown), .str (Str.ofString "width"), .str (Str.ofString "vector"), .str (Str.ofString "vector")] (by simp only [lows_cons, lows_nil, low_str, Bool.and_self])
  try simp only [w_ret, w_bad, w_var, w_c, w_dic0, w_bin, w_cmp, w_ix, w_tru, w_notV, w_andV, w_orV, w_ifE, w_notT, w_andT, w_orT, w_blT, w_chain, w_nil, w_cons, w_tup, w_lst, w_fz, w_new, w_neg, w_noP, w_P, w_sl, w_rev, w_bi, w_isT, w_call, w_list, w_listR, w_cat, w_mth, s_next, s_bad, s_break, s_cont, s_retN, s_seq, s_drop, s_ret, s_if, s_set, s_asg, g_nm, gs_nil, gs_cons, g_tp, g_sq, g_ix, s_par, s_par3, i_iter, i_zip, i_enm, i_range1, i_range2, wpO_ok, getO_some, isBl_bl, isInt_int, List.getElem?_cons_zero, List.getElem?_cons_succ, List.map_cons, List.map_nil, List.length_cons, List.length_nil, List.cons_append, List.nil_append, Nat.zero_add, Nat.reduceAdd, Nat.reduceSub, List.replicate_succ, List.replicate_zero, List.set_cons_zero, List.set_cons_succ, vw_non, vw_bl, vw_int, vw_str, vw_tup, vw_lst, vw_dic, vw_lok, Bool.not_true, Bool.not_false, Bool.false_eq_true, if_true, if_false, reduceIte, szOk_t, Nat.reduceLeDiff, true_and, vw_top, tyM_list, lay_vw rw'.lay, lay_vw rm.lay, lay_vw rd.lay, lay_vw ro.lay, lay_vw lf, vt]
  refine lam_w P10 (refusal_w (n := n + 7) L.C P10 (word_level_xw (n := n + 2) L rw'.lay bw P10)) low_str ?_
  refine getO_of (app_top (by simp)) ?_
  have P11 := push [.str (Str.ofString "width"), .str (Str.ofString "number " ++ many.py.shown), .str (Str.ofString "vector"), .str (Str.ofString "vector"), .str (Str.ofString "width"), .str (Str.ofString "vector"), .str (Str.ofString "number " ++ word.py.shown), .str (Str.ofString "width"), .str (Str.ofString "vector"), .str (Str.ofString "vector"), .str (Str.ofString "width")] (by simp only [lows_cons, lows_nil, low_str, Bool.and_self])
  try simp only [w_ret, w_bad, w_var, w_c, w_dic0, w_bin, w_cmp, w_ix, w_tru, w_notV, w_andV, w_orV, w_ifE, w_notT, w_andT, w_orT, w_blT, w_chain, w_nil, w_cons, w_tup, w_lst, w_fz, w_new, w_neg, w_noP, w_P, w_sl, w_rev, w_bi, w_isT, w_call, w_list, w_listR, w_cat, w_mth, s_next, s_bad, s_break, s_cont, s_retN, s_seq, s_drop, s_ret, s_if, s_set, s_asg, g_nm, gs_nil, gs_cons, g_tp, g_sq, g_ix, s_par, s_par3, i_iter, i_zip, i_enm, i_range1, i_range2, wpO_ok, getO_some, isBl_bl, isInt_int, List.getElem?_cons_zero, List.getElem?_cons_succ, List.map_cons, List.map_nil, List.length_cons, List.length_nil, List.cons_append, List.nil_append, Nat.zero_add, Nat.reduceAdd, Nat.reduceSub, List.replicate_succ, List.replicate_zero, List.set_cons_zero, List.set_cons_succ, vw_non, vw_bl, vw_int, vw_str, vw_tup, vw_lst, vw_dic, vw_lok, Bool.not_true, Bool.not_false, Bool.false_eq_true, if_true, if_false, reduceIte, szOk_t, Nat.reduceLeDiff, true_and, vw_top, tyM_list, lay_vw rw'.lay, lay_vw rm.lay, lay_vw rd.lay, lay_vw ro.lay, lay_vw lf, vt]
  refine lam_w P11 (refusal_n (n := n + 7) L.C P11 (word_level_xb (n := n + 2) L w0 w1 rd.lay bwd P11) rd (by decide) (by decide)) low_str ?_
  refine getO_of (app_top (by simp)) ?_
  have P12 := push [.str (Str.ofString "width"), .str (Str.ofString "number " ++ many.py.shown), .str (Str.ofString "vector"), .str (Str.ofString "vector"), .str (Str.ofString "width"), .str (Str.ofString "vector"), .str (Str.ofString "number " ++ word.py.shown), .str (Str.ofString "width"), .str (Str.ofString "vector"), .str (Str.ofString "vector"), .str (Str.ofString "width"), .str (Str.ofString "number " ++ word.py.shown)] (by simp only [lows_cons, lows_nil, low_str, Bool.and_self])
  try simp only [w_ret, w_bad, w_var, w_c, w_dic0, w_bin, w_cmp, w_ix, w_tru, w_notV, w_andV, w_orV, w_ifE, w_notT, w_andT, w_orT, w_blT, w_chain, w_nil, w_cons, w_tup, w_lst, w_fz, w_new, w_neg, w_noP, w_P, w_sl, w_rev, w_bi, w_isT, w_call, w_list, w_listR, w_cat, w_mth, s_next, s_bad, s_break, s_cont, s_retN, s_seq, s_drop, s_ret, s_if, s_set, s_asg, g_nm, gs_nil, gs_cons, g_tp, g_sq, g_ix, s_par, s_par3, i_iter, i_zip, i_enm, i_range1, i_range2, wpO_ok, getO_some, isBl_bl, isInt_int, List.getElem?_cons_zero, List.getElem?_cons_succ, List.map_cons, List.map_nil, List.length_cons, List.length_nil, List.cons_append, List.nil_append, Nat.zero_add, Nat.reduceAdd, Nat.reduceSub, List.replicate_succ, List.replicate_zero, List.set_cons_zero, List.set_cons_succ, vw_non, vw_bl, vw_int, vw_str, vw_tup, vw_lst, vw_dic, vw_lok, Bool.not_true, Bool.not_false, Bool.false_eq_true, if_true, if_false, reduceIte, szOk_t, Nat.reduceLeDiff, true_and, vw_top, tyM_list, lay_vw rw'.lay, lay_vw rm.lay, lay_vw rd.lay, lay_vw ro.lay, lay_vw lf, vt]
  refine lam_w P12 (refusal_w (n := n + 7) L.C P12 (word_inverse_xw (n := n + 2) L rw'.lay bw P12)) low_str ?_
  refine getO_of (app_top (by simp)) ?_
  have P13 := push [.str (Str.ofString "width"), .str (Str.ofString "number " ++ many.py.shown), .str (Str.ofString "vector"), .str (Str.ofString "vector"), .str (Str.ofString "width"), .str (Str.ofString "vector"), .str (Str.ofString "number " ++ word.py.shown), .str (Str.ofString "width"), .str (Str.ofString "vector"), .str (Str.ofString "vector"), .str (Str.ofString "width"), .str (Str.ofString "number " ++ word.py.shown), .str (Str.ofString "width")] (by simp only [lows_cons, lows_nil, low_str, Bool.and_self])
  try simp only [w_ret, w_bad, w_var, w_c, w_dic0, w_bin, w_cmp, w_ix, w_tru, w_notV, w_andV, w_orV, w_ifE, w_notT, w_andT, w_orT, w_blT, w_chain, w_nil, w_cons, w_tup, w_lst, w_fz, w_new, w_neg, w_noP, w_P, w_sl, w_rev, w_bi, w_isT, w_call, w_list, w_listR, w_cat, w_mth, s_next, s_bad, s_break, s_cont, s_retN, s_seq, s_drop, s_ret, s_if, s_set, s_asg, g_nm, gs_nil, gs_cons, g_tp, g_sq, g_ix, s_par, s_par3, i_iter, i_zip, i_enm, i_range1, i_range2, wpO_ok, getO_some, isBl_bl, isInt_int, List.getElem?_cons_zero, List.getElem?_cons_succ, List.map_cons, List.map_nil, List.length_cons, List.length_nil, List.cons_append, List.nil_append, Nat.zero_add, Nat.reduceAdd, Nat.reduceSub, List.replicate_succ, List.replicate_zero, List.set_cons_zero, List.set_cons_succ, vw_non, vw_bl, vw_int, vw_str, vw_tup, vw_lst, vw_dic, vw_lok, Bool.not_true, Bool.not_false, Bool.false_eq_true, if_true, if_false, reduceIte, szOk_t, Nat.reduceLeDiff, true_and, vw_top, tyM_list, lay_vw rw'.lay, lay_vw rm.lay, lay_vw rd.lay, lay_vw ro.lay, lay_vw lf, vt]
  refine lam_w P13 (refusal_n (n := n + 7) L.C P13 (word_inverse_xb (n := n + 2) L w0 w1 rd.lay bwd P13) rd (by decide) (by decide)) low_str ?_
  refine getO_of (app_top (by simp)) ?_
  simp only [w_ret, w_bad, w_var, w_c, w_dic0, w_bin, w_cmp, w_ix, w_tru, w_notV, w_andV, w_orV, w_ifE, w_notT, w_andT, w_orT, w_blT, w_chain, w_nil, w_cons, w_tup, w_lst, w_fz, w_new, w_neg, w_noP, w_P, w_sl, w_rev, w_bi, w_isT, w_call, w_list, w_listR, w_cat, w_mth, s_next, s_bad, s_break, s_cont, s_retN, s_seq, s_drop, s_ret, s_if, s_set, s_asg, g_nm, gs_nil, gs_cons, g_tp, g_sq, g_ix, s_par, s_par3, i_iter, i_zip, i_enm, i_range1, i_range2, wpO_ok, getO_some, isBl_bl, isInt_int, List.getElem?_cons_zero, List.getElem?_cons_succ, List.map_cons, List.map_nil, List.length_cons, List.length_nil, List.cons_append, List.nil_append, Nat.zero_add, Nat.reduceAdd, Nat.reduceSub, List.replicate_succ, List.replicate_zero, List.set_cons_zero, List.set_cons_succ, vw_non, vw_bl, vw_int, vw_str, vw_tup, vw_lst, vw_dic, vw_lok, Bool.not_true, Bool.not_false, Bool.false_eq_true, if_true, if_false, reduceIte, szOk_t, Nat.reduceLeDiff, true_and, vw_top, tyM_list, lay_vw rw'.lay, lay_vw rm.lay, lay_vw rd.lay, lay_vw ro.lay, lay_vw lf, vt]
  refine getO_of (fRepr_of rm (by decide) (by decide)) ?_
  refine getO_of (add_str (by have := rm.len; omega)) ?_
  refine getO_of (fRepr_of rd (by decide) (by decide)) ?_
  refine getO_of (add_str (by have := rd.len; omega)) ?_
  try simp only [w_ret, w_bad, w_var, w_c, w_dic0, w_bin, w_cmp, w_ix, w_tru, w_notV, w_andV, w_orV, w_ifE, w_notT, w_andT, w_orT, w_blT, w_chain, w_nil, w_cons, w_tup, w_lst, w_fz, w_new, w_neg, w_noP, w_P, w_sl, w_rev, w_bi, w_isT, w_call, w_list, w_listR, w_cat, w_mth, s_next, s_bad, s_break, s_cont, s_retN, s_seq, s_drop, s_ret, s_if, s_set, s_asg, g_nm, gs_nil, gs_cons, g_tp, g_sq, g_ix, s_par, s_par3, i_iter, i_zip, i_enm, i_range1, i_range2, wpO_ok, getO_some, isBl_bl, isInt_int, List.getElem?_cons_zero, List.getElem?_cons_succ, List.map_cons, List.map_nil, List.length_cons, List.length_nil, List.cons_append, List.nil_append, Nat.zero_add, Nat.reduceAdd, Nat.reduceSub, List.replicate_succ, List.replicate_zero, List.set_cons_zero, List.set_cons_succ, vw_non, vw_bl, vw_int, vw_str, vw_tup, vw_lst, vw_dic, vw_lok, Bool.not_true, Bool.not_false, Bool.false_eq_true, if_true, if_false, reduceIte, szOk_t, Nat.reduceLeDiff, true_and, vw_top, tyM_list, lay_vw rw'.lay, lay_vw rm.lay, lay_vw rd.lay, lay_vw ro.lay, lay_vw lf, vt]
  refine getO_of rfl ?_
  try simp only [w_ret, w_bad, w_var, w_c, w_dic0, w_bin, w_cmp, w_ix, w_tru, w_notV, w_andV, w_orV, w_ifE, w_notT, w_andT, w_orT, w_blT, w_chain, w_nil, w_cons, w_tup, w_lst, w_fz, w_new, w_neg, w_noP, w_P, w_sl, w_rev, w_bi, w_isT, w_call, w_list, w_listR, w_cat, w_mth, s_next, s_bad, s_break, s_cont, s_retN, s_seq, s_drop, s_ret, s_if, s_set, s_asg, g_nm, gs_nil, gs_cons, g_tp, g_sq, g_ix, s_par, s_par3, i_iter, i_zip, i_enm, i_range1, i_range2, wpO_ok, getO_some, isBl_bl, isInt_int, List.getElem?_cons_zero, List.getElem?_cons_succ, List.map_cons, List.map_nil, List.length_cons, List.length_nil, List.cons_append, List.nil_append, Nat.zero_add, Nat.reduceAdd, Nat.reduceSub, List.replicate_succ, List.replicate_zero, List.set_cons_zero, List.set_cons_succ, vw_non, vw_bl, vw_int, vw_str, vw_tup, vw_lst, vw_dic, vw_lok, Bool.not_true, Bool.not_false, Bool.false_eq_true, if_true, if_false, reduceIte, szOk_t, Nat.reduceLeDiff, true_and, vw_top, tyM_list, lay_vw rw'.lay, lay_vw rm.lay, lay_vw rd.lay, lay_vw ro.lay, lay_vw lf, vt]
  refine getO_of rfl ?_
  try simp only [w_ret, w_bad, w_var, w_c, w_dic0, w_bin, w_cmp, w_ix, w_tru, w_notV, w_andV, w_orV, w_ifE, w_notT, w_andT, w_orT, w_blT, w_chain, w_nil, w_cons, w_tup, w_lst, w_fz, w_new, w_neg, w_noP, w_P, w_sl, w_rev, w_bi, w_isT, w_call, w_list, w_listR, w_cat, w_mth, s_next, s_bad, s_break, s_cont, s_retN, s_seq, s_drop, s_ret, s_if, s_set, s_asg, g_nm, gs_nil, gs_cons, g_tp, g_sq, g_ix, s_par, s_par3, i_iter, i_zip, i_enm, i_range1, i_range2, wpO_ok, getO_some, isBl_bl, isInt_int, List.getElem?_cons_zero, List.getElem?_cons_succ, List.map_cons, List.map_nil, List.length_cons, List.length_nil, List.cons_append, List.nil_append, Nat.zero_add, Nat.reduceAdd, Nat.reduceSub, List.replicate_succ, List.replicate_zero, List.set_cons_zero, List.set_cons_succ, vw_non, vw_bl, vw_int, vw_str, vw_tup, vw_lst, vw_dic, vw_lok, Bool.not_true, Bool.not_false, Bool.false_eq_true, if_true, if_false, reduceIte, szOk_t, Nat.reduceLeDiff, true_and, vw_top, tyM_list, lay_vw rw'.lay, lay_vw rm.lay, lay_vw rd.lay, lay_vw ro.lay, lay_vw lf, vt]
  refine getO_of rfl ?_
  try simp only [w_ret, w_bad, w_var, w_c, w_dic0, w_bin, w_cmp, w_ix, w_tru, w_notV, w_andV, w_orV, w_ifE, w_notT, w_andT, w_orT, w_blT, w_chain, w_nil, w_cons, w_tup, w_lst, w_fz, w_new, w_neg, w_noP, w_P, w_sl, w_rev, w_bi, w_isT, w_call, w_list, w_listR, w_cat, w_mth, s_next, s_bad, s_break, s_cont, s_retN, s_seq, s_drop, s_ret, s_if, s_set, s_asg, g_nm, gs_nil, gs_cons, g_tp, g_sq, g_ix, s_par, s_par3, i_iter, i_zip, i_enm, i_range1, i_range2, wpO_ok, getO_some, isBl_bl, isInt_int, List.getElem?_cons_zero, List.getElem?_cons_succ, List.map_cons, List.map_nil, List.length_cons, List.length_nil, List.cons_append, List.nil_append, Nat.zero_add, Nat.reduceAdd, Nat.reduceSub, List.replicate_succ, List.replicate_zero, List.set_cons_zero, List.set_cons_succ, vw_non, vw_bl, vw_int, vw_str, vw_tup, vw_lst, vw_dic, vw_lok, Bool.not_true, Bool.not_false, Bool.false_eq_true, if_true, if_false, reduceIte, szOk_t, Nat.reduceLeDiff, true_and, vw_top, tyM_list, lay_vw rw'.lay, lay_vw rm.lay, lay_vw rd.lay, lay_vw ro.lay, lay_vw lf, vt]
  refine getO_of rep2 ?_
  try simp only [w_ret, w_bad, w_var, w_c, w_dic0, w_bin, w_cmp, w_ix, w_tru, w_notV, w_andV, w_orV, w_ifE, w_notT, w_andT, w_orT, w_blT, w_chain, w_nil, w_cons, w_tup, w_lst, w_fz, w_new, w_neg, w_noP, w_P, w_sl, w_rev, w_bi, w_isT, w_call, w_list, w_listR, w_cat, w_mth, s_next, s_bad, s_break, s_cont, s_retN, s_seq, s_drop, s_ret, s_if, s_set, s_asg, g_nm, gs_nil, gs_cons, g_tp, g_sq, g_ix, s_par, s_par3, i_iter, i_zip, i_enm, i_range1, i_range2, wpO_ok, getO_some, isBl_bl, isInt_int, List.getElem?_cons_zero, List.getElem?_cons_succ, List.map_cons, List.map_nil, List.length_cons, List.length_nil, List.cons_append, List.nil_append, Nat.zero_add, Nat.reduceAdd, Nat.reduceSub, List.replicate_succ, List.replicate_zero, List.set_cons_zero, List.set_cons_succ, vw_non, vw_bl, vw_int, vw_str, vw_tup, vw_lst, vw_dic, vw_lok, Bool.not_true, Bool.not_false, Bool.false_eq_true, if_true, if_false, reduceIte, szOk_t, Nat.reduceLeDiff, true_and, vw_top, tyM_list, lay_vw rw'.lay, lay_vw rm.lay, lay_vw rd.lay, lay_vw ro.lay, lay_vw lf, vt]
  refine getO_of (add_lst (by simp)) ?_
  try simp only [w_ret, w_bad, w_var, w_c, w_dic0, w_bin, w_cmp, w_ix, w_tru, w_notV, w_andV, w_orV, w_ifE, w_notT, w_andT, w_orT, w_blT, w_chain, w_nil, w_cons, w_tup, w_lst, w_fz, w_new, w_neg, w_noP, w_P, w_sl, w_rev, w_bi, w_isT, w_call, w_list, w_listR, w_cat, w_mth, s_next, s_bad, s_break, s_cont, s_retN, s_seq, s_drop, s_ret, s_if, s_set, s_asg, g_nm, gs_nil, gs_cons, g_tp, g_sq, g_ix, s_par, s_par3, i_iter, i_zip, i_enm, i_range1, i_range2, wpO_ok, getO_some, isBl_bl, isInt_int, List.getElem?_cons_zero, List.getElem?_cons_succ, List.map_cons, List.map_nil, List.length_cons, List.length_nil, List.cons_append, List.nil_append, Nat.zero_add, Nat.reduceAdd, Nat.reduceSub, List.replicate_succ, List.replicate_zero, List.set_cons_zero, List.set_cons_succ, vw_non, vw_bl, vw_int, vw_str, vw_tup, vw_lst, vw_dic, vw_lok, Bool.not_true, Bool.not_false, Bool.false_eq_true, if_true, if_false, reduceIte, szOk_t, Nat.reduceLeDiff, true_and, vw_top, tyM_list, lay_vw rw'.lay, lay_vw rm.lay, lay_vw rd.lay, lay_vw ro.lay, lay_vw lf, vt]
  have e := strs_eq (xs := [Str.ofString "width", Str.ofString "number " ++ many.py.shown, Str.ofString "vector", Str.ofString "vector", Str.ofString "width", Str.ofString "vector", Str.ofString "number " ++ word.py.shown, Str.ofString "width", Str.ofString "vector", Str.ofString "vector", Str.ofString "width", Str.ofString "number " ++ word.py.shown, Str.ofString "width", Str.ofString "number " ++ word.py.shown]) (by
    intro x hx
    simp only [List.mem_cons, List.not_mem_nil, or_false] at hx
    rcases hx with rfl | rfl | rfl | rfl | rfl | rfl | rfl | rfl | rfl | rfl | rfl | rfl | rfl | rfl
    · exact canw
    · exact hm.t
    · exact canv
    · exact canv
    · exact canw
    · exact canv
    · exact hwd.t
    · exact canw
    · exact canv
    · exact canv
    · exact canw
    · exact hwd.t
    · exact canw
    · exact hwd.t)
  refine getO_of e ?_
  exact end_chA H c3 low_bl (q h4 c3)
end
end Pw
set_option maxHeartbeats 0
namespace Tk03
open PySem PySem.Spec PyProof.Rows L2 WW
abbrev RR : PySem.W.OpenLaw := PySem.Challenge.rw_wordwide_k03_levels_inverses_and_errors
def top (i : Nat) : Stmt := (PySem.Challenge.pw_wordwide_k03_levels_inverses_and_errors).main.body.getD i (.Pass ⟨0, 0, 0, 0⟩)
def d_is_integer : DD := ⟨"is_integer", "is_integer", defArgs (top 9), defBody (top 9), defScope (top 9), ["value"], ["value"], false, false, [], false⟩
def d_is_between : DD := ⟨"is_between", "is_between", defArgs (top 10), defBody (top 10), defScope (top 10), ["value", "low", "high"], ["value", "low", "high"], false, false, [], false⟩
def d_is_width : DD := ⟨"is_width", "is_width", defArgs (top 11), defBody (top 11), defScope (top 11), ["value"], ["value"], false, false, [], false⟩
def d_is_size : DD := ⟨"is_size", "is_size", defArgs (top 12), defBody (top 12), defScope (top 12), ["value"], ["value"], false, false, [], false⟩
def d_require_width : DD := ⟨"require_width", "require_width", defArgs (top 13), defBody (top 13), defScope (top 13), ["width"], ["width"], false, false, [], false⟩
def d_require_size : DD := ⟨"require_size", "require_size", defArgs (top 14), defBody (top 14), defScope (top 14), ["size"], ["size"], false, false, [], false⟩
def d_modulus_of : DD := ⟨"modulus_of", "modulus_of", defArgs (top 15), defBody (top 15), defScope (top 15), ["width"], ["width"], false, false, [], false⟩
def d_is_word_of : DD := ⟨"is_word_of", "is_word_of", defArgs (top 16), defBody (top 16), defScope (top 16), ["width", "value"], ["width", "value"], false, false, [], false⟩
def d_are_words : DD := ⟨"are_words", "are_words", defArgs (top 17), defBody (top 17), defScope (top 17), ["width", "value", "word"], ["width", "value"], false, false, [], false⟩
def d_is_vector_of : DD := ⟨"is_vector_of", "is_vector_of", defArgs (top 18), defBody (top 18), defScope (top 18), ["width", "size", "value"], ["width", "size", "value"], false, false, [], false⟩
def d_is_any_vector : DD := ⟨"is_any_vector", "is_any_vector", defArgs (top 19), defBody (top 19), defScope (top 19), ["width", "value"], ["width", "value"], false, false, [], false⟩
def d_require_vector : DD := ⟨"require_vector", "require_vector", defArgs (top 20), defBody (top 20), defScope (top 20), ["width", "size", "vector"], ["width", "size", "vector"], false, false, [], false⟩
def d_require_word : DD := ⟨"require_word", "require_word", defArgs (top 21), defBody (top 21), defScope (top 21), ["width", "word"], ["width", "word"], false, false, [], false⟩
def d_sum_by : DD := ⟨"sum_by", "sum_by", defArgs (top 22), defBody (top 22), defScope (top 22), ["width", "one", "other", "modulus", "first", "second"], ["width", "one", "other"], false, false, [], false⟩
def d_multiple_by : DD := ⟨"multiple_by", "multiple_by", defArgs (top 23), defBody (top 23), defScope (top 23), ["width", "vector", "factor", "modulus", "word"], ["width", "vector", "factor"], false, false, [], false⟩
def d_dot_by : DD := ⟨"dot_by", "dot_by", defArgs (top 24), defBody (top 24), defScope (top 24), ["width", "one", "other", "first", "second"], ["width", "one", "other"], false, false, [], false⟩
def d_level_of : DD := ⟨"level_of", "level_of", defArgs (top 25), defBody (top 25), defScope (top 25), ["width", "word", "level"], ["width", "word"], false, false, [], false⟩
def d_inverse_of : DD := ⟨"inverse_of", "inverse_of", defArgs (top 26), defBody (top 26), defScope (top 26), ["width", "word", "modulus", "found", "bits"], ["width", "word"], false, false, [], false⟩
def d_vector_sum : DD := ⟨"vector_sum", "vector_sum", defArgs (top 27), defBody (top 27), defScope (top 27), ["width", "size", "vectors", "found", "vector"], ["width", "size"], true, false, [], false⟩
def d_vector_multiple : DD := ⟨"vector_multiple", "vector_multiple", defArgs (top 28), defBody (top 28), defScope (top 28), ["width", "vector", "factor"], ["width", "vector", "factor"], false, false, [], false⟩
def d_dot_product : DD := ⟨"dot_product", "dot_product", defArgs (top 29), defBody (top 29), defScope (top 29), ["width", "first", "second"], ["width", "first", "second"], false, false, [], false⟩
def d_word_level : DD := ⟨"word_level", "word_level", defArgs (top 30), defBody (top 30), defScope (top 30), ["width", "word"], ["width", "word"], false, false, [], false⟩
def d_word_inverse : DD := ⟨"word_inverse", "word_inverse", defArgs (top 31), defBody (top 31), defScope (top 31), ["width", "word"], ["width", "word"], false, false, [], false⟩
def d_law_stream : DD := ⟨"_law_stream", "_law_stream", defArgs (top 33), defBody (top 33), defScope (top 33), ["script", "at", "cell", "great", "mixed"], ["script", "at"], false, true, [], false⟩
def d_law_draw : DD := ⟨"_law_draw", "_law_draw", defArgs (top 34), defBody (top 34), defScope (top 34), ["stream", "total", "found", "one", "two"], ["stream", "total"], false, false, [], false⟩
def d_law_pick : DD := ⟨"_law_pick", "_law_pick", defArgs (top 35), defBody (top 35), defScope (top 35), ["stream", "items"], ["stream", "items"], false, false, [], false⟩
def d_law_row : DD := ⟨"_law_row", "_law_row", defArgs (top 36), defBody (top 36), defScope (top 36), ["stream", "width", "size", "some", "top", "at"], ["stream", "width", "size"], false, false, ["some"], false⟩
def d_law_other : DD := ⟨"_law_other", "_law_other", defArgs (top 37), defBody (top 37), defScope (top 37), ["stream", "some"], ["stream"], false, false, [], false⟩
def d_law_width : DD := ⟨"_law_width", "_law_width", defArgs (top 38), defBody (top 38), defScope (top 38), ["stream"], ["stream"], false, false, [], false⟩
def d_law_size : DD := ⟨"_law_size", "_law_size", defArgs (top 39), defBody (top 39), defScope (top 39), ["stream"], ["stream"], false, false, [], false⟩
def d_law_is_word : DD := ⟨"_law_is_word", "_law_is_word", defArgs (top 40), defBody (top 40), defScope (top 40), ["width", "value"], ["width", "value"], false, false, [], false⟩
def d_law_is_vector : DD := ⟨"_law_is_vector", "_law_is_vector", defArgs (top 41), defBody (top 41), defScope (top 41), ["width", "size", "value", "word"], ["width", "size", "value"], false, false, [], false⟩
def d_law_bent : DD := ⟨"_law_bent", "_law_bent", defArgs (top 42), defBody (top 42), defScope (top 42), ["stream", "value", "at", "some"], ["stream", "value"], false, false, [], false⟩
def d_law_bad : DD := ⟨"_law_bad", "_law_bad", defArgs (top 43), defBody (top 43), defScope (top 43), ["stream", "is_good", "value", "turn"], ["stream", "is_good"], false, false, [], false⟩
def d_law_bad_width : DD := ⟨"_law_bad_width", "_law_bad_width", defArgs (top 44), defBody (top 44), defScope (top 44), ["stream"], ["stream"], false, false, [], true⟩
def d_law_bad_size : DD := ⟨"_law_bad_size", "_law_bad_size", defArgs (top 45), defBody (top 45), defScope (top 45), ["stream"], ["stream"], false, false, [], true⟩
def d_law_word : DD := ⟨"_law_word", "_law_word", defArgs (top 46), defBody (top 46), defScope (top 46), ["stream", "width"], ["stream", "width"], false, false, [], false⟩
def d_law_refusal : DD := ⟨"_law_refusal", "_law_refusal", defArgs (top 47), defBody (top 47), defScope (top 47), ["call", "e", "kinds"], ["call"], false, false, [], false⟩
def d_law_word_right : DD := ⟨"_law_word_right", "_law_word_right", defArgs (top 48), defBody (top 48), defScope (top 48), ["width", "word", "level", "found"], ["width", "word"], false, false, [], true⟩
def d_law_bad_word : DD := ⟨"_law_bad_word", "_law_bad_word", defArgs (top 49), defBody (top 49), defScope (top 49), ["stream", "width"], ["stream", "width"], false, false, [], true⟩
def d_law_bad_vector : DD := ⟨"_law_bad_vector", "_law_bad_vector", defArgs (top 50), defBody (top 50), defScope (top 50), ["stream", "width", "size", "vector", "value", "turn"], ["stream", "width", "size"], false, false, [], false⟩
def d_law_is_any : DD := ⟨"_law_is_any", "_law_is_any", defArgs (top 51), defBody (top 51), defScope (top 51), ["width", "value"], ["width", "value"], false, false, [], false⟩
def d_law_errors_right : DD := ⟨"_law_errors_right", "_law_errors_right", defArgs (top 52), defBody (top 52), defScope (top 52), ["stream", "width", "size", "wide", "many", "word", "good", "odd", "free", "found", "words", "due"], ["stream", "width", "size"], false, false, ["found"], true⟩
def d_law_long_right : DD := ⟨"_law_long_right", "_law_long_right", defArgs (top 53), defBody (top 53), defScope (top 53), ["word", "found"], [], false, false, ["found"], true⟩
def d_law : DD := ⟨"law", "law", defArgs (top 54), defBody (top 54), defScope (top 54), ["script", "k", "stream", "width", "size", "some", "turn", "word"], ["script"], false, false, [], false⟩
def ds : List DD := [d_is_integer, d_is_between, d_is_width, d_is_size, d_require_width, d_require_size, d_modulus_of, d_is_word_of, d_are_words, d_is_vector_of, d_is_any_vector, d_require_vector, d_require_word, d_sum_by, d_multiple_by, d_dot_by, d_level_of, d_inverse_of, d_vector_sum, d_vector_multiple, d_dot_product, d_word_level, d_word_inverse, d_law_stream, d_law_draw, d_law_pick, d_law_row, d_law_other, d_law_width, d_law_size, d_law_is_word, d_law_is_vector, d_law_bent, d_law_bad, d_law_bad_width, d_law_bad_size, d_law_word, d_law_refusal, d_law_word_right, d_law_bad_word, d_law_bad_vector, d_law_is_any, d_law_errors_right, d_law_long_right, d_law]
def frees : List Str := ["IndexError", "ValueError", "abs", "all", "bool", "int", "isinstance", "len", "list", "max", "min", "range", "repr", "str", "sum", "tuple", "zip"]
def numbers : List (Str × Int) := [("MAX_WIDTH", 16), ("MAX_SIZE", 40)]
def xs : List Xd := [⟨"WordsError", none, ["WordsError", "ValueError"]⟩, ⟨"InvalidWidth", none, ["InvalidWidth", "WordsError", "ValueError"]⟩, ⟨"InvalidVector", none, ["InvalidVector", "WordsError", "ValueError"]⟩, ⟨"InvalidBasis", none, ["InvalidBasis", "WordsError", "ValueError"]⟩, ⟨"InvalidNumber", some "value", ["InvalidNumber", "IndexError", "LookupError"]⟩]
def T : Tx := ⟨frees, numbers, ds, xs, 60⟩
def ini_InvalidNumber : Stmt := (clsBody (top 5)).getD 0 (.Pass ⟨0, 0, 0, 0⟩)
def inis : List He.DefD := [⟨("InvalidNumber", some "__init__"), "__init__", "InvalidNumber.__init__", defArgs ini_InvalidNumber, defBody ini_InvalidNumber, defScope ini_InvalidNumber, [], []⟩]
theorem b_is_integer : BOk d_is_integer ["value"] := ⟨⟨rfl, rfl, rfl, by decide +kernel, rfl, by decide +kernel, by decide +kernel⟩, 
  .inl ⟨rfl, rfl, fun _ _ _ _ _ _ us hl => match us, hl with | [_], _ => rfl⟩⟩
theorem b_is_between : BOk d_is_between ["value", "low", "high"] := ⟨⟨rfl, rfl, rfl, by decide +kernel, rfl, by decide +kernel, by decide +kernel⟩, 
  .inl ⟨rfl, rfl, fun _ _ _ _ _ _ us hl => match us, hl with | [_, _, _], _ => rfl⟩⟩
theorem b_is_width : BOk d_is_width ["value"] := ⟨⟨rfl, rfl, rfl, by decide +kernel, rfl, by decide +kernel, by decide +kernel⟩, 
  .inl ⟨rfl, rfl, fun _ _ _ _ _ _ us hl => match us, hl with | [_], _ => rfl⟩⟩
theorem b_is_size : BOk d_is_size ["value"] := ⟨⟨rfl, rfl, rfl, by decide +kernel, rfl, by decide +kernel, by decide +kernel⟩, 
  .inl ⟨rfl, rfl, fun _ _ _ _ _ _ us hl => match us, hl with | [_], _ => rfl⟩⟩
theorem b_require_width : BOk d_require_width ["width"] := ⟨⟨rfl, rfl, rfl, by decide +kernel, rfl, by decide +kernel, by decide +kernel⟩, 
  .inl ⟨rfl, rfl, fun _ _ _ _ _ _ us hl => match us, hl with | [_], _ => rfl⟩⟩
theorem b_require_size : BOk d_require_size ["size"] := ⟨⟨rfl, rfl, rfl, by decide +kernel, rfl, by decide +kernel, by decide +kernel⟩, 
  .inl ⟨rfl, rfl, fun _ _ _ _ _ _ us hl => match us, hl with | [_], _ => rfl⟩⟩
theorem b_modulus_of : BOk d_modulus_of ["width"] := ⟨⟨rfl, rfl, rfl, by decide +kernel, rfl, by decide +kernel, by decide +kernel⟩, 
  .inl ⟨rfl, rfl, fun _ _ _ _ _ _ us hl => match us, hl with | [_], _ => rfl⟩⟩
theorem b_is_word_of : BOk d_is_word_of ["width", "value"] := ⟨⟨rfl, rfl, rfl, by decide +kernel, rfl, by decide +kernel, by decide +kernel⟩, 
  .inl ⟨rfl, rfl, fun _ _ _ _ _ _ us hl => match us, hl with | [_, _], _ => rfl⟩⟩
theorem b_are_words : BOk d_are_words ["width", "value"] := ⟨⟨rfl, rfl, rfl, by decide +kernel, rfl, by decide +kernel, by decide +kernel⟩, 
  .inl ⟨rfl, rfl, fun _ _ _ _ _ _ us hl => match us, hl with | [_, _], _ => rfl⟩⟩
theorem b_is_vector_of : BOk d_is_vector_of ["width", "size", "value"] := ⟨⟨rfl, rfl, rfl, by decide +kernel, rfl, by decide +kernel, by decide +kernel⟩, 
  .inl ⟨rfl, rfl, fun _ _ _ _ _ _ us hl => match us, hl with | [_, _, _], _ => rfl⟩⟩
theorem b_is_any_vector : BOk d_is_any_vector ["width", "value"] := ⟨⟨rfl, rfl, rfl, by decide +kernel, rfl, by decide +kernel, by decide +kernel⟩, 
  .inl ⟨rfl, rfl, fun _ _ _ _ _ _ us hl => match us, hl with | [_, _], _ => rfl⟩⟩
theorem b_require_vector : BOk d_require_vector ["width", "size", "vector"] := ⟨⟨rfl, rfl, rfl, by decide +kernel, rfl, by decide +kernel, by decide +kernel⟩, 
  .inl ⟨rfl, rfl, fun _ _ _ _ _ _ us hl => match us, hl with | [_, _, _], _ => rfl⟩⟩
theorem b_require_word : BOk d_require_word ["width", "word"] := ⟨⟨rfl, rfl, rfl, by decide +kernel, rfl, by decide +kernel, by decide +kernel⟩, 
  .inl ⟨rfl, rfl, fun _ _ _ _ _ _ us hl => match us, hl with | [_, _], _ => rfl⟩⟩
theorem b_sum_by : BOk d_sum_by ["width", "one", "other"] := ⟨⟨rfl, rfl, rfl, by decide +kernel, rfl, by decide +kernel, by decide +kernel⟩, 
  .inl ⟨rfl, rfl, fun _ _ _ _ _ _ us hl => match us, hl with | [_, _, _], _ => rfl⟩⟩
theorem b_multiple_by : BOk d_multiple_by ["width", "vector", "factor"] := ⟨⟨rfl, rfl, rfl, by decide +kernel, rfl, by decide +kernel, by decide +kernel⟩, 
  .inl ⟨rfl, rfl, fun _ _ _ _ _ _ us hl => match us, hl with | [_, _, _], _ => rfl⟩⟩
theorem b_dot_by : BOk d_dot_by ["width", "one", "other"] := ⟨⟨rfl, rfl, rfl, by decide +kernel, rfl, by decide +kernel, by decide +kernel⟩, 
  .inl ⟨rfl, rfl, fun _ _ _ _ _ _ us hl => match us, hl with | [_, _, _], _ => rfl⟩⟩
theorem b_level_of : BOk d_level_of ["width", "word"] := ⟨⟨rfl, rfl, rfl, by decide +kernel, rfl, by decide +kernel, by decide +kernel⟩, 
  .inl ⟨rfl, rfl, fun _ _ _ _ _ _ us hl => match us, hl with | [_, _], _ => rfl⟩⟩
theorem b_inverse_of : BOk d_inverse_of ["width", "word"] := ⟨⟨rfl, rfl, rfl, by decide +kernel, rfl, by decide +kernel, by decide +kernel⟩, 
  .inl ⟨rfl, rfl, fun _ _ _ _ _ _ us hl => match us, hl with | [_, _], _ => rfl⟩⟩
theorem b_vector_sum : BOk d_vector_sum ["width", "size", "vectors"] := ⟨⟨rfl, rfl, rfl, by decide +kernel, rfl, by decide +kernel, by decide +kernel⟩, 
  .inr ⟨rfl, "vectors", rfl, fun _ _ _ _ _ _ us rest hl => match us, rest, hl with | [a0, a1], [], _ => rfl | [a0, a1], _ :: _, _ => rfl⟩⟩
theorem b_vector_multiple : BOk d_vector_multiple ["width", "vector", "factor"] := ⟨⟨rfl, rfl, rfl, by decide +kernel, rfl, by decide +kernel, by decide +kernel⟩, 
  .inl ⟨rfl, rfl, fun _ _ _ _ _ _ us hl => match us, hl with | [_, _, _], _ => rfl⟩⟩
theorem b_dot_product : BOk d_dot_product ["width", "first", "second"] := ⟨⟨rfl, rfl, rfl, by decide +kernel, rfl, by decide +kernel, by decide +kernel⟩, 
  .inl ⟨rfl, rfl, fun _ _ _ _ _ _ us hl => match us, hl with | [_, _, _], _ => rfl⟩⟩
theorem b_word_level : BOk d_word_level ["width", "word"] := ⟨⟨rfl, rfl, rfl, by decide +kernel, rfl, by decide +kernel, by decide +kernel⟩, 
  .inl ⟨rfl, rfl, fun _ _ _ _ _ _ us hl => match us, hl with | [_, _], _ => rfl⟩⟩
theorem b_word_inverse : BOk d_word_inverse ["width", "word"] := ⟨⟨rfl, rfl, rfl, by decide +kernel, rfl, by decide +kernel, by decide +kernel⟩, 
  .inl ⟨rfl, rfl, fun _ _ _ _ _ _ us hl => match us, hl with | [_, _], _ => rfl⟩⟩
theorem b_law_stream : BOk d_law_stream ["script", "at"] := ⟨⟨rfl, rfl, rfl, by decide +kernel, rfl, by decide +kernel, by decide +kernel⟩, 
  .inl ⟨rfl, rfl, fun _ _ _ _ _ _ us hl => match us, hl with | [_, _], _ => rfl⟩⟩
theorem b_law_draw : BOk d_law_draw ["stream", "total"] := ⟨⟨rfl, rfl, rfl, by decide +kernel, rfl, by decide +kernel, by decide +kernel⟩, 
  .inl ⟨rfl, rfl, fun _ _ _ _ _ _ us hl => match us, hl with | [_, _], _ => rfl⟩⟩
theorem b_law_pick : BOk d_law_pick ["stream", "items"] := ⟨⟨rfl, rfl, rfl, by decide +kernel, rfl, by decide +kernel, by decide +kernel⟩, 
  .inl ⟨rfl, rfl, fun _ _ _ _ _ _ us hl => match us, hl with | [_, _], _ => rfl⟩⟩
theorem b_law_row : BOk d_law_row ["stream", "width", "size"] := ⟨⟨rfl, rfl, rfl, by decide +kernel, rfl, by decide +kernel, by decide +kernel⟩, 
  .inl ⟨rfl, rfl, fun _ _ _ _ _ _ us hl => match us, hl with | [_, _, _], _ => rfl⟩⟩
theorem b_law_other : BOk d_law_other ["stream"] := ⟨⟨rfl, rfl, rfl, by decide +kernel, rfl, by decide +kernel, by decide +kernel⟩, 
  .inl ⟨rfl, rfl, fun _ _ _ _ _ _ us hl => match us, hl with | [_], _ => rfl⟩⟩
theorem b_law_width : BOk d_law_width ["stream"] := ⟨⟨rfl, rfl, rfl, by decide +kernel, rfl, by decide +kernel, by decide +kernel⟩, 
  .inl ⟨rfl, rfl, fun _ _ _ _ _ _ us hl => match us, hl with | [_], _ => rfl⟩⟩
theorem b_law_size : BOk d_law_size ["stream"] := ⟨⟨rfl, rfl, rfl, by decide +kernel, rfl, by decide +kernel, by decide +kernel⟩, 
  .inl ⟨rfl, rfl, fun _ _ _ _ _ _ us hl => match us, hl with | [_], _ => rfl⟩⟩
theorem b_law_is_word : BOk d_law_is_word ["width", "value"] := ⟨⟨rfl, rfl, rfl, by decide +kernel, rfl, by decide +kernel, by decide +kernel⟩, 
  .inl ⟨rfl, rfl, fun _ _ _ _ _ _ us hl => match us, hl with | [_, _], _ => rfl⟩⟩
theorem b_law_is_vector : BOk d_law_is_vector ["width", "size", "value"] := ⟨⟨rfl, rfl, rfl, by decide +kernel, rfl, by decide +kernel, by decide +kernel⟩, 
  .inl ⟨rfl, rfl, fun _ _ _ _ _ _ us hl => match us, hl with | [_, _, _], _ => rfl⟩⟩
theorem b_law_bent : BOk d_law_bent ["stream", "value"] := ⟨⟨rfl, rfl, rfl, by decide +kernel, rfl, by decide +kernel, by decide +kernel⟩, 
  .inl ⟨rfl, rfl, fun _ _ _ _ _ _ us hl => match us, hl with | [_, _], _ => rfl⟩⟩
theorem b_law_bad : BOk d_law_bad ["stream", "is_good"] := ⟨⟨rfl, rfl, rfl, by decide +kernel, rfl, by decide +kernel, by decide +kernel⟩, 
  .inl ⟨rfl, rfl, fun _ _ _ _ _ _ us hl => match us, hl with | [_, _], _ => rfl⟩⟩
theorem b_law_bad_width : BOk d_law_bad_width ["stream"] := ⟨⟨rfl, rfl, rfl, by decide +kernel, rfl, by decide +kernel, by decide +kernel⟩, 
  .inl ⟨rfl, rfl, fun _ _ _ _ _ _ us hl => match us, hl with | [_], _ => rfl⟩⟩
theorem b_law_bad_size : BOk d_law_bad_size ["stream"] := ⟨⟨rfl, rfl, rfl, by decide +kernel, rfl, by decide +kernel, by decide +kernel⟩, 
  .inl ⟨rfl, rfl, fun _ _ _ _ _ _ us hl => match us, hl with | [_], _ => rfl⟩⟩
theorem b_law_word : BOk d_law_word ["stream", "width"] := ⟨⟨rfl, rfl, rfl, by decide +kernel, rfl, by decide +kernel, by decide +kernel⟩, 
  .inl ⟨rfl, rfl, fun _ _ _ _ _ _ us hl => match us, hl with | [_, _], _ => rfl⟩⟩
theorem b_law_refusal : BOk d_law_refusal ["call"] := ⟨⟨rfl, rfl, rfl, by decide +kernel, rfl, by decide +kernel, by decide +kernel⟩, 
  .inl ⟨rfl, rfl, fun _ _ _ _ _ _ us hl => match us, hl with | [_], _ => rfl⟩⟩
theorem b_law_word_right : BOk d_law_word_right ["width", "word"] := ⟨⟨rfl, rfl, rfl, by decide +kernel, rfl, by decide +kernel, by decide +kernel⟩, 
  .inl ⟨rfl, rfl, fun _ _ _ _ _ _ us hl => match us, hl with | [_, _], _ => rfl⟩⟩
theorem b_law_bad_word : BOk d_law_bad_word ["stream", "width"] := ⟨⟨rfl, rfl, rfl, by decide +kernel, rfl, by decide +kernel, by decide +kernel⟩, 
  .inl ⟨rfl, rfl, fun _ _ _ _ _ _ us hl => match us, hl with | [_, _], _ => rfl⟩⟩
theorem b_law_bad_vector : BOk d_law_bad_vector ["stream", "width", "size"] := ⟨⟨rfl, rfl, rfl, by decide +kernel, rfl, by decide +kernel, by decide +kernel⟩, 
  .inl ⟨rfl, rfl, fun _ _ _ _ _ _ us hl => match us, hl with | [_, _, _], _ => rfl⟩⟩
theorem b_law_is_any : BOk d_law_is_any ["width", "value"] := ⟨⟨rfl, rfl, rfl, by decide +kernel, rfl, by decide +kernel, by decide +kernel⟩, 
  .inl ⟨rfl, rfl, fun _ _ _ _ _ _ us hl => match us, hl with | [_, _], _ => rfl⟩⟩
theorem b_law_errors_right : BOk d_law_errors_right ["stream", "width", "size"] := ⟨⟨rfl, rfl, rfl, by decide +kernel, rfl, by decide +kernel, by decide +kernel⟩, 
  .inl ⟨rfl, rfl, fun _ _ _ _ _ _ us hl => match us, hl with | [_, _, _], _ => rfl⟩⟩
theorem b_law_long_right : BOk d_law_long_right [] := ⟨⟨rfl, rfl, rfl, by decide +kernel, rfl, by decide +kernel, by decide +kernel⟩, 
  .inl ⟨rfl, rfl, fun _ _ _ _ _ _ us hl => match us, hl with | [], _ => rfl⟩⟩
theorem b_law : BOk d_law ["script"] := ⟨⟨rfl, rfl, rfl, by decide +kernel, rfl, by decide +kernel, by decide +kernel⟩, 
  .inl ⟨rfl, rfl, fun _ _ _ _ _ _ us hl => match us, hl with | [_], _ => rfl⟩⟩
def loose : List Str := (["__name__", "WordsError", "InvalidWidth", "InvalidVector", "InvalidBasis", "InvalidNumber", "MAX_WIDTH", "MAX_SIZE", "is_integer", "is_between", "is_width", "is_size", "require_width", "require_size", "modulus_of", "is_word_of", "are_words", "is_vector_of", "is_any_vector", "require_vector", "require_word", "sum_by", "multiple_by", "dot_by", "level_of", "inverse_of", "vector_sum", "vector_multiple", "dot_product", "word_level"] : List Str) ++ (["word_inverse", "_law_stream", "_law_draw", "_law_pick", "_law_row", "_law_other", "_law_width", "_law_size", "_law_is_word", "_law_is_vector", "_law_bent", "_law_bad", "_law_bad_width", "_law_bad_size", "_law_word", "_law_refusal", "_law_word_right", "_law_bad_word", "_law_bad_vector", "_law_is_any", "_law_errors_right", "_law_long_right"] : List Str)
abbrev lawI : Nat := 54
theorem bs : ∀ d ∈ ds, ∃ ps, BOk d ps := List.forall_mem_cons.mpr ⟨⟨_, b_is_integer⟩, List.forall_mem_cons.mpr ⟨⟨_, b_is_between⟩, List.forall_mem_cons.mpr ⟨⟨_, b_is_width⟩, List.forall_mem_cons.mpr ⟨⟨_, b_is_size⟩, List.forall_mem_cons.mpr ⟨⟨_, b_require_width⟩, List.forall_mem_cons.mpr ⟨⟨_, b_require_size⟩, List.forall_mem_cons.mpr ⟨⟨_, b_modulus_of⟩, List.forall_mem_cons.mpr ⟨⟨_, b_is_word_of⟩, List.forall_mem_cons.mpr ⟨⟨_, b_are_words⟩, List.forall_mem_cons.mpr ⟨⟨_, b_is_vector_of⟩, List.forall_mem_cons.mpr ⟨⟨_, b_is_any_vector⟩, List.forall_mem_cons.mpr ⟨⟨_, b_require_vector⟩, List.forall_mem_cons.mpr ⟨⟨_, b_require_word⟩, List.forall_mem_cons.mpr ⟨⟨_, b_sum_by⟩, List.forall_mem_cons.mpr ⟨⟨_, b_multiple_by⟩, List.forall_mem_cons.mpr ⟨⟨_, b_dot_by⟩, List.forall_mem_cons.mpr ⟨⟨_, b_level_of⟩, List.forall_mem_cons.mpr ⟨⟨_, b_inverse_of⟩, List.forall_mem_cons.mpr ⟨⟨_, b_vector_sum⟩, List.forall_mem_cons.mpr ⟨⟨_, b_vector_multiple⟩, List.forall_mem_cons.mpr ⟨⟨_, b_dot_product⟩, List.forall_mem_cons.mpr ⟨⟨_, b_word_level⟩, List.forall_mem_cons.mpr ⟨⟨_, b_word_inverse⟩, List.forall_mem_cons.mpr ⟨⟨_, b_law_stream⟩, List.forall_mem_cons.mpr ⟨⟨_, b_law_draw⟩, List.forall_mem_cons.mpr ⟨⟨_, b_law_pick⟩, List.forall_mem_cons.mpr ⟨⟨_, b_law_row⟩, List.forall_mem_cons.mpr ⟨⟨_, b_law_other⟩, List.forall_mem_cons.mpr ⟨⟨_, b_law_width⟩, List.forall_mem_cons.mpr ⟨⟨_, b_law_size⟩, List.forall_mem_cons.mpr ⟨⟨_, b_law_is_word⟩, List.forall_mem_cons.mpr ⟨⟨_, b_law_is_vector⟩, List.forall_mem_cons.mpr ⟨⟨_, b_law_bent⟩, List.forall_mem_cons.mpr ⟨⟨_, b_law_bad⟩, List.forall_mem_cons.mpr ⟨⟨_, b_law_bad_width⟩, List.forall_mem_cons.mpr ⟨⟨_, b_law_bad_size⟩, List.forall_mem_cons.mpr ⟨⟨_, b_law_word⟩, List.forall_mem_cons.mpr ⟨⟨_, b_law_refusal⟩, List.forall_mem_cons.mpr ⟨⟨_, b_law_word_right⟩, List.forall_mem_cons.mpr ⟨⟨_, b_law_bad_word⟩, List.forall_mem_cons.mpr ⟨⟨_, b_law_bad_vector⟩, List.forall_mem_cons.mpr ⟨⟨_, b_law_is_any⟩, List.forall_mem_cons.mpr ⟨⟨_, b_law_errors_right⟩, List.forall_mem_cons.mpr ⟨⟨_, b_law_long_right⟩, List.forall_mem_cons.mpr ⟨⟨_, b_law⟩, fun _ h => nomatch h⟩⟩⟩⟩⟩⟩⟩⟩⟩⟩⟩⟩⟩⟩⟩⟩⟩⟩⟩⟩⟩⟩⟩⟩⟩⟩⟩⟩⟩⟩⟩⟩⟩⟩⟩⟩⟩⟩⟩⟩⟩⟩⟩⟩⟩
theorem ini_ok : IniOk T inis := List.forall_mem_cons.mpr ⟨(fun f h => nomatch h), List.forall_mem_cons.mpr ⟨(fun f h => nomatch h), List.forall_mem_cons.mpr ⟨(fun f h => nomatch h), List.forall_mem_cons.mpr ⟨(fun f h => nomatch h), List.forall_mem_cons.mpr ⟨(fun f h => by cases h; exact ⟨_, _, _, _, _, _, _, List.mem_of_getElem? (i := 0) rfl⟩), fun _ h => nomatch h⟩⟩⟩⟩⟩
abbrev hk : PySem.W.Hook := hookW 5 T.fa (T.fn inis) T.tf T.ex
def ob (s : PySem.W.SharedT) : Al := obsW 5 T.fa (T.fn inis) T.tf T.ex (HandSHeadRun.getT s)
theorem ob_eq (s : PySem.W.SharedT) : ob s = hk.obs s.abs := obsW_eq (HandSHeadRun.getT_eq s)
theorem run (w : World) : HandSHeadRun.RunEq (PySem.W.OpenLaw.row RR) (PySem.W.view (PySem.W.OpenLaw.row RR).prog [lawI]) hk ob 3000 loose w := by
  intro os
  kernel_rfl
theorem law_in : ("law" : Str) ∈ T.names := List.mem_map.mpr ⟨d_law, List.mem_of_getElem? (l := ds) (i := 44) rfl, rfl⟩
theorem holds_of (spec : ∀ ns : List Int, ns.length ≤ 63 → (∀ z ∈ ns, Builtin.Int.intBits z ≤ 1048576) → ∃ h, callE T 14 "law" [.lok (ns.map D.int)] [] = .ok (.bl true) h) : RR.Holds := by
  w_on; o_law
  refine HandSHeadRun.head_any (r := PySem.W.OpenLaw.row RR) (q := PySem.W.view (PySem.W.OpenLaw.row RR).prog [lawI]) (H := hk) (ob := ob) (M := 3000) (loose := loose) (d := HandSHeadRun.topDef (PySem.W.OpenLaw.row RR).prog lawI) (kwd := []) ob_eq
    (by kernel_rfl) (fun s => by kernel_rfl) run (by kernel_rfl) (by kernel_rfl) (by kernel_rfl) (by rfl) (by first | assumption | decide +kernel) (by decide +kernel) ⟨rfl, rfl, rfl, rfl, rfl, by decide +kernel⟩ ?hw ?hc
  case hw => w_witness2
  case hc => exact walk_T (l := RR) rfl (by kernel_rfl) ⟨rfl, by decide, by decide⟩ (by kernel_rfl) bs ini_ok law_in spec
end Tk03
set_option maxHeartbeats 4000000
namespace Tk03
open PySem PySem.Spec PyProof.Rows L2 WW
theorem i_is_integer : Is (callE T) "is_integer" 1 1 false false Mr.m_is_integer := is_of (d := d_is_integer) (by kernel_rfl) rfl rfl rfl rfl fun c cl ct dp => by kernel_rfl
theorem i_is_between : Is (callE T) "is_between" 3 3 false false Mr.m_is_between := is_of (d := d_is_between) (by kernel_rfl) rfl rfl rfl rfl fun c cl ct dp => by kernel_rfl
theorem i_is_width : Is (callE T) "is_width" 1 1 false false Mr.m_is_width := is_of (d := d_is_width) (by kernel_rfl) rfl rfl rfl rfl fun c cl ct dp => by kernel_rfl
theorem i_is_size : Is (callE T) "is_size" 1 1 false false Mr.m_is_size := is_of (d := d_is_size) (by kernel_rfl) rfl rfl rfl rfl fun c cl ct dp => by kernel_rfl
theorem i_require_width : Is (callE T) "require_width" 1 1 false false Mr.m_require_width := is_of (d := d_require_width) (by kernel_rfl) rfl rfl rfl rfl fun c cl ct dp => by kernel_rfl
theorem i_require_size : Is (callE T) "require_size" 1 1 false false Mr.m_require_size := is_of (d := d_require_size) (by kernel_rfl) rfl rfl rfl rfl fun c cl ct dp => by kernel_rfl
theorem i_modulus_of : Is (callE T) "modulus_of" 1 1 false false Mr.m_modulus_of := is_of (d := d_modulus_of) (by kernel_rfl) rfl rfl rfl rfl fun c cl ct dp => by kernel_rfl
theorem i_is_word_of : Is (callE T) "is_word_of" 2 2 false false Mr.m_is_word_of := is_of (d := d_is_word_of) (by kernel_rfl) rfl rfl rfl rfl fun c cl ct dp => by kernel_rfl
theorem i_are_words : Is (callE T) "are_words" 2 3 false false Mr.m_are_words := is_of (d := d_are_words) (by kernel_rfl) rfl rfl rfl rfl fun c cl ct dp => by kernel_rfl
theorem i_is_vector_of : Is (callE T) "is_vector_of" 3 3 false false Mr.m_is_vector_of := is_of (d := d_is_vector_of) (by kernel_rfl) rfl rfl rfl rfl fun c cl ct dp => by kernel_rfl
theorem i_is_any_vector : Is (callE T) "is_any_vector" 2 2 false false Mr.m_is_any_vector := is_of (d := d_is_any_vector) (by kernel_rfl) rfl rfl rfl rfl fun c cl ct dp => by kernel_rfl
theorem i_require_vector : Is (callE T) "require_vector" 3 3 false false Mr.m_require_vector := is_of (d := d_require_vector) (by kernel_rfl) rfl rfl rfl rfl fun c cl ct dp => by kernel_rfl
theorem i_require_word : Is (callE T) "require_word" 2 2 false false Mr.m_require_word := is_of (d := d_require_word) (by kernel_rfl) rfl rfl rfl rfl fun c cl ct dp => by kernel_rfl
theorem i_sum_by : Is (callE T) "sum_by" 3 6 false false Mr.m_sum_by := is_of (d := d_sum_by) (by kernel_rfl) rfl rfl rfl rfl fun c cl ct dp => by kernel_rfl
theorem i_multiple_by : Is (callE T) "multiple_by" 3 5 false false Mr.m_multiple_by := is_of (d := d_multiple_by) (by kernel_rfl) rfl rfl rfl rfl fun c cl ct dp => by kernel_rfl
theorem i_dot_by : Is (callE T) "dot_by" 3 5 false false Mr.m_dot_by := is_of (d := d_dot_by) (by kernel_rfl) rfl rfl rfl rfl fun c cl ct dp => by kernel_rfl
theorem i_level_of : Is (callE T) "level_of" 2 3 false false Mr.m_level_of := is_of (d := d_level_of) (by kernel_rfl) rfl rfl rfl rfl fun c cl ct dp => by kernel_rfl
theorem i_inverse_of : Is (callE T) "inverse_of" 2 5 false false Mr.m_inverse_of := is_of (d := d_inverse_of) (by kernel_rfl) rfl rfl rfl rfl fun c cl ct dp => by kernel_rfl
theorem i_vector_sum : Is (callE T) "vector_sum" 2 5 true false Mr.m_vector_sum := is_of (d := d_vector_sum) (by kernel_rfl) rfl rfl rfl rfl fun c cl ct dp => by kernel_rfl
theorem i_vector_multiple : Is (callE T) "vector_multiple" 3 3 false false Mr.m_vector_multiple := is_of (d := d_vector_multiple) (by kernel_rfl) rfl rfl rfl rfl fun c cl ct dp => by kernel_rfl
theorem i_dot_product : Is (callE T) "dot_product" 3 3 false false Mr.m_dot_product := is_of (d := d_dot_product) (by kernel_rfl) rfl rfl rfl rfl fun c cl ct dp => by kernel_rfl
theorem i_word_level : Is (callE T) "word_level" 2 2 false false Mr.m_word_level := is_of (d := d_word_level) (by kernel_rfl) rfl rfl rfl rfl fun c cl ct dp => by kernel_rfl
theorem i_word_inverse : Is (callE T) "word_inverse" 2 2 false false Mr.m_word_inverse := is_of (d := d_word_inverse) (by kernel_rfl) rfl rfl rfl rfl fun c cl ct dp => by kernel_rfl
theorem i_law_stream : Is (callE T) "_law_stream" 2 5 false true Mr.m_law_stream := is_of (d := d_law_stream) (by kernel_rfl) rfl rfl rfl rfl fun c cl ct dp => by kernel_rfl
theorem i_law_draw : Is (callE T) "_law_draw" 2 5 false false Mr.m_law_draw := is_of (d := d_law_draw) (by kernel_rfl) rfl rfl rfl rfl fun c cl ct dp => by kernel_rfl
theorem i_law_pick : Is (callE T) "_law_pick" 2 2 false false Mr.m_law_pick := is_of (d := d_law_pick) (by kernel_rfl) rfl rfl rfl rfl fun c cl ct dp => by kernel_rfl
theorem i_law_row : Is (callE T) "_law_row" 3 6 false false Mr.m_law_row := is_of (d := d_law_row) (by kernel_rfl) rfl rfl rfl rfl fun c cl ct dp => by kernel_rfl
theorem i_law_other : Is (callE T) "_law_other" 1 2 false false Mr.m_law_other := is_of (d := d_law_other) (by kernel_rfl) rfl rfl rfl rfl fun c cl ct dp => by kernel_rfl
theorem i_law_width : Is (callE T) "_law_width" 1 1 false false Mr.m_law_width := is_of (d := d_law_width) (by kernel_rfl) rfl rfl rfl rfl fun c cl ct dp => by kernel_rfl
theorem i_law_size : Is (callE T) "_law_size" 1 1 false false Mr.m_law_size := is_of (d := d_law_size) (by kernel_rfl) rfl rfl rfl rfl fun c cl ct dp => by kernel_rfl
theorem i_law_is_word : Is (callE T) "_law_is_word" 2 2 false false Mr.m_law_is_word := is_of (d := d_law_is_word) (by kernel_rfl) rfl rfl rfl rfl fun c cl ct dp => by kernel_rfl
theorem i_law_is_vector : Is (callE T) "_law_is_vector" 3 4 false false Mr.m_law_is_vector := is_of (d := d_law_is_vector) (by kernel_rfl) rfl rfl rfl rfl fun c cl ct dp => by kernel_rfl
theorem i_law_bent : Is (callE T) "_law_bent" 2 4 false false Mr.m_law_bent_k01 := is_of (d := d_law_bent) (by kernel_rfl) rfl rfl rfl rfl fun c cl ct dp => by kernel_rfl
theorem i_law_bad : IsT (callE T) (callTE T) "_law_bad" 2 4 Mr.m_law_bad := isT_of (d := d_law_bad) (by kernel_rfl) rfl rfl rfl fun c cl ct dp tk => by kernel_rfl
theorem i_law_bad_width : IsL (callE T) (callTE T) "_law_bad_width" 1 1 Mr.m_law_bad_width := isL_of (d := d_law_bad_width) (by kernel_rfl) rfl rfl rfl rfl fun c cl ct => by kernel_rfl
theorem i_law_bad_size : IsL (callE T) (callTE T) "_law_bad_size" 1 1 Mr.m_law_bad_size := isL_of (d := d_law_bad_size) (by kernel_rfl) rfl rfl rfl rfl fun c cl ct => by kernel_rfl
theorem i_law_word : Is (callE T) "_law_word" 2 2 false false Mr.m_law_word := is_of (d := d_law_word) (by kernel_rfl) rfl rfl rfl rfl fun c cl ct dp => by kernel_rfl
theorem i_law_refusal : IsT (callE T) (callTE T) "_law_refusal" 1 3 Mr.m_law_refusal := isT_of (d := d_law_refusal) (by kernel_rfl) rfl rfl rfl fun c cl ct dp tk => by kernel_rfl
theorem i_law_word_right : IsL (callE T) (callTE T) "_law_word_right" 2 4 Mr.m_law_word_right := isL_of (d := d_law_word_right) (by kernel_rfl) rfl rfl rfl rfl fun c cl ct => by kernel_rfl
theorem i_law_bad_word : IsL (callE T) (callTE T) "_law_bad_word" 2 2 Mr.m_law_bad_word := isL_of (d := d_law_bad_word) (by kernel_rfl) rfl rfl rfl rfl fun c cl ct => by kernel_rfl
theorem i_law_bad_vector : Is (callE T) "_law_bad_vector" 3 6 false false Mr.m_law_bad_vector := is_of (d := d_law_bad_vector) (by kernel_rfl) rfl rfl rfl rfl fun c cl ct dp => by kernel_rfl
theorem i_law_is_any : Is (callE T) "_law_is_any" 2 2 false false Mr.m_law_is_any := is_of (d := d_law_is_any) (by kernel_rfl) rfl rfl rfl rfl fun c cl ct dp => by kernel_rfl
theorem i_law_errors_right : IsL (callE T) (callTE T) "_law_errors_right" 3 12 Mr.m_law_errors_right_k03 := isL_of (d := d_law_errors_right) (by kernel_rfl) rfl rfl rfl rfl fun c cl ct => by kernel_rfl
theorem i_law_long_right : IsL (callE T) (callTE T) "_law_long_right" 0 2 Mr.m_law_long_right_k03 := isL_of (d := d_law_long_right) (by kernel_rfl) rfl rfl rfl rfl fun c cl ct => by kernel_rfl
theorem i_law : Is (callE T) "law" 1 8 false false Mr.m_law_k03 := is_of (d := d_law) (by kernel_rfl) rfl rfl rfl rfl fun c cl ct dp => by kernel_rfl
end Tk03
/-! great words, the law -/
namespace Pw
open PySem WW Mr
theorem rep4 : binD .Mult (.lst [.str "vector"]) (.int 4) = some (.lst [.str "vector", .str "vector", .str "vector", .str "vector"]) := by kernel_rfl
theorem end_app {h t : Hh} {Q : D → Hh → Prop} {X : XP} {v : D} (H : Hok h) (hv : v.low 0 = true) (q : Q v h) : (Ks.fin h Q X).rt v (h ++ t) := by
  refine ⟨?_, low_mono (Nat.zero_le _) hv, by rw [List.take_left']; exact q; rfl⟩
  have := olds_of H h.length
  unfold olds at *
  rw [List.take_left' rfl]
  rwa [List.take_length] at this
section
variable {c : Fam} {cT : FamT} {n s B : Nat} {h : Hh} {Q : D → Hh → Prop} {X : XP}
theorem long_w (L : L03 c cT) (H : Hok h) (q : Q (.bl true) h) : wpO (c (n + 9) "_law_long_right" [] h) Q X := by
  refine L.long.wp (n := n + 6) rfl ?_
  unfold m_law_long_right_k03
  simp only [w_ret, w_bad, w_var, w_c, w_dic0, w_bin, w_cmp, w_ix, w_tru, w_notV, w_andV, w_orV, w_ifE, w_notT, w_andT, w_orT, w_blT, w_chain, w_nil, w_cons, w_tup, w_lst, w_fz, w_new, w_neg, w_noP, w_P, w_sl, w_rev, w_bi, w_isT, w_call, w_list, w_listR, w_cat, w_mth, s_next, s_bad, s_break, s_cont, s_retN, s_seq, s_drop, s_ret, s_if, s_set, s_asg, g_nm, gs_nil, gs_cons, g_tp, g_sq, g_ix, s_par, s_par3, i_iter, i_zip, i_enm, i_range1, i_range2, wpO_ok, getO_some, isBl_bl, isInt_int, List.getElem?_cons_zero, List.getElem?_cons_succ, List.map_cons, List.map_nil, List.length_cons, List.length_nil, List.cons_append, List.nil_append, Nat.zero_add, Nat.reduceAdd, Nat.reduceSub, List.replicate_succ, List.replicate_zero, List.set_cons_zero, List.set_cons_succ, vw_non, vw_bl, vw_int, vw_str, vw_tup, vw_lst, vw_dic, vw_lok, Bool.not_true, Bool.not_false, Bool.false_eq_true, if_true, if_false, reduceIte]
  refine s_for [.int 3, .int 5, .int 7, .int 12345, .int 40503, .int 65533, .int 32768, .int 49152] (fun _ l hh => hh = h ∧ ∃ o, l = [o, none]) ?_ ?_ ?_
  · simp only [w_ret, w_bad, w_var, w_c, w_dic0, w_bin, w_cmp, w_ix, w_tru, w_notV, w_andV, w_orV, w_ifE, w_notT, w_andT, w_orT, w_blT, w_chain, w_nil, w_cons, w_tup, w_lst, w_fz, w_new, w_neg, w_noP, w_P, w_sl, w_rev, w_bi, w_isT, w_call, w_list, w_listR, w_cat, w_mth, s_next, s_bad, s_break, s_cont, s_retN, s_seq, s_drop, s_ret, s_if, s_set, s_asg, g_nm, gs_nil, gs_cons, g_tp, g_sq, g_ix, s_par, s_par3, i_iter, i_zip, i_enm, i_range1, i_range2, wpO_ok, getO_some, isBl_bl, isInt_int, List.getElem?_cons_zero, List.getElem?_cons_succ, List.map_cons, List.map_nil, List.length_cons, List.length_nil, List.cons_append, List.nil_append, Nat.zero_add, Nat.reduceAdd, Nat.reduceSub, List.replicate_succ, List.replicate_zero, List.set_cons_zero, List.set_cons_succ, vw_non, vw_bl, vw_int, vw_str, vw_tup, vw_lst, vw_dic, vw_lok, Bool.not_true, Bool.not_false, Bool.false_eq_true, if_true, if_false, reduceIte, szOk_t, Nat.reduceLeDiff, true_and, iterO]
    exact ⟨Nat.le_refl _, ⟨_, rfl⟩, fun i l hh _ _ j => by rw [itAt]⟩
  · rintro i d l hh ed ⟨rfl, o, rfl⟩
    obtain ⟨x, rfl, x0, x1⟩ : ∃ x : Int, d = .int x ∧ 0 ≤ x ∧ x < 65536 := by
      have hm := List.mem_of_getElem? ed
      simp only [List.mem_cons, List.not_mem_nil, or_false] at hm
      rcases hm with rfl | rfl | rfl | rfl | rfl | rfl | rfl | rfl <;> exact ⟨_, rfl, by decide, by decide⟩
    have x16 : x < (2 : Int) ^ 16 := by
      have : (2 : Int) ^ 16 = 65536 := by decide
      omega
    have wr : c (n + 6 + 2) "_law_word_right" [.int 16, .int x] hh = .ok (.bl true) hh := word_right_v (n := n) (w := 16) L (by decide) (by decide) x0 (show x < 2 ^ 16 from x16) H
    simp only [w_ret, w_bad, w_var, w_c, w_dic0, w_bin, w_cmp, w_ix, w_tru, w_notV, w_andV, w_orV, w_ifE, w_notT, w_andT, w_orT, w_blT, w_chain, w_nil, w_cons, w_tup, w_lst, w_fz, w_new, w_neg, w_noP, w_P, w_sl, w_rev, w_bi, w_isT, w_call, w_list, w_listR, w_cat, w_mth, s_next, s_bad, s_break, s_cont, s_retN, s_seq, s_drop, s_ret, s_if, s_set, s_asg, g_nm, gs_nil, gs_cons, g_tp, g_sq, g_ix, s_par, s_par3, i_iter, i_zip, i_enm, i_range1, i_range2, wpO_ok, getO_some, isBl_bl, isInt_int, List.getElem?_cons_zero, List.getElem?_cons_succ, List.map_cons, List.map_nil, List.length_cons, List.length_nil, List.cons_append, List.nil_append, Nat.zero_add, Nat.reduceAdd, Nat.reduceSub, List.replicate_succ, List.replicate_zero, List.set_cons_zero, List.set_cons_succ, vw_non, vw_bl, vw_int, vw_str, vw_tup, vw_lst, vw_dic, vw_lok, Bool.not_true, Bool.not_false, Bool.false_eq_true, if_true, if_false, reduceIte, wr, truD]
    first | exact ⟨trivial, _, rfl⟩ | exact ⟨_, rfl⟩ | exact ⟨rfl, _, rfl⟩
  · rintro l hh ⟨rfl, o, rfl⟩
    have z41 : binD .Mult (.tup [.int 1]) (.int 41) = some (vec (List.replicate 41 1)) := bin_rep (k := 41) (by decide) (by decide)
    have v41 : Vl 131 2 100000 (vec (List.replicate 41 1)) := ⟨by decide +kernel, by decide +kernel, by decide +kernel⟩
    have l41 := (v41.rp (by decide) (by decide)).lay
    have s41 : ∀ ys, vec (List.replicate 41 1) = .tup ys → ys.length ≤ 1000000 := fun ys e => (v41.short (by decide) ys e).1
    have b41 : anyB 3 (vec (List.replicate 41 1)) = false := by decide +kernel
    have l0 : (D.tup []).lay = true := by rw [D.lay, D.lays]
    have s0 : ∀ ys, D.tup [] = .tup ys → ys.length ≤ 1000000 := fun ys e => by cases e; exact Nat.zero_le _
    have b0 : anyB 3 (.tup []) = false := by decide +kernel
    have lm : ∀ {f : Str} {a b : D} {mb : ME D} {l : Lc} {hx : Hh}, c (n + 6) f [.int 3, a, b] hx = .exc ⟨"InvalidVector", none⟩ hx → (∀ {Q : D → Hh → Prop} {X : XP}, wpO (mb l hx) Q X = wpO (c (n + 6) f [.int 3, a, b] hx) Q X) → lamD 0 l mb [] hx = .exc ⟨"InvalidVector", none⟩ hx := fun {f a b mb l hx} hb e => by
      refine eq_exc_of_wp ?_
      rw [w_lamD (n := 0) (ds := []) rfl]
      simp only [List.map_nil, List.append_nil]
      rw [e, hb, wpO_exc]
      exact ⟨rfl, rfl⟩
    have push : ∀ ys : List D, D.lows 0 ys = true → Hok (hh ++ [.lst ys]) := fun ys z => H.push z
    simp only [w_ret, w_bad, w_var, w_c, w_dic0, w_bin, w_cmp, w_ix, w_tru, w_notV, w_andV, w_orV, w_ifE, w_notT, w_andT, w_orT, w_blT, w_chain, w_nil, w_cons, w_tup, w_lst, w_fz, w_new, w_neg, w_noP, w_P, w_sl, w_rev, w_bi, w_isT, w_call, w_list, w_listR, w_cat, w_mth, s_next, s_bad, s_break, s_cont, s_retN, s_seq, s_drop, s_ret, s_if, s_set, s_asg, g_nm, gs_nil, gs_cons, g_tp, g_sq, g_ix, s_par, s_par3, i_iter, i_zip, i_enm, i_range1, i_range2, wpO_ok, getO_some, isBl_bl, isInt_int, List.getElem?_cons_zero, List.getElem?_cons_succ, List.map_cons, List.map_nil, List.length_cons, List.length_nil, List.cons_append, List.nil_append, Nat.zero_add, Nat.reduceAdd, Nat.reduceSub, List.replicate_succ, List.replicate_zero, List.set_cons_zero, List.set_cons_succ, vw_non, vw_bl, vw_int, vw_str, vw_tup, vw_lst, vw_dic, vw_lok, Bool.not_true, Bool.not_false, Bool.false_eq_true, if_true, if_false, reduceIte, szOk_t, Nat.reduceLeDiff, true_and]
    refine lam_w H (refusal_v (n := n + 6) L.C H (lm (vector_multiple_xv (n := n) (f := .int 1) L (by decide) (by decide) l41 s41 b41 H) fun {Q X} => ?_)) low_str ?_
    · simp only [w_ret, w_bad, w_var, w_c, w_dic0, w_bin, w_cmp, w_ix, w_tru, w_notV, w_andV, w_orV, w_ifE, w_notT, w_andT, w_orT, w_blT, w_chain, w_nil, w_cons, w_tup, w_lst, w_fz, w_new, w_neg, w_noP, w_P, w_sl, w_rev, w_bi, w_isT, w_call, w_list, w_listR, w_cat, w_mth, s_next, s_bad, s_break, s_cont, s_retN, s_seq, s_drop, s_ret, s_if, s_set, s_asg, g_nm, gs_nil, gs_cons, g_tp, g_sq, g_ix, s_par, s_par3, i_iter, i_zip, i_enm, i_range1, i_range2, wpO_ok, getO_some, isBl_bl, isInt_int, List.getElem?_cons_zero, List.getElem?_cons_succ, List.map_cons, List.map_nil, List.length_cons, List.length_nil, List.cons_append, List.nil_append, Nat.zero_add, Nat.reduceAdd, Nat.reduceSub, List.replicate_succ, List.replicate_zero, List.set_cons_zero, List.set_cons_succ, vw_non, vw_bl, vw_int, vw_str, vw_tup, vw_lst, vw_dic, vw_lok, Bool.not_true, Bool.not_false, Bool.false_eq_true, if_true, if_false, reduceIte, szOk_t, Nat.reduceLeDiff, true_and, z41]
    have P1 := push [.str (Str.ofString "vector")] (by simp only [lows_cons, lows_nil, low_str, Bool.and_self])
    try simp only [w_ret, w_bad, w_var, w_c, w_dic0, w_bin, w_cmp, w_ix, w_tru, w_notV, w_andV, w_orV, w_ifE, w_notT, w_andT, w_orT, w_blT, w_chain, w_nil, w_cons, w_tup, w_lst, w_fz, w_new, w_neg, w_noP, w_P, w_sl, w_rev, w_bi, w_isT, w_call, w_list, w_listR, w_cat, w_mth, s_next, s_bad, s_break, s_cont, s_retN, s_seq, s_drop, s_ret, s_if, s_set, s_asg, g_nm, gs_nil, gs_cons, g_tp, g_sq, g_ix, s_par, s_par3, i_iter, i_zip, i_enm, i_range1, i_range2, wpO_ok, getO_some, isBl_bl, isInt_int, List.getElem?_cons_zero, List.getElem?_cons_succ, List.map_cons, List.map_nil, List.length_cons, List.length_nil, List.cons_append, List.nil_append, Nat.zero_add, Nat.reduceAdd, Nat.reduceSub, List.replicate_succ, List.replicate_zero, List.set_cons_zero, List.set_cons_succ, vw_non, vw_bl, vw_int, vw_str, vw_tup, vw_lst, vw_dic, vw_lok, Bool.not_true, Bool.not_false, Bool.false_eq_true, if_true, if_false, reduceIte, szOk_t, Nat.reduceLeDiff, true_and, vw_top, tyM_list]
    refine lam_w P1 (refusal_v (n := n + 6) L.C P1 (lm (vector_multiple_xv (n := n) (f := .int 1) L (by decide) (by decide) l0 s0 b0 P1) fun {Q X} => ?_)) low_str ?_
    · simp only [w_ret, w_bad, w_var, w_c, w_dic0, w_bin, w_cmp, w_ix, w_tru, w_notV, w_andV, w_orV, w_ifE, w_notT, w_andT, w_orT, w_blT, w_chain, w_nil, w_cons, w_tup, w_lst, w_fz, w_new, w_neg, w_noP, w_P, w_sl, w_rev, w_bi, w_isT, w_call, w_list, w_listR, w_cat, w_mth, s_next, s_bad, s_break, s_cont, s_retN, s_seq, s_drop, s_ret, s_if, s_set, s_asg, g_nm, gs_nil, gs_cons, g_tp, g_sq, g_ix, s_par, s_par3, i_iter, i_zip, i_enm, i_range1, i_range2, wpO_ok, getO_some, isBl_bl, isInt_int, List.getElem?_cons_zero, List.getElem?_cons_succ, List.map_cons, List.map_nil, List.length_cons, List.length_nil, List.cons_append, List.nil_append, Nat.zero_add, Nat.reduceAdd, Nat.reduceSub, List.replicate_succ, List.replicate_zero, List.set_cons_zero, List.set_cons_succ, vw_non, vw_bl, vw_int, vw_str, vw_tup, vw_lst, vw_dic, vw_lok, Bool.not_true, Bool.not_false, Bool.false_eq_true, if_true, if_false, reduceIte, szOk_t, Nat.reduceLeDiff, true_and, z41]
    refine getO_of (app_top (by simp)) ?_
    have P2 := push [.str (Str.ofString "vector"), .str (Str.ofString "vector")] (by simp only [lows_cons, lows_nil, low_str, Bool.and_self])
    try simp only [w_ret, w_bad, w_var, w_c, w_dic0, w_bin, w_cmp, w_ix, w_tru, w_notV, w_andV, w_orV, w_ifE, w_notT, w_andT, w_orT, w_blT, w_chain, w_nil, w_cons, w_tup, w_lst, w_fz, w_new, w_neg, w_noP, w_P, w_sl, w_rev, w_bi, w_isT, w_call, w_list, w_listR, w_cat, w_mth, s_next, s_bad, s_break, s_cont, s_retN, s_seq, s_drop, s_ret, s_if, s_set, s_asg, g_nm, gs_nil, gs_cons, g_tp, g_sq, g_ix, s_par, s_par3, i_iter, i_zip, i_enm, i_range1, i_range2, wpO_ok, getO_some, isBl_bl, isInt_int, List.getElem?_cons_zero, List.getElem?_cons_succ, List.map_cons, List.map_nil, List.length_cons, List.length_nil, List.cons_append, List.nil_append, Nat.zero_add, Nat.reduceAdd, Nat.reduceSub, List.replicate_succ, List.replicate_zero, List.set_cons_zero, List.set_cons_succ, vw_non, vw_bl, vw_int, vw_str, vw_tup, vw_lst, vw_dic, vw_lok, Bool.not_true, Bool.not_false, Bool.false_eq_true, if_true, if_false, reduceIte, szOk_t, Nat.reduceLeDiff, true_and, vw_top, tyM_list]
    refine lam_w P2 (refusal_v (n := n + 6) L.C P2 (lm (dot_product_xv (n := n) (f := vec (List.replicate 41 1)) L (by decide) (by decide) l41 s41 b41 P2) fun {Q X} => ?_)) low_str ?_
    · simp only [w_ret, w_bad, w_var, w_c, w_dic0, w_bin, w_cmp, w_ix, w_tru, w_notV, w_andV, w_orV, w_ifE, w_notT, w_andT, w_orT, w_blT, w_chain, w_nil, w_cons, w_tup, w_lst, w_fz, w_new, w_neg, w_noP, w_P, w_sl, w_rev, w_bi, w_isT, w_call, w_list, w_listR, w_cat, w_mth, s_next, s_bad, s_break, s_cont, s_retN, s_seq, s_drop, s_ret, s_if, s_set, s_asg, g_nm, gs_nil, gs_cons, g_tp, g_sq, g_ix, s_par, s_par3, i_iter, i_zip, i_enm, i_range1, i_range2, wpO_ok, getO_some, isBl_bl, isInt_int, List.getElem?_cons_zero, List.getElem?_cons_succ, List.map_cons, List.map_nil, List.length_cons, List.length_nil, List.cons_append, List.nil_append, Nat.zero_add, Nat.reduceAdd, Nat.reduceSub, List.replicate_succ, List.replicate_zero, List.set_cons_zero, List.set_cons_succ, vw_non, vw_bl, vw_int, vw_str, vw_tup, vw_lst, vw_dic, vw_lok, Bool.not_true, Bool.not_false, Bool.false_eq_true, if_true, if_false, reduceIte, szOk_t, Nat.reduceLeDiff, true_and, z41]
    refine getO_of (app_top (by simp)) ?_
    have P3 := push [.str (Str.ofString "vector"), .str (Str.ofString "vector"), .str (Str.ofString "vector")] (by simp only [lows_cons, lows_nil, low_str, Bool.and_self])
    try simp only [w_ret, w_bad, w_var, w_c, w_dic0, w_bin, w_cmp, w_ix, w_tru, w_notV, w_andV, w_orV, w_ifE, w_notT, w_andT, w_orT, w_blT, w_chain, w_nil, w_cons, w_tup, w_lst, w_fz, w_new, w_neg, w_noP, w_P, w_sl, w_rev, w_bi, w_isT, w_call, w_list, w_listR, w_cat, w_mth, s_next, s_bad, s_break, s_cont, s_retN, s_seq, s_drop, s_ret, s_if, s_set, s_asg, g_nm, gs_nil, gs_cons, g_tp, g_sq, g_ix, s_par, s_par3, i_iter, i_zip, i_enm, i_range1, i_range2, wpO_ok, getO_some, isBl_bl, isInt_int, List.getElem?_cons_zero, List.getElem?_cons_succ, List.map_cons, List.map_nil, List.length_cons, List.length_nil, List.cons_append, List.nil_append, Nat.zero_add, Nat.reduceAdd, Nat.reduceSub, List.replicate_succ, List.replicate_zero, List.set_cons_zero, List.set_cons_succ, vw_non, vw_bl, vw_int, vw_str, vw_tup, vw_lst, vw_dic, vw_lok, Bool.not_true, Bool.not_false, Bool.false_eq_true, if_true, if_false, reduceIte, szOk_t, Nat.reduceLeDiff, true_and, vw_top, tyM_list]
    refine lam_w P3 (refusal_v (n := n + 6) L.C P3 (lm (dot_product_xv (n := n) (f := .tup []) L (by decide) (by decide) l0 s0 b0 P3) fun {Q X} => ?_)) low_str ?_
    · simp only [w_ret, w_bad, w_var, w_c, w_dic0, w_bin, w_cmp, w_ix, w_tru, w_notV, w_andV, w_orV, w_ifE, w_notT, w_andT, w_orT, w_blT, w_chain, w_nil, w_cons, w_tup, w_lst, w_fz, w_new, w_neg, w_noP, w_P, w_sl, w_rev, w_bi, w_isT, w_call, w_list, w_listR, w_cat, w_mth, s_next, s_bad, s_break, s_cont, s_retN, s_seq, s_drop, s_ret, s_if, s_set, s_asg, g_nm, gs_nil, gs_cons, g_tp, g_sq, g_ix, s_par, s_par3, i_iter, i_zip, i_enm, i_range1, i_range2, wpO_ok, getO_some, isBl_bl, isInt_int, List.getElem?_cons_zero, List.getElem?_cons_succ, List.map_cons, List.map_nil, List.length_cons, List.length_nil, List.cons_append, List.nil_append, Nat.zero_add, Nat.reduceAdd, Nat.reduceSub, List.replicate_succ, List.replicate_zero, List.set_cons_zero, List.set_cons_succ, vw_non, vw_bl, vw_int, vw_str, vw_tup, vw_lst, vw_dic, vw_lok, Bool.not_true, Bool.not_false, Bool.false_eq_true, if_true, if_false, reduceIte, szOk_t, Nat.reduceLeDiff, true_and, z41]
    refine getO_of (app_top (by simp)) ?_
    have P4 := push [.str (Str.ofString "vector"), .str (Str.ofString "vector"), .str (Str.ofString "vector"), .str (Str.ofString "vector")] (by simp only [lows_cons, lows_nil, low_str, Bool.and_self])
    have e := strs_eq (xs := [Str.ofString "vector", Str.ofString "vector", Str.ofString "vector", Str.ofString "vector"]) (by
      intro x hx
      simp only [List.mem_cons, List.not_mem_nil, or_false] at hx
      rcases hx with rfl | rfl | rfl | rfl <;> exact canv)
    have z5 : binD .Mult (.tup [.int 5]) (.int 40) = some (vec (List.replicate 40 5)) := bin_rep (k := 40) (by decide) (by decide)
    have z7 : binD .Mult (.tup [.int 7]) (.int 40) = some (vec (List.replicate 40 7)) := bin_rep (k := 40) (by decide) (by decide)
    have w40 : Wd 3 (List.replicate 40 5) := fun y hy => by rw [List.eq_of_mem_replicate hy]; decide
    have m40 : manyV 3 (List.replicate 40 5) 3 = List.replicate 40 7 := by decide +kernel
    have vm := vector_multiple_v (n := n + 2) L.C.W L.C.require_width L.is_any L.require_word L.multiple_by L.vector_multiple (w := 3) (f := 3) (by decide) (by decide) w40 (by decide) (by decide) (by decide) P4
    rw [m40] at vm
    clear m40 w40
    generalize List.replicate 40 (5 : Int) = r5 at z5 vm
    have e7 : cmpD .Eq (vec (List.replicate 40 7)) (vec (List.replicate 40 7)) = some true := by kernel_rfl
    simp only [w_ret, w_bad, w_var, w_c, w_dic0, w_bin, w_cmp, w_ix, w_tru, w_notV, w_andV, w_orV, w_ifE, w_notT, w_andT, w_orT, w_blT, w_chain, w_nil, w_cons, w_tup, w_lst, w_fz, w_new, w_neg, w_noP, w_P, w_sl, w_rev, w_bi, w_isT, w_call, w_list, w_listR, w_cat, w_mth, s_next, s_bad, s_break, s_cont, s_retN, s_seq, s_drop, s_ret, s_if, s_set, s_asg, g_nm, gs_nil, gs_cons, g_tp, g_sq, g_ix, s_par, s_par3, i_iter, i_zip, i_enm, i_range1, i_range2, wpO_ok, getO_some, isBl_bl, isInt_int, List.getElem?_cons_zero, List.getElem?_cons_succ, List.map_cons, List.map_nil, List.length_cons, List.length_nil, List.cons_append, List.nil_append, Nat.zero_add, Nat.reduceAdd, Nat.reduceSub, List.replicate_succ, List.replicate_zero, List.set_cons_zero, List.set_cons_succ, vw_non, vw_bl, vw_int, vw_str, vw_tup, vw_lst, vw_dic, vw_lok, Bool.not_true, Bool.not_false, Bool.false_eq_true, if_true, if_false, reduceIte, szOk_t, Nat.reduceLeDiff, true_and, vw_top, tyM_list]
    refine getO_of rep4 ?_
    refine getO_of e ?_
    simp only [w_ret, w_bad, w_var, w_c, w_dic0, w_bin, w_cmp, w_ix, w_tru, w_notV, w_andV, w_orV, w_ifE, w_notT, w_andT, w_orT, w_blT, w_chain, w_nil, w_cons, w_tup, w_lst, w_fz, w_new, w_neg, w_noP, w_P, w_sl, w_rev, w_bi, w_isT, w_call, w_list, w_listR, w_cat, w_mth, s_next, s_bad, s_break, s_cont, s_retN, s_seq, s_drop, s_ret, s_if, s_set, s_asg, g_nm, gs_nil, gs_cons, g_tp, g_sq, g_ix, s_par, s_par3, i_iter, i_zip, i_enm, i_range1, i_range2, wpO_ok, getO_some, isBl_bl, isInt_int, List.getElem?_cons_zero, List.getElem?_cons_succ, List.map_cons, List.map_nil, List.length_cons, List.length_nil, List.cons_append, List.nil_append, Nat.zero_add, Nat.reduceAdd, Nat.reduceSub, List.replicate_succ, List.replicate_zero, List.set_cons_zero, List.set_cons_succ, vw_non, vw_bl, vw_int, vw_str, vw_tup, vw_lst, vw_dic, vw_lok, Bool.not_true, Bool.not_false, Bool.false_eq_true, if_true, if_false, reduceIte, truD]
    refine getO_of z5 ?_
    try simp only [w_ret, w_bad, w_var, w_c, w_dic0, w_bin, w_cmp, w_ix, w_tru, w_notV, w_andV, w_orV, w_ifE, w_notT, w_andT, w_orT, w_blT, w_chain, w_nil, w_cons, w_tup, w_lst, w_fz, w_new, w_neg, w_noP, w_P, w_sl, w_rev, w_bi, w_isT, w_call, w_list, w_listR, w_cat, w_mth, s_next, s_bad, s_break, s_cont, s_retN, s_seq, s_drop, s_ret, s_if, s_set, s_asg, g_nm, gs_nil, gs_cons, g_tp, g_sq, g_ix, s_par, s_par3, i_iter, i_zip, i_enm, i_range1, i_range2, wpO_ok, getO_some, isBl_bl, isInt_int, List.getElem?_cons_zero, List.getElem?_cons_succ, List.map_cons, List.map_nil, List.length_cons, List.length_nil, List.cons_append, List.nil_append, Nat.zero_add, Nat.reduceAdd, Nat.reduceSub, List.replicate_succ, List.replicate_zero, List.set_cons_zero, List.set_cons_succ, vw_non, vw_bl, vw_int, vw_str, vw_tup, vw_lst, vw_dic, vw_lok, Bool.not_true, Bool.not_false, Bool.false_eq_true, if_true, if_false, reduceIte]
    rw [show c (n + 6 + 2) "vector_multiple" [.int 3, vec r5, .int 3] (hh ++ [.lst [.str (Str.ofString "vector"), .str (Str.ofString "vector"), .str (Str.ofString "vector"), .str (Str.ofString "vector")]]) = _ from vm, wpO_ok]
    refine getO_of z7 ?_
    refine getO_of e7 ?_
    exact end_app H low_bl q
/-- some words -/
theorem words_w (L : LC c cT) {l : Lc} {e : ME D} {m : Nat} {w : Int} (hm : m ≤ 100) (w0 : 1 ≤ w) (w1 : w ≤ 16) (H : Hok h) (S : St s B h) (hB : B + 1000 ≤ 2 ^ 60) {mi : ME DIt} {tg : MG} {vs : List Nat}
    (hi : mi l h = .ok (.fix (WW.intsFrom 0 1 m)) h)
    (htg : ∀ d hb, ∃ l1, tg d (wipeL l vs) hb = .ok l1 hb ∧ e l1 hb = c (n + 3) "_law_word" [.ref s, .int w] hb)
    (q : ∀ (ds : List D) h', ds.length = m → (∀ d ∈ ds, ∃ x : Int, d = .int x ∧ 0 ≤ x ∧ x < 2 ^ w.toNat) → Ch s (B + 2 * m) h h' → Q (.lst ds) h') : wpO (mLcF (mLc mi tg (mRet true) e vs) l h) Q X := by
  have hs := S.lt
  have low : ∀ {ds : List D}, (∀ d ∈ ds, ∃ x : Int, d = .int x ∧ 0 ≤ x ∧ x < 2 ^ w.toNat) → D.lows 0 ds = true := fun {ds} hd => by
    induction ds with
    | nil => exact lows_nil
    | cons x xs ih =>
      obtain ⟨i, rfl, _⟩ := hd x List.mem_cons_self
      rw [lows_cons, low_int, ih fun y hy => hd y (List.mem_cons_of_mem _ hy)]; rfl
  refine w_lcF (WW.intsFrom 0 1 m) (fun i acc hb => Ch s (B + 2 * i) h hb ∧ acc.length = i ∧ ∀ d ∈ acc, ∃ x : Int, d = .int x ∧ 0 ≤ x ∧ x < 2 ^ w.toNat) ?_ ?_ ?_
  · rw [hi, wpO_ok]
    exact ⟨by rw [itLen]; exact Nat.le_refl _, sz_of (by rw [intsFrom_length]; omega), rfl, ⟨Ch.refl S, rfl, fun _ h => nomatch h⟩, fun i acc hb _ _ j => by rw [itAt]⟩
  · rintro i d acc hb ed hn ⟨ch, hl, hr⟩
    obtain ⟨hi3, rfl⟩ := intsFrom_ix ed
    obtain ⟨l1, e1, e2⟩ := htg (.int (0 + i)) (hb ++ [.lst acc])
    rw [e1, wpO_ok, w_ret, if_pos rfl, e2]
    refine word_w (n := n) L ((ch.ok H).push (low hr)) (ch.st hs).left (by omega) w0 (by omega) fun y h' y0 y1 chA => ?_
    obtain ⟨h2, rfl, ch2⟩ := chA.left (by rw [ch.len]; exact hs)
    refine ⟨h2, rfl, by rw [ch2.len, hn], (ch.trans ch2).mono (by omega), by rw [List.length_append, hl]; rfl, fun d hd => ?_⟩
    rcases List.mem_append.mp hd with z | z
    · exact hr d z
    · rw [List.mem_singleton.mp z]; exact ⟨y, rfl, y0, y1⟩
  · rintro acc hb ⟨ch, hl, hr⟩ hn
    rw [intsFrom_length] at hl ch
    exact ⟨ch.ok H, low hr, q acc hb hl hr ch⟩
theorem law_v (L : L03 c cT) (ns : List Int) (hn : ns.length ≤ 63) : ∃ h, c (n + 11) "law" [.lok (ns.map D.int)] [] = .ok (.bl true) h := by
  suffices z : wpO (c (n + 11) "law" [.lok (ns.map D.int)] []) (fun v h => v = .bl true) fun _ _ => False by
    cases e : c (n + 11) "law" [.lok (ns.map D.int)] [] with
    | ok a h1 => rw [e, wpO_ok] at z; exact ⟨h1, by rw [z]⟩
    | exc a h1 => rw [e, wpO_exc] at z; exact z.elim
    | bad => rw [e, wpO_bad] at z; exact z.elim
  refine L.law.wp rfl ?_
  unfold m_law_k03
  simp only [s_seq, List.map_cons, List.map_nil, List.length_cons, List.length_nil, Nat.zero_add, Nat.reduceAdd, Nat.reduceSub, List.replicate_succ, List.replicate_zero, List.cons_append, List.nil_append]
  generalize hm : (if (if (8 : Int) > ((ns.map D.int).length : Nat) then (((ns.map D.int).length : Nat) : Int) else 8) > 1 then (if (8 : Int) > ((ns.map D.int).length : Nat) then (((ns.map D.int).length : Nat) : Int) else 8) else 1) = m
  have hm1 : 0 ≤ m ∧ m ≤ 8 := by
    subst hm
    split <;> split <;> omega
  refine s_for (WW.intsFrom 0 1 m.toNat) (fun i l hh => Hok hh ∧ ∃ o1 o2 o3 o4 o5 o6 o7, l = [some (.lok (ns.map D.int)), o1, o2, o3, o4, o5, o6, o7]) ?_ ?_ ?_
  · simp only [w_ret, w_bad, w_var, w_c, w_dic0, w_bin, w_cmp, w_ix, w_tru, w_notV, w_andV, w_orV, w_ifE, w_notT, w_andT, w_orT, w_blT, w_chain, w_nil, w_cons, w_tup, w_lst, w_fz, w_new, w_neg, w_noP, w_P, w_sl, w_rev, w_bi, w_isT, w_call, w_list, w_listR, w_cat, w_mth, s_next, s_bad, s_break, s_cont, s_retN, s_seq, s_drop, s_ret, s_if, s_set, s_asg, g_nm, gs_nil, gs_cons, g_tp, g_sq, g_ix, s_par, s_par3, i_iter, i_zip, i_enm, i_range1, i_range2, wpO_ok, getO_some, isBl_bl, isInt_int, List.getElem?_cons_zero, List.getElem?_cons_succ, List.map_cons, List.map_nil, List.length_cons, List.length_nil, List.cons_append, List.nil_append, Nat.zero_add, Nat.reduceAdd, Nat.reduceSub, List.replicate_succ, List.replicate_zero, List.set_cons_zero, List.set_cons_succ, vw_non, vw_bl, vw_int, vw_str, vw_tup, vw_lst, vw_dic, vw_lok, Bool.not_true, Bool.not_false, Bool.false_eq_true, if_true, if_false, reduceIte, fLen]
    refine getO_of (show fMin [.int 8, .int ((ns.map D.int).length : Nat)] = some (.int (if (8 : Int) > ((ns.map D.int).length : Nat) then (((ns.map D.int).length : Nat) : Int) else 8)) from rfl) ?_
    simp only [vw_int]
    refine getO_of (fmax_int _ _) ?_
    simp only [oneI_int]
    rw [hm]
    have hr : rngB m = true := by
      have e : m = (m.toNat : Int) := by omega
      rw [e]
      exact rngB_nat (by omega)
    exact ⟨hr, by rw [itLen]; exact Nat.le_refl _, ⟨fun c hc => (nomatch hc), _, _, _, _, _, _, _, rfl⟩, fun i l h _ _ j => by rw [itAt]⟩
  · rintro i d l hh ed ⟨H, o1, o2, o3, o4, o5, o6, o7, rfl⟩
    obtain ⟨hi, rfl⟩ := intsFrom_ix ed
    rw [g_nm]
    simp only [List.set_cons_succ, List.set_cons_zero]
    rw [Int.zero_add]
    generalize hs : hh.length = s
    refine s_seqR (fun l h0 => St s 0 h0 ∧ Hok h0 ∧ l = [some (.lok (ns.map D.int)), some (.int i), some (.ref s), o3, o4, o5, o6, o7]) ?_ ?_
    · simp only [w_ret, w_bad, w_var, w_c, w_dic0, w_bin, w_cmp, w_ix, w_tru, w_notV, w_andV, w_orV, w_ifE, w_notT, w_andT, w_orT, w_blT, w_chain, w_nil, w_cons, w_tup, w_lst, w_fz, w_new, w_neg, w_noP, w_P, w_sl, w_rev, w_bi, w_isT, w_call, w_list, w_listR, w_cat, w_mth, s_next, s_bad, s_break, s_cont, s_retN, s_seq, s_drop, s_ret, s_if, s_set, s_asg, g_nm, gs_nil, gs_cons, g_tp, g_sq, g_ix, s_par, s_par3, i_iter, i_zip, i_enm, i_range1, i_range2, wpO_ok, getO_some, isBl_bl, isInt_int, List.getElem?_cons_zero, List.getElem?_cons_succ, List.map_cons, List.map_nil, List.length_cons, List.length_nil, List.cons_append, List.nil_append, Nat.zero_add, Nat.reduceAdd, Nat.reduceSub, List.replicate_succ, List.replicate_zero, List.set_cons_zero, List.set_cons_succ, vw_non, vw_bl, vw_int, vw_str, vw_tup, vw_lst, vw_dic, vw_lok, Bool.not_true, Bool.not_false, Bool.false_eq_true, if_true, if_false, reduceIte]
      refine stream_w L.C.stream H (by omega) fun a b ok => ?_
      rw [hs]
      exact ⟨⟨a, b, 0, by rw [← hs]; simp, ok⟩, H.push (by simp only [lows_cons, lows_nil, low_int, Bool.and_self]), rfl⟩
    rintro _ h0 ⟨S0, H0, rfl⟩
    have hs0 := S0.lt
    refine s_seqR (fun l h2 => ∃ w k : Nat, 1 ≤ w ∧ w ≤ 16 ∧ 1 ≤ k ∧ k ≤ 40 ∧ Ch s 4 h0 h2 ∧ l = [some (.lok (ns.map D.int)), some (.int i), some (.ref s), some (.int w), some (.int k), o5, o6, o7]) ?_ ?_
    · simp only [w_ret, w_bad, w_var, w_c, w_dic0, w_bin, w_cmp, w_ix, w_tru, w_notV, w_andV, w_orV, w_ifE, w_notT, w_andT, w_orT, w_blT, w_chain, w_nil, w_cons, w_tup, w_lst, w_fz, w_new, w_neg, w_noP, w_P, w_sl, w_rev, w_bi, w_isT, w_call, w_list, w_listR, w_cat, w_mth, s_next, s_bad, s_break, s_cont, s_retN, s_seq, s_drop, s_ret, s_if, s_set, s_asg, g_nm, gs_nil, gs_cons, g_tp, g_sq, g_ix, s_par, s_par3, i_iter, i_zip, i_enm, i_range1, i_range2, wpO_ok, getO_some, isBl_bl, isInt_int, List.getElem?_cons_zero, List.getElem?_cons_succ, List.map_cons, List.map_nil, List.length_cons, List.length_nil, List.cons_append, List.nil_append, Nat.zero_add, Nat.reduceAdd, Nat.reduceSub, List.replicate_succ, List.replicate_zero, List.set_cons_zero, List.set_cons_succ, vw_non, vw_bl, vw_int, vw_str, vw_tup, vw_lst, vw_dic, vw_lok, Bool.not_true, Bool.not_false, Bool.false_eq_true, if_true, if_false, reduceIte]
      refine width_w (n := n + 8) L.C H0 S0 (by decide) fun w h1 w0 w1 ch1 => ?_
      refine size_w (n := n + 8) L.C (ch1.ok H0) (ch1.st hs0) (by decide) fun k h2 k0 k1 ch2 => ?_
      simp only [w_ret, w_bad, w_var, w_c, w_dic0, w_bin, w_cmp, w_ix, w_tru, w_notV, w_andV, w_orV, w_ifE, w_notT, w_andT, w_orT, w_blT, w_chain, w_nil, w_cons, w_tup, w_lst, w_fz, w_new, w_neg, w_noP, w_P, w_sl, w_rev, w_bi, w_isT, w_call, w_list, w_listR, w_cat, w_mth, s_next, s_bad, s_break, s_cont, s_retN, s_seq, s_drop, s_ret, s_if, s_set, s_asg, g_nm, gs_nil, gs_cons, g_tp, g_sq, g_ix, s_par, s_par3, i_iter, i_zip, i_enm, i_range1, i_range2, wpO_ok, getO_some, isBl_bl, isInt_int, List.getElem?_cons_zero, List.getElem?_cons_succ, List.map_cons, List.map_nil, List.length_cons, List.length_nil, List.cons_append, List.nil_append, Nat.zero_add, Nat.reduceAdd, Nat.reduceSub, List.replicate_succ, List.replicate_zero, List.set_cons_zero, List.set_cons_succ, vw_non, vw_bl, vw_int, vw_str, vw_tup, vw_lst, vw_dic, vw_lok, Bool.not_true, Bool.not_false, Bool.false_eq_true, if_true, if_false, reduceIte, seqN_t2, ctorL_c, szOk_t, Nat.reduceLeDiff, true_and]
      exact ⟨w.toNat, k, by omega, by omega, k0, k1, (ch1.trans ch2).mono (by decide), by rw [Int.toNat_of_nonneg (by omega)]⟩
    rintro _ h2 ⟨w, k, w0, w1, k0, k1, c2, rfl⟩
    have pb := pow_le16 w1
    have pp := pow_pos2 w
    refine s_seqR (fun l h3 => ∃ zs : List D, zs.length ≤ 100 ∧ (∀ d ∈ zs, ∃ x : Int, d = .int x ∧ 0 ≤ x ∧ x < 2 ^ w) ∧ Ch s 100 h0 h3 ∧ ∃ o6, l = [some (.lok (ns.map D.int)), some (.int i), some (.ref s), some (.int w), some (.int k), some (.lst zs), o6, o7]) ?_ ?_
    · simp only [w_ret, w_bad, w_var, w_c, w_dic0, w_bin, w_cmp, w_ix, w_tru, w_notV, w_andV, w_orV, w_ifE, w_notT, w_andT, w_orT, w_blT, w_chain, w_nil, w_cons, w_tup, w_lst, w_fz, w_new, w_neg, w_noP, w_P, w_sl, w_rev, w_bi, w_isT, w_call, w_list, w_listR, w_cat, w_mth, s_next, s_bad, s_break, s_cont, s_retN, s_seq, s_drop, s_ret, s_if, s_set, s_asg, g_nm, gs_nil, gs_cons, g_tp, g_sq, g_ix, s_par, s_par3, i_iter, i_zip, i_enm, i_range1, i_range2, wpO_ok, getO_some, isBl_bl, isInt_int, List.getElem?_cons_zero, List.getElem?_cons_succ, List.map_cons, List.map_nil, List.length_cons, List.length_nil, List.cons_append, List.nil_append, Nat.zero_add, Nat.reduceAdd, Nat.reduceSub, List.replicate_succ, List.replicate_zero, List.set_cons_zero, List.set_cons_succ, vw_non, vw_bl, vw_int, vw_str, vw_tup, vw_lst, vw_dic, vw_lok, Bool.not_true, Bool.not_false, Bool.false_eq_true, if_true, if_false, reduceIte]
      refine words_w (n := n + 7) (m := 12) (w := (w : Int)) L.C (by decide) (by omega) (by omega) (c2.ok H0) (c2.st hs0) (by decide) (eq_of_wpA (by simp only [w_ret, w_bad, w_var, w_c, w_dic0, w_bin, w_cmp, w_ix, w_tru, w_notV, w_andV, w_orV, w_ifE, w_notT, w_andT, w_orT, w_blT, w_chain, w_nil, w_cons, w_tup, w_lst, w_fz, w_new, w_neg, w_noP, w_P, w_sl, w_rev, w_bi, w_isT, w_call, w_list, w_listR, w_cat, w_mth, s_next, s_bad, s_break, s_cont, s_retN, s_seq, s_drop, s_ret, s_if, s_set, s_asg, g_nm, gs_nil, gs_cons, g_tp, g_sq, g_ix, s_par, s_par3, i_iter, i_zip, i_enm, i_range1, i_range2, wpO_ok, getO_some, isBl_bl, isInt_int, List.getElem?_cons_zero, List.getElem?_cons_succ, List.map_cons, List.map_nil, List.length_cons, List.length_nil, List.cons_append, List.nil_append, Nat.zero_add, Nat.reduceAdd, Nat.reduceSub, List.replicate_succ, List.replicate_zero, List.set_cons_zero, List.set_cons_succ, vw_non, vw_bl, vw_int, vw_str, vw_tup, vw_lst, vw_dic, vw_lok, Bool.not_true, Bool.not_false, Bool.false_eq_true, if_true, if_false, reduceIte, oneI_int]; exact ⟨rngB_nat (k := 12) (by decide), rfl, trivial⟩)) (fun d hb => ⟨_, rfl, rfl⟩) fun ds h3 hl hds ch3 => ?_
      exact ⟨ds, by omega, hds, (c2.trans ch3).mono (by decide), _, rfl⟩
    rintro _ h3 ⟨zs, hz, hzs, c3, o6', rfl⟩
    refine s_seqR (fun l h4 => h4 = h3 ∧ ∃ zs : List D, zs.length ≤ 100 ∧ (∀ d ∈ zs, ∃ x : Int, d = .int x ∧ 0 ≤ x ∧ x < 2 ^ w) ∧ l = [some (.lok (ns.map D.int)), some (.int i), some (.ref s), some (.int w), some (.int k), some (.lst zs), o6', o7]) ?_ ?_
    · simp only [w_ret, w_bad, w_var, w_c, w_dic0, w_bin, w_cmp, w_ix, w_tru, w_notV, w_andV, w_orV, w_ifE, w_notT, w_andT, w_orT, w_blT, w_chain, w_nil, w_cons, w_tup, w_lst, w_fz, w_new, w_neg, w_noP, w_P, w_sl, w_rev, w_bi, w_isT, w_call, w_list, w_listR, w_cat, w_mth, s_next, s_bad, s_break, s_cont, s_retN, s_seq, s_drop, s_ret, s_if, s_set, s_asg, g_nm, gs_nil, gs_cons, g_tp, g_sq, g_ix, s_par, s_par3, i_iter, i_zip, i_enm, i_range1, i_range2, wpO_ok, getO_some, isBl_bl, isInt_int, List.getElem?_cons_zero, List.getElem?_cons_succ, List.map_cons, List.map_nil, List.length_cons, List.length_nil, List.cons_append, List.nil_append, Nat.zero_add, Nat.reduceAdd, Nat.reduceSub, List.replicate_succ, List.replicate_zero, List.set_cons_zero, List.set_cons_succ, vw_non, vw_bl, vw_int, vw_str, vw_tup, vw_lst, vw_dic, vw_lok, Bool.not_true, Bool.not_false, Bool.false_eq_true, if_true, if_false, reduceIte, show cmpD .Lt (.int (w : Int)) (.int 5) = some (decide ((w : Int) < 5)) from rfl]
      by_cases h5 : (w : Int) < 5
      · rw [if_pos (decide_eq_true h5)]
        have p16 : (2 : Int) ^ w ≤ 16 := by
          have := Int.le_of_dvd (by decide) (pow_dvd (show w ≤ 4 by omega))
          simpa using this
        refine getO_of (bin_shl1 (show (0 : Int) ≤ (w : Int) by omega) (show (w : Int) ≤ 1000 by omega)) ?_
        rw [Int.toNat_natCast]
        refine getO_of (show rngL (.int (2 ^ w)) = some (WW.intsFrom 0 1 ((2 : Int) ^ w).toNat) from ?_) ?_
        · unfold rngL
          dsimp only
          rw [if_pos (by rw [decide_eq_true (by omega), decide_eq_true (by omega)]; rfl)]
        refine ⟨trivial, WW.intsFrom 0 1 ((2 : Int) ^ w).toNat, by rw [intsFrom_length]; omega, fun d hd => ?_, rfl⟩
        obtain ⟨j, ej⟩ := List.mem_iff_getElem?.mp hd
        obtain ⟨hj, rfl⟩ := intsFrom_ix ej
        exact ⟨_, rfl, by omega, by omega⟩
      · rw [if_neg (by simpa using h5)]
        exact ⟨trivial, zs, hz, hzs, rfl⟩
    rintro _ h4 ⟨rfl, ys, hy, hys, rfl⟩
    have H4 := c3.ok H0
    refine s_seqR (fun l hx => hx = h4 ∧ ∃ o7, l = [some (.lok (ns.map D.int)), some (.int i), some (.ref s), some (.int w), some (.int k), some (.lst ys), o6', o7]) ?_ ?_
    · have all : ∀ d ∈ ys ++ [.int 0, .int 1, .int (2 ^ w - 1)], ∃ x : Int, d = .int x ∧ 0 ≤ x ∧ x < 2 ^ w := by
        intro d hd
        have p1 : (1 : Int) < 2 ^ w := by
          have := Int.le_of_dvd (pow_pos2 w) (pow_dvd w0)
          have : (2 : Int) ≤ 2 ^ w := by simpa using this
          omega
        rcases List.mem_append.mp hd with z | z
        · exact hys d z
        · simp only [List.mem_cons, List.not_mem_nil, or_false] at z
          rcases z with rfl | rfl | rfl
          · exact ⟨_, rfl, by omega, by omega⟩
          · exact ⟨_, rfl, by omega, by omega⟩
          · exact ⟨_, rfl, by omega, by omega⟩
      refine s_for (ys ++ [.int 0, .int 1, .int (2 ^ w - 1)]) (fun _ l hx => hx = h4 ∧ ∃ o7, l = [some (.lok (ns.map D.int)), some (.int i), some (.ref s), some (.int w), some (.int k), some (.lst ys), o6', o7]) ?_ ?_ ?_
      · simp only [w_ret, w_bad, w_var, w_c, w_dic0, w_bin, w_cmp, w_ix, w_tru, w_notV, w_andV, w_orV, w_ifE, w_notT, w_andT, w_orT, w_blT, w_chain, w_nil, w_cons, w_tup, w_lst, w_fz, w_new, w_neg, w_noP, w_P, w_sl, w_rev, w_bi, w_isT, w_call, w_list, w_listR, w_cat, w_mth, s_next, s_bad, s_break, s_cont, s_retN, s_seq, s_drop, s_ret, s_if, s_set, s_asg, g_nm, gs_nil, gs_cons, g_tp, g_sq, g_ix, s_par, s_par3, i_iter, i_zip, i_enm, i_range1, i_range2, wpO_ok, getO_some, isBl_bl, isInt_int, List.getElem?_cons_zero, List.getElem?_cons_succ, List.map_cons, List.map_nil, List.length_cons, List.length_nil, List.cons_append, List.nil_append, Nat.zero_add, Nat.reduceAdd, Nat.reduceSub, List.replicate_succ, List.replicate_zero, List.set_cons_zero, List.set_cons_succ, vw_non, vw_bl, vw_int, vw_str, vw_tup, vw_lst, vw_dic, vw_lok, Bool.not_true, Bool.not_false, Bool.false_eq_true, if_true, if_false, reduceIte, szOk_t, Nat.reduceLeDiff, true_and, bin_shl1 (show (0 : Int) ≤ (w : Int) by omega) (show (w : Int) ≤ 1000 by omega), Int.toNat_natCast, bin_sub]
        refine getO_of (add_lst (by simp only [List.length_cons, List.length_nil]; omega)) ?_
        simp only [w_ret, w_bad, w_var, w_c, w_dic0, w_bin, w_cmp, w_ix, w_tru, w_notV, w_andV, w_orV, w_ifE, w_notT, w_andT, w_orT, w_blT, w_chain, w_nil, w_cons, w_tup, w_lst, w_fz, w_new, w_neg, w_noP, w_P, w_sl, w_rev, w_bi, w_isT, w_call, w_list, w_listR, w_cat, w_mth, s_next, s_bad, s_break, s_cont, s_retN, s_seq, s_drop, s_ret, s_if, s_set, s_asg, g_nm, gs_nil, gs_cons, g_tp, g_sq, g_ix, s_par, s_par3, i_iter, i_zip, i_enm, i_range1, i_range2, wpO_ok, getO_some, isBl_bl, isInt_int, List.getElem?_cons_zero, List.getElem?_cons_succ, List.map_cons, List.map_nil, List.length_cons, List.length_nil, List.cons_append, List.nil_append, Nat.zero_add, Nat.reduceAdd, Nat.reduceSub, List.replicate_succ, List.replicate_zero, List.set_cons_zero, List.set_cons_succ, vw_non, vw_bl, vw_int, vw_str, vw_tup, vw_lst, vw_dic, vw_lok, Bool.not_true, Bool.not_false, Bool.false_eq_true, if_true, if_false, reduceIte, iterO]
        exact ⟨Nat.le_refl _, ⟨_, rfl⟩, fun i l hh _ _ j => by rw [itAt]⟩
      · rintro j d l hx ed2 ⟨rfl, o7, rfl⟩
        obtain ⟨x, rfl, x0, x1⟩ := all d (List.mem_of_getElem? ed2)
        simp only [w_ret, w_bad, w_var, w_c, w_dic0, w_bin, w_cmp, w_ix, w_tru, w_notV, w_andV, w_orV, w_ifE, w_notT, w_andT, w_orT, w_blT, w_chain, w_nil, w_cons, w_tup, w_lst, w_fz, w_new, w_neg, w_noP, w_P, w_sl, w_rev, w_bi, w_isT, w_call, w_list, w_listR, w_cat, w_mth, s_next, s_bad, s_break, s_cont, s_retN, s_seq, s_drop, s_ret, s_if, s_set, s_asg, g_nm, gs_nil, gs_cons, g_tp, g_sq, g_ix, s_par, s_par3, i_iter, i_zip, i_enm, i_range1, i_range2, wpO_ok, getO_some, isBl_bl, isInt_int, List.getElem?_cons_zero, List.getElem?_cons_succ, List.map_cons, List.map_nil, List.length_cons, List.length_nil, List.cons_append, List.nil_append, Nat.zero_add, Nat.reduceAdd, Nat.reduceSub, List.replicate_succ, List.replicate_zero, List.set_cons_zero, List.set_cons_succ, vw_non, vw_bl, vw_int, vw_str, vw_tup, vw_lst, vw_dic, vw_lok, Bool.not_true, Bool.not_false, Bool.false_eq_true, if_true, if_false, reduceIte, word_right_v (n := n + 2) L w0 w1 x0 x1 H4, truD]
        first | exact ⟨trivial, _, rfl⟩ | exact ⟨_, rfl⟩ | exact ⟨rfl, _, rfl⟩
      · rintro l hx ⟨rfl, o7, rfl⟩
        exact ⟨rfl, _, rfl⟩
    rintro _ hx ⟨rfl, o7', rfl⟩
    simp only [w_ret, w_bad, w_var, w_c, w_dic0, w_bin, w_cmp, w_ix, w_tru, w_notV, w_andV, w_orV, w_ifE, w_notT, w_andT, w_orT, w_blT, w_chain, w_nil, w_cons, w_tup, w_lst, w_fz, w_new, w_neg, w_noP, w_P, w_sl, w_rev, w_bi, w_isT, w_call, w_list, w_listR, w_cat, w_mth, s_next, s_bad, s_break, s_cont, s_retN, s_seq, s_drop, s_ret, s_if, s_set, s_asg, g_nm, gs_nil, gs_cons, g_tp, g_sq, g_ix, s_par, s_par3, i_iter, i_zip, i_enm, i_range1, i_range2, wpO_ok, getO_some, isBl_bl, isInt_int, List.getElem?_cons_zero, List.getElem?_cons_succ, List.map_cons, List.map_nil, List.length_cons, List.length_nil, List.cons_append, List.nil_append, Nat.zero_add, Nat.reduceAdd, Nat.reduceSub, List.replicate_succ, List.replicate_zero, List.set_cons_zero, List.set_cons_succ, vw_non, vw_bl, vw_int, vw_str, vw_tup, vw_lst, vw_dic, vw_lok, Bool.not_true, Bool.not_false, Bool.false_eq_true, if_true, if_false, reduceIte]
    refine errors_w (n := n) L H4 (c3.st hs0) (by decide) (by omega) (by omega) k0 k1 fun h5 ch5 => ?_
    simp only [w_ret, w_bad, w_var, w_c, w_dic0, w_bin, w_cmp, w_ix, w_tru, w_notV, w_andV, w_orV, w_ifE, w_notT, w_andT, w_orT, w_blT, w_chain, w_nil, w_cons, w_tup, w_lst, w_fz, w_new, w_neg, w_noP, w_P, w_sl, w_rev, w_bi, w_isT, w_call, w_list, w_listR, w_cat, w_mth, s_next, s_bad, s_break, s_cont, s_retN, s_seq, s_drop, s_ret, s_if, s_set, s_asg, g_nm, gs_nil, gs_cons, g_tp, g_sq, g_ix, s_par, s_par3, i_iter, i_zip, i_enm, i_range1, i_range2, wpO_ok, getO_some, isBl_bl, isInt_int, List.getElem?_cons_zero, List.getElem?_cons_succ, List.map_cons, List.map_nil, List.length_cons, List.length_nil, List.cons_append, List.nil_append, Nat.zero_add, Nat.reduceAdd, Nat.reduceSub, List.replicate_succ, List.replicate_zero, List.set_cons_zero, List.set_cons_succ, vw_non, vw_bl, vw_int, vw_str, vw_tup, vw_lst, vw_dic, vw_lok, Bool.not_true, Bool.not_false, Bool.false_eq_true, if_true, if_false, reduceIte, truD]
    exact ⟨ch5.ok H4, _, _, _, _, _, _, _, rfl⟩
  · rintro l hh ⟨H, o1, o2, o3, o4, o5, o6, o7, rfl⟩
    simp only [w_ret, w_bad, w_var, w_c, w_dic0, w_bin, w_cmp, w_ix, w_tru, w_notV, w_andV, w_orV, w_ifE, w_notT, w_andT, w_orT, w_blT, w_chain, w_nil, w_cons, w_tup, w_lst, w_fz, w_new, w_neg, w_noP, w_P, w_sl, w_rev, w_bi, w_isT, w_call, w_list, w_listR, w_cat, w_mth, s_next, s_bad, s_break, s_cont, s_retN, s_seq, s_drop, s_ret, s_if, s_set, s_asg, g_nm, gs_nil, gs_cons, g_tp, g_sq, g_ix, s_par, s_par3, i_iter, i_zip, i_enm, i_range1, i_range2, wpO_ok, getO_some, isBl_bl, isInt_int, List.getElem?_cons_zero, List.getElem?_cons_succ, List.map_cons, List.map_nil, List.length_cons, List.length_nil, List.cons_append, List.nil_append, Nat.zero_add, Nat.reduceAdd, Nat.reduceSub, List.replicate_succ, List.replicate_zero, List.set_cons_zero, List.set_cons_succ, vw_non, vw_bl, vw_int, vw_str, vw_tup, vw_lst, vw_dic, vw_lok, Bool.not_true, Bool.not_false, Bool.false_eq_true, if_true, if_false, reduceIte]
    refine long_w (n := n + 1) L H ?_
    exact ⟨olds_of H 0, low_bl, rfl⟩
end
end Pw
namespace Tk03
open WW
theorem lc03 : Pw.LC (callE T) (callTE T) := ⟨⟨i_is_integer, i_is_between, i_is_width, i_modulus_of, i_is_word_of, i_are_words, i_is_vector_of⟩, i_is_size, i_require_width, i_require_size, i_law_stream, i_law_draw, i_law_pick, i_law_row, i_law_other, i_law_width, i_law_size, i_law_is_word, i_law_is_vector, i_law_bent,
  i_law_bad, i_law_bad_width, i_law_bad_size, i_law_word, i_law_refusal⟩
theorem l03 : Pw.L03 (callE T) (callTE T) := ⟨lc03, i_is_any_vector, i_require_vector, i_require_word, i_sum_by, i_multiple_by, i_dot_by, i_level_of, i_inverse_of, i_vector_sum, i_vector_multiple, i_dot_product, i_word_level, i_word_inverse,
  i_law_word_right, i_law_bad_word, i_law_bad_vector, i_law_is_any, i_law_errors_right, i_law_long_right, i_law⟩
theorem done : RR.Holds := holds_of fun ns h1 _ => Pw.law_v (n := 3) l03 ns h1
end Tk03
theorem PySem.Challenge.cw_wordwide_k03_levels_inverses_and_errors_holds : PySem.Challenge.rw_wordwide_k03_levels_inverses_and_errors.Holds :=
  Tk03.done
