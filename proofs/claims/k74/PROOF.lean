import PyProof.Rows.All
import Wide.All
import OpenK.AllK
import Wide.FinOn
import HandS.TupMul
import HandS.ForMost
import HandS.ForExc
import HandS.Walk
import HandS.CallSlots
import HandS.Star
import HandS.Conv
import HandS.SortInts
import HandS.TupAny
import HandS.Rev
import HandS.NoneIn
import HandS.IsInst
import HandS.Flow
import HandS.Style
import HandS.DictTup
import HandS.Deep
import HandS.HeadWalk
import KE.GoesEnum
import HandS.Lambda
import HandS.ExcIs
import HandS.Defaults
import HandS.HeadHook2
import HandS.HeadHook4
import PyProof.ExcBaseAll.ValueError
import HandS.Head0
import HandS.Head1
import HandS.Head2
import HandS.HeadEnd
import KE.KStateDown
import Lean
import PySem.Challenge.RW_everyreply_k74_whole_counts_of_plays
set_option Elab.async false
section
set_option autoImplicit false
set_option linter.all false
set_option maxHeartbeats 4000000
set_option maxRecDepth 100000
/-! PvT: tuple * int, also once and no times. -/
namespace Pv
open PySem PySem.Spec PyProof.Rows L2
open PySem.AutoSeq1
theorem tuple_mul1 (l : Addr) (items : Array Value) (n : Nat) (dd : Option Addr) (sl : Array (Option Value)) (x : Int) (u : Tok) (c0 : (decide (x < -(2 ^ 63)) || decide (x ≥ 2 ^ 63)) = false) (c1 : (items.isEmpty || x == 1) = true) :
    Meets (Builtin.«tuple.__mul__» ⟨[.ref l, .int x u], []⟩) (fun _ R s => s.heap.get? l = some { cls := .type "tuple", dict := dd, data := .seq items n, slots := sl } ∧
      R (.ok (.ret (Value.ref l))) s) :=
  .of_wp fun prog w A R s h => by
    obtain ⟨hp, g, d, tk, os⟩ := s
    obtain ⟨hl, h⟩ := h
    have f1 := AutoSeq1.idx_int
    wp_walk using wpAny_loadPart' hl
    repeat (first
      | (refine wpAny_ite_false (decide_eq_false (by rw [c0]; exact Bool.false_ne_true)) ?_; wp_walk using wpAny_loadPart' hl)
      | (refine wpAny_ite_true (decide_eq_true c1) ?_; wp_walk using wpAny_loadPart' hl))
    exact ⟨_, rfl, h⟩
theorem tuple_mul0 (l : Addr) (items : Array Value) (n : Nat) (dd : Option Addr) (sl : Array (Option Value)) (x : Int) (u : Tok) (c0 : (decide (x < -(2 ^ 63)) || decide (x ≥ 2 ^ 63)) = false) (c1 : (items.isEmpty || x == 1) = false) (c2 : (decide (x ≤ 0) || items.isEmpty) = true) :
    Meets (Builtin.«tuple.__mul__» ⟨[.ref l, .int x u], []⟩) (fun _ R s => s.heap.get? l = some { cls := .type "tuple", dict := dd, data := .seq items n, slots := sl } ∧
      R (.ok (.ret (Value.ref s.heap.objs.size))) { s with heap := s.heap.push { cls := Value.type "tuple", data := Data.seq #[] }, toks := s.toks }) :=
  .of_wp fun prog w A R s h => by
    obtain ⟨hp, g, d, tk, os⟩ := s
    obtain ⟨hl, h⟩ := h
    have f1 := AutoSeq1.idx_int
    wp_walk using wpAny_loadPart' hl
    repeat (first
      | (refine wpAny_ite_false (decide_eq_false (by rw [c0]; exact Bool.false_ne_true)) ?_; wp_walk using wpAny_loadPart' hl)
      | (refine wpAny_ite_false (decide_eq_false (by rw [c1]; exact Bool.false_ne_true)) ?_; wp_walk using wpAny_loadPart' hl)
      | (refine wpAny_ite_true (decide_eq_true c2) ?_; wp_walk using wpAny_loadPart' hl)
      | (refine wpAny_ite_false (decide_eq_false (by decide)) ?_; wp_walk using wpAny_loadPart' hl))
    exact ⟨_, rfl, h⟩
section
variable {X : Cx}
theorem op_rep1 : OpR X (binaryOp .Mult) (fun x y H Q => ∃ l xs, x = .ref l ∧ y = .int 1 ∧ SqT X.K H l xs ∧ Q x H) := by
  intro pins s σ H x y v u Q I rx ry h
  obtain ⟨l, xs, rfl, rfl, hT, q⟩ := h
  cases rx
  obtain ⟨t, rfl⟩ := ry
  obtain ⟨its, r, ⟨⟨cls, dd, data, sl⟩, ho, hc, n, hd⟩, hs⟩ := I.tuple hT
  simp only at hc hd
  subst hc hd
  have c1 : (its.toArray.isEmpty || (1 : Int) == 1) = true := by rw [show ((1 : Int) == 1) = true from rfl, Bool.or_true]
  refine wpAny_binaryOp_repeat_ref (T := "tuple") (U := "int") (by decide) ⟨_, ho, rfl⟩ (fun s' => typeIs_int s' 1 t) noFill_tuple_mul F.fills_int_mul F.slot_int_rmul repeat_tuple F.slot_int_index.lookup
    (call_meets F.slot_int_rmul (typeIs_int s 1 t) F.entry_int_rmul (F.args_int_rmul_2 _ _) (int_rmul_tuple 1 t l its.toArray n dd sl)
      ⟨ho, rfl, ⟨_, ho, rfl⟩, call_meets F.slot_tuple_mul ⟨_, ho, rfl⟩ F.entry_tuple_mul (F.args_tuple_mul_2 _ _) (tuple_mul1 l its.toArray n dd sl 1 t (by decide) c1) ⟨ho, ?_⟩⟩)
  exact ⟨.ref l, _, I, rfl, q⟩
theorem op_rep0 : OpR X (binaryOp .Mult) (fun x y H Q => ∃ l k xs, x = .ref l ∧ y = .int k ∧ SqT X.K H l xs ∧ xs ≠ [] ∧ -(2 ^ 62) ≤ k ∧ k ≤ 0 ∧ ∀ p, H p = none → Q (.ref p) (upd H p (.tup []))) := by
  intro pins s σ H x y v u Q I rx ry h
  obtain ⟨l, k, xs, rfl, rfl, hT, hne, h1, h2, q⟩ := h
  cases rx
  obtain ⟨t, rfl⟩ := ry
  obtain ⟨its, r, ⟨⟨cls, dd, data, sl⟩, ho, hc, n, hd⟩, hs⟩ := I.tuple hT
  simp only at hc hd
  subst hc hd
  have hle : its.length = xs.length := r.length.symm
  have hi : its.toArray.isEmpty = false := by
    cases its with
    | nil => exact absurd (List.eq_nil_of_length_eq_zero hle.symm) hne
    | cons a b => rfl
  have c0 : (decide (k < -(2 ^ 63)) || decide (k ≥ 2 ^ 63)) = false := by
    rw [decide_eq_false (by omega), decide_eq_false (by omega)] <;> rfl
  have c1 : (its.toArray.isEmpty || k == 1) = false := by
    rw [hi, Bool.false_or]
    exact beq_eq_false_iff_ne.mpr (by omega)
  have c2 : (decide (k ≤ 0) || its.toArray.isEmpty) = true := by
    rw [decide_eq_true h2]; rfl
  refine wpAny_binaryOp_repeat_ref (T := "tuple") (U := "int") (by decide) ⟨_, ho, rfl⟩ (fun s' => typeIs_int s' k t) noFill_tuple_mul F.fills_int_mul F.slot_int_rmul repeat_tuple F.slot_int_index.lookup
    (call_meets F.slot_int_rmul (typeIs_int s k t) F.entry_int_rmul (F.args_int_rmul_2 _ _) (int_rmul_tuple k t l its.toArray n dd sl)
      ⟨ho, rfl, ⟨_, ho, rfl⟩, call_meets F.slot_tuple_mul ⟨_, ho, rfl⟩ F.entry_tuple_mul (F.args_tuple_mul_2 _ _) (tuple_mul0 l its.toArray n dd sl k t c0 c1 c2) ⟨ho, ?_⟩⟩)
  refine ⟨.ref s.heap.objs.size, _, I.laid (t' := s.toks) (o := .tup []) (fun b ob q => Heap.get?_push_of_some _ q) (Nat.le_refl _) ?_, rfl, q _ (I.hok.fresh (Nat.le_refl _))⟩
  exact ⟨Nat.zero_le _, [], .nil, IsTup.new _ _⟩
end
end Pv
end

section
set_option autoImplicit false
set_option linter.all false
/-! Pv0: a core language with a total evaluator. Values are plain trees, mutable objects stand in a list. -/
namespace Pv
open PySem (Str)
open L2 (Key)

/-- a value: a tuple is its items; a mutable object is its number in the store; ktup: a tuple of the module's top -/
inductive D where
  | non | bl (b : Bool) | int (i : Int) | str (x : Str) | tup (xs : List D) | ktup (xs : List D) | ref (n : Nat) | klst (xs : List D)
  deriving Inhabited

/-- a mutable object -/
inductive Ob where
  | lst (xs : List D) | clst (xs : List D) | dK (kvs : List (Key × D)) | dT (kvs : List (List Key × D)) | ins (c : Nat) (fs : List (Nat × D)) | dead
  deriving Inhabited

abbrev Sto := List Ob
abbrev Sl := List (Option D)

structure Exc where
  c : Nat
  fs : List (Nat × D)

/-- what an expression comes to -/
inductive R (α : Type) where
  | ok (a : α) (S : Sto)
  | exc (x : Exc) (S : Sto)
  | bad

def R.bind {α β : Type} (r : R α) (f : α → Sto → R β) : R β :=
  match r with
  | .ok a S => f a S
  | .exc x S => .exc x S
  | .bad => .bad

/-- what a statement comes to -/
inductive F where
  | nx (σ : Sl) (S : Sto)
  | rt (d : D) (S : Sto)
  | bk (σ : Sl) (S : Sto)
  | ct (σ : Sl) (S : Sto)
  | exc (σ : Sl) (x : Exc) (S : Sto)
  | bad

/-- .. where nothing may be raised -/
def R.bind0 {α β : Type} (r : R α) (f : α → Sto → R β) : R β :=
  match r with
  | .ok a S => f a S
  | _ => .bad
def R.nx (r : R Sl) : F :=
  match r with
  | .ok σ S => .nx σ S
  | _ => .bad
def R.thn {α : Type} (r : R α) (σ : Sl) (f : α → Sto → F) : F :=
  match r with
  | .ok a S => f a S
  | .exc x S => .exc σ x S
  | .bad => .bad

def F.seq (r : F) (f : Sl → Sto → F) : F :=
  match r with
  | .nx σ S => f σ S
  | r => r

/-- behind an except suite: its name is gone, nothing was raised -/
def F.wipe (r : F) (i : Nat) : F :=
  match r with
  | .nx σ S => .nx (σ.set i none) S
  | .bk σ S => .bk (σ.set i none) S
  | .ct σ S => .ct (σ.set i none) S
  | .rt d S => .rt d S
  | .exc _ _ _ => .bad
  | .bad => .bad

inductive BOp where
  | add | sub | mul | fdiv | mod | pow | shl | shr | xor
  deriving DecidableEq
inductive COp where
  | eq | ne | lt | le | gt | ge | isin | notin | isN | notN
  deriving DecidableEq
inductive BI where
  | len | tuple | list | all | any | sorted | int | abs | min | max | sum | str
  deriving DecidableEq
inductive BM where
  | append | pop | extend | reverse | get
  deriving DecidableEq
inductive Ty where
  | int | bool | str | tuple | list | dict
  deriving DecidableEq

/-- the core text: expressions, lists of them, what is walked, targets, statements, blocks -/
inductive C where
  | con (d : D) | var (i : Nat)
  | bin (op : BOp) (a b : C) | neg (a : C)
  | not (a : C) | and (a b : C) | or (a b : C) | cmp (op : COp) (a b : C) | chain (o1 o2 : COp) (a b c : C)
  | ite (c a b : C)
  | tup (xs : C) | lst (xs : C) | dict (t : Bool) (xs : C)
  | sub (a i : C) | slice (a lo hi : C) | rev (a : C)
  | attr (a : C) (f : Nat)
  | call (f : Nat) (xs : C) | make (c : Nat) (xs : C) | meth (a : C) (m : Nat) (xs : C) | methS (a : C) (m i : Nat)
  | bi (b : BI) (xs : C) | bm (a : C) (m : BM) (xs : C) | isi (a : C) (t : Ty)
  | comp (elt t it cond : C) (vs : List Nat)
  | nil | cons (a r : C) | star (a r : C)
  | range (xs : C) | enum (a : C) | revd (a : C) | walk (a : C)
  | asg (t e : C) | par (i j : Nat) (a b : C) | aug (i : Nat) (op : BOp) (e : C)
  | ret (e : C) | ex (e : C) | iff (c a b : C) | whl (c b : C) | forr (t it b : C)
  | raise (c : Nat) (xs : C) | pass | brk | cont
  | tryN (b : C) | tryE (b : C) (c i : Nat) (alts : C) | alt (c : Nat) (h r : C) | never | isx (i cj : Nat) (t : Bool)
  deriving Inhabited

/-! ### keys, fields -/
def keyOf : D → Option Key
  | .int i => some (.inl i)
  | .str x => some (.inr x)
  | _ => none
def keysOf : List D → Option (List Key)
  | [] => some []
  | d :: r => match keyOf d, keysOf r with
    | some k, some ks => some (k :: ks)
    | _, _ => none
def ofKey : Key → D
  | .inl i => .int i
  | .inr x => .str x
def tkeyOf : D → Option (List Key)
  | .tup xs => keysOf xs
  | _ => none
def lookA {κ β : Type} [DecidableEq κ] (k : κ) : List (κ × β) → Option β
  | [] => none
  | p :: r => if p.1 = k then some p.2 else lookA k r
def hasA {κ β : Type} [DecidableEq κ] (k : κ) : List (κ × β) → Bool
  | [] => false
  | p :: r => if p.1 = k then true else hasA k r
def repA {κ β : Type} [DecidableEq κ] (k : κ) (v : β) : List (κ × β) → List (κ × β)
  | [] => []
  | p :: r => (if p.1 = k then (p.1, v) else p) :: repA k v r
/-- in its place, or at the end -/
def putA {κ β : Type} [DecidableEq κ] (k : κ) (v : β) (l : List (κ × β)) : List (κ × β) := if hasA k l = true then repA k v l else l ++ [(k, v)]

/-- an attribute in its place, or at the end -/
def putN (f : Nat) (v : D) : List (Nat × D) → List (Nat × D)
  | [] => [(f, v)]
  | p :: r => if p.1 = f then (p.1, v) :: r else p :: putN f v r

/-! ### values -/
def asTup : D → Option (List D)
  | .tup xs => some xs
  | .ktup xs => some xs
  | _ => none
def asLst (S : Sto) : D → Option (List D)
  | .ref n => match S[n]? with
    | some (.lst xs) => some xs
    | some (.clst xs) => some xs
    | _ => none
  | _ => none
def asSeq (S : Sto) (d : D) : Option (List D) := match asTup d with
  | some xs => some xs
  | none => asLst S d
/- as plain data -/
mutual
def pd : D → Option PySem.PyData
  | .non => some .none
  | .bl b => some (.bool b)
  | .int i => some (.int i)
  | .str x => some (.str x)
  | .tup xs => match pdL xs with
    | some ds => some (.tuple ds)
    | none => none
  | .ktup xs => match pdL xs with
    | some ds => some (.tuple ds)
    | none => none
  | .ref _ => none
  | .klst _ => none
def pdL : List D → Option (List PySem.PyData)
  | [] => some []
  | x :: xs => match pd x, pdL xs with
    | some d, some ds => some (d :: ds)
    | _, _ => none
end
/-- a value or a list of data -/
def pdS (S : Sto) : D → Option PySem.PyData
  | .ref n => match S[n]? with
    | some (.lst xs) => match pdL xs with
      | some ds => some (.list ds)
      | none => none
    | _ => none
  | d => pd d
def eqP (d e : Option PySem.PyData) : Option Bool := match d, e with
  | some d, some e => if (PySem.SeqAt.shaped d && PySem.SeqAt.shaped e) = true then some (PySem.PyData.eqv d e) else none
  | _, _ => none
/-- == of two values: data, or lists of data -/
def eqS (S : Sto) (x y : D) : Option Bool := match x, y with
  | .int i, .int j => some (decide (i = j))
  | .bl i, .bl j => some (i == j)
  | .str i, .str j => some (decide (i = j))
  | .non, .non => some true
  | x, y => eqP (pdS S x) (pdS S y)
def flatD : D → Bool
  | .non => true
  | .bl _ => true
  | .int _ => true
  | .str _ => true
  | _ => false
/-- == of flat values, as in x in xs -/
def eqF : D → D → Bool
  | .non, .non => true
  | .bl a, .bl b => a == b
  | .bl a, .int b => (if a then 1 else 0) == b
  | .int a, .bl b => a == (if b then 1 else 0)
  | .int a, .int b => a == b
  | .str a, .str b => a == b
  | _, _ => false
def inF (x : D) (xs : List D) : Bool := xs.any fun y => eqF y x

def truth (S : Sto) : D → Option Bool
  | .non => some false
  | .bl b => some b
  | .int i => some (i != 0)
  | .str x => if x.length ≤ PySem.sizeLine then some ((x.length : Int) != 0) else none
  | .tup xs => some (!xs.isEmpty)
  | .ktup xs => some (!xs.isEmpty)
  | .ref n => match S[n]? with
    | some (.lst xs) => some (!xs.isEmpty)
    | some (.clst xs) => some (!xs.isEmpty)
    | some (.dK kvs) => some (!kvs.isEmpty)
    | _ => none
  | .klst _ => none

def R.truth (r : R D) : R Bool := r.bind fun d S => match Pv.truth S d with
  | some b => .ok b S
  | none => .bad

/-- a new object -/
def alloc (o : Ob) (S : Sto) : R D := .ok (.ref S.length) (S ++ [o])
def smallMul (i j : Int) : Bool := (decide (-(2 ^ 64) < i) && decide (i < 2 ^ 64)) || (decide (-(2 ^ 64) < j) && decide (j < 2 ^ 64))
def newTup (xs : List D) (S : Sto) : R D := if xs.length ≤ PySem.sizeLine then .ok (.tup xs) S else .bad
def newLst (xs : List D) (S : Sto) : R D := if xs.length ≤ PySem.sizeLine then alloc (.lst xs) S else .bad

def binop (op : BOp) (x y : D) (S : Sto) : R D :=
  match op, x, y with
  | .add, .int i, .int j => .ok (.int (i + j)) S
  | .add, .str a, .str b => if a.length + b.length ≤ PySem.sizeLine then .ok (.str (a ++ b)) S else .bad
  | .add, .tup a, .tup b => newTup (a ++ b) S
  | .add, .ref n, .ref m => match S[n]?, S[m]? with
    | some (.lst a), some (.lst b) => newLst (a ++ b) S
    | _, _ => .bad
  | .sub, .int i, .int j => .ok (.int (i - j)) S
  | .mul, .int i, .int j => if smallMul i j = true then .ok (.int (i * j)) S else .bad
  | .mul, .ref n, .int k => match S[n]? with
    | some (.lst a) => if -(2 ^ 63) ≤ k ∧ k < 2 ^ 63 ∧ a.length * k.toNat ≤ PySem.sizeLine then alloc (.lst (List.replicate k.toNat a).flatten) S else .bad
    | _ => .bad
  | .mul, .tup a, .int k => if a ≠ [] ∧ -(2 ^ 62) ≤ k ∧ k ≤ 1000 ∧ a.length ≤ 1000 then .ok (.tup (List.replicate k.toNat a).flatten) S else .bad
  | .fdiv, .int i, .int j => if 0 < j ∧ j < 1073741824 then .ok (.int (i / j)) S else .bad
  | .mod, .int i, .int j => if 0 < j then .ok (.int (i % j)) S else .bad
  | .pow, .int i, .int j => if 0 ≤ j ∧ j ≤ 1000000 ∧ i.natAbs < 2 ^ 64 then .ok (.int (i ^ j.toNat)) S else .bad
  | .shl, .int i, .int j => if 0 ≤ j ∧ j ≤ 1000000 ∧ i.natAbs < 2 ^ 64 then .ok (.int (i * 2 ^ j.toNat)) S else .bad
  | .shr, .int i, .int j => if 0 ≤ j then .ok (.int (i / 2 ^ j.toNat)) S else .bad
  | .xor, .int i, .int j => .ok (.int (PySem.Builtin.bitXor i j)) S
  | _, _, _ => .bad

/-- x in y -/
def isIn (x y : D) (S : Sto) : Option Bool :=
  match y with
  | .ref n => match S[n]? with
    | some (.dK kvs) => (keyOf x).map fun k => (lookA k kvs).isSome
    | some (.dT kvs) => (tkeyOf x).map fun k => (lookA k kvs).isSome
    | some (.lst ys) => if flatD x && ys.all flatD then some (inF x ys) else none
    | some (.clst ys) => if flatD x && ys.all flatD then some (inF x ys) else none
    | _ => none
  | .tup ys => if flatD x && ys.all flatD then some (inF x ys) else none
  | .ktup ys => if flatD x && ys.all flatD then some (inF x ys) else none
  | _ => none
def ofOpt (o : Option Bool) (S : Sto) : R D := match o with
  | some b => .ok (.bl b) S
  | none => .bad
def isNone : D → Bool
  | .non => true
  | _ => false
/-- the ints of a list -/
def intsOf : List D → Option (List Int)
  | [] => some []
  | .int i :: r => (intsOf r).map fun l => i :: l
  | _ :: _ => none
def boolsOf : List D → Option (List Bool)
  | [] => some []
  | .bl b :: r => (boolsOf r).map fun l => b :: l
  | _ :: _ => none
def ltT (x y : D) : Option Bool := match x, y with
  | .tup xs, .tup ys => match intsOf xs, intsOf ys with
    | some a, some b => some (HT.lexLt a b)
    | _, _ => none
  | .str a, .str b => some (decide (a.cps.toList < b.cps.toList))
  | _, _ => none
def cmpop (op : COp) (x y : D) (S : Sto) : R D :=
  match op with
  | .eq => ofOpt (eqS S x y) S
  | .ne => ofOpt ((eqS S x y).map fun b => !b) S
  | .lt => match x, y with
    | .int i, .int j => .ok (.bl (decide (i < j))) S
    | _, _ => ofOpt (ltT x y) S
  | .le => match x, y with
    | .int i, .int j => .ok (.bl (decide (i ≤ j))) S
    | _, _ => .bad
  | .gt => match x, y with
    | .int i, .int j => .ok (.bl (decide (j < i))) S
    | _, _ => .bad
  | .ge => match x, y with
    | .int i, .int j => .ok (.bl (decide (j ≤ i))) S
    | _, _ => .bad
  | .isin => ofOpt (isIn x y S) S
  | .notin => ofOpt ((isIn x y S).map fun b => !b) S
  | .isN => match y with
    | .non => .ok (.bl (isNone x)) S
    | _ => .bad
  | .notN => match y with
    | .non => .ok (.bl (!isNone x)) S
    | _ => .bad

def getAt (xs : List D) (i : Int) : Option D := L2.atI xs i
def subscr (x y : D) (S : Sto) : R D :=
  match x with
  | .ref n => match S[n]? with
    | some (.dK kvs) => match keyOf y with
      | some k => match lookA k kvs with
        | some v => .ok v S
        | none => .bad
      | none => .bad
    | some (.dT kvs) => match tkeyOf y with
      | some k => match lookA k kvs with
        | some v => .ok v S
        | none => .bad
      | none => .bad
    | some (.lst xs) => match y with
      | .int i => match getAt xs i with
        | some v => .ok v S
        | none => .bad
      | _ => .bad
    | some (.clst xs) => match y with
      | .int i => match getAt xs i with
        | some v => .ok v S
        | none => .bad
      | _ => .bad
    | _ => .bad
  | .tup xs => match y with
    | .int i => match getAt xs i with
      | some v => .ok v S
      | none => .bad
    | _ => .bad
  | .ktup xs => match y with
    | .int i => match getAt xs i with
      | some v => .ok v S
      | none => .bad
    | _ => .bad
  | .klst xs => match y with
    | .int i => match getAt xs i with
      | some v => .ok v S
      | none => .bad
    | _ => .bad
  | _ => .bad
/-- a slice's bound -/
def partOf : D → Option (Option Int)
  | .non => some none
  | .int i => some (some i)
  | _ => none
def cutD (xs : List D) (lo hi : Option Int) : List D := (xs.drop (HT.sIx xs.length 0 lo)).take (HT.sIx xs.length xs.length hi - HT.sIx xs.length 0 lo)
def sliced (x : D) (lo hi : Option Int) (S : Sto) : R D :=
  match x with
  | .tup xs => .ok (.tup (cutD xs lo hi)) S
  | .ref n => match S[n]? with
    | some (.lst xs) => alloc (.lst (cutD xs lo hi)) S
    | _ => .bad
  | _ => .bad
def reversed (x : D) (S : Sto) : R D :=
  match x with
  | .ref n => match S[n]? with
    | some (.lst xs) => alloc (.lst xs.reverse) S
    | _ => .bad
  | _ => .bad
def insInt : Int → List Int → List Int
  | a, [] => [a]
  | a, b :: r => if a ≤ b then a :: b :: r else b :: insInt a r
def sortInts : List Int → List Int
  | [] => []
  | a :: r => insInt a (sortInts r)
def minInts : List Int → Option Int
  | [] => none
  | [a] => some a
  | a :: r => (minInts r).map fun m => if a ≤ m then a else m
def maxInts : List Int → Option Int
  | [] => none
  | [a] => some a
  | a :: r => (maxInts r).map fun m => if m ≤ a then a else m
def builtin (b : BI) (xs : List D) (S : Sto) : R D :=
  match b, xs with
  | .len, [.tup a] => .ok (.int a.length) S
  | .len, [.ktup a] => .ok (.int a.length) S
  | .len, [.klst a] => .ok (.int a.length) S
  | .len, [.str a] => if a.length ≤ PySem.sizeLine then .ok (.int a.length) S else .bad
  | .len, [.ref n] => match S[n]? with
    | some (.lst a) => .ok (.int a.length) S
    | some (.clst a) => .ok (.int a.length) S
    | some (.dK a) => .ok (.int a.length) S
    | _ => .bad
  | .tuple, [.tup a] => .ok (.tup a) S
  | .tuple, [.ref n] => match S[n]? with
    | some (.lst a) => .ok (.tup a) S
    | _ => .bad
  | .list, [.tup a] => alloc (.lst a) S
  | .list, [.ref n] => match S[n]? with
    | some (.lst a) => alloc (.lst a) S
    | some (.dK kvs) => alloc (.lst (kvs.map fun p => ofKey p.1)) S
    | _ => .bad
  | .all, [.ref n] => match S[n]? with
    | some (.lst a) => match boolsOf a with
      | some bs => .ok (.bl (bs.all id)) S
      | none => .bad
    | _ => .bad
  | .any, [.ref n] => match S[n]? with
    | some (.lst a) => match boolsOf a with
      | some bs => .ok (.bl (bs.any id)) S
      | none => .bad
    | _ => .bad
  | .sorted, [.ref n] => match S[n]? with
    | some (.lst a) => match intsOf a with
      | some is => alloc (.lst ((sortInts is).map D.int)) S
      | none => .bad
    | _ => .bad
  | .min, [.ref n] => match S[n]? with
    | some (.lst a) => match intsOf a with
      | some is => match minInts is with
        | some m => .ok (.int m) S
        | none => .bad
      | none => .bad
    | _ => .bad
  | .max, [.ref n] => match S[n]? with
    | some (.lst a) => match intsOf a with
      | some is => match maxInts is with
        | some m => .ok (.int m) S
        | none => .bad
      | none => .bad
    | _ => .bad
  | .sum, [.ref n] => match S[n]? with
    | some (.lst a) => match intsOf a with
      | some is => .ok (.int is.sum) S
      | none => .bad
    | _ => .bad
  | .int, [.int i] => .ok (.int i) S
  | .int, [.bl b] => .ok (.int (if b then 1 else 0)) S
  | .abs, [.int i] => .ok (.int (if i < 0 then -i else i)) S
  | _, _ => .bad
def bmethod (m : BM) (x : D) (xs : List D) (S : Sto) : R D :=
  match x with
  | .ref n => match S[n]? with
    | some (.lst a) => match m, xs with
      | .append, [y] => if a.length < PySem.sizeLine then .ok .non (S.set n (.lst (a ++ [y]))) else .bad
      | .pop, [] => match a[a.length - 1]? with
        | some y => .ok y (S.set n (.lst a.dropLast))
        | none => .bad
      | .extend, [.ref k] => match S[k]? with
        | some (.lst b) => if a.length + b.length ≤ PySem.sizeLine then .ok .non (S.set n (.lst (a ++ b))) else .bad
        | _ => .bad
      | .extend, [.tup b] => if a.length + b.length ≤ PySem.sizeLine then .ok .non (S.set n (.lst (a ++ b))) else .bad
      | .reverse, [] => .ok .non (S.set n (.lst a.reverse))
      | _, _ => .bad
    | some (.dK kvs) => match m, xs with
      | .get, [y] => match keyOf y with
        | some k => .ok ((lookA k kvs).getD .non) S
        | none => .bad
      | _, _ => .bad
    | some (.dT kvs) => match m, xs with
      | .get, [y] => match tkeyOf y with
        | some k => .ok ((lookA k kvs).getD .non) S
        | none => .bad
      | _, _ => .bad
    | _ => .bad
  | _ => .bad

/-- the receiver is of the method's type -/
def bmRecv (m : BM) (x : D) (S : Sto) : Bool :=
  match x with
  | .ref n => match S[n]?, m with
    | some (.lst _), .append => true
    | some (.lst _), .pop => true
    | some (.lst _), .extend => true
    | some (.lst _), .reverse => true
    | some (.dK _), .get => true
    | some (.dT _), .get => true
    | _, _ => false
  | _ => false

/-! ### what is walked -/
inductive IS where
  | lst (n : Nat) | fix (xs : List D) | rng (lo st : Int) (n : Nat) | enumL (n : Nat) | enumT (xs : List D)
/-- the turn's item; some none: it stops -/
def IS.at (s : IS) (i : Nat) (S : Sto) : Option (Option D) :=
  match s with
  | .lst n => match S[n]? with
    | some (.lst xs) => some xs[i]?
    | some (.clst xs) => some xs[i]?
    | _ => none
  | .fix xs => some xs[i]?
  | .rng lo st n => if i < n then some (some (.int (lo + (i : Int) * st))) else some none
  | .enumL n => match S[n]? with
    | some (.lst xs) => some (xs[i]?.map fun x => D.tup [.int i, x])
    | _ => none
  | .enumT xs => some (xs[i]?.map fun x => D.tup [.int i, x])
def inRange62 (i : Int) : Bool := decide (-(2 ^ 62) ≤ i) && decide (i < 2 ^ 62)
/-- the turns of range(lo, hi, st) -/
def rngN (lo hi st : Int) : Nat := if 0 < st then ((hi - lo + st - 1) / st).toNat else ((lo - hi + (-st) - 1) / (-st)).toNat
def rangeOf (xs : List D) (S : Sto) : R IS :=
  match xs with
  | [.int hi] => if inRange62 hi = true then .ok (.rng 0 1 hi.toNat) S else .bad
  | [.int lo, .int hi] => if (inRange62 lo && inRange62 hi) = true then .ok (.rng lo 1 (hi - lo).toNat) S else .bad
  | [.int lo, .int hi, .int st] => if (inRange62 lo && inRange62 hi) = true ∧ st = -1 then .ok (.rng lo (-1) (lo - hi).toNat) S else .bad
  | _ => .bad
def walkOf (d : D) (S : Sto) : R IS :=
  match d with
  | .tup xs => .ok (.fix xs) S
  | .ktup xs => .ok (.fix xs) S
  | .ref n => match S[n]? with
    | some (.lst _) => .ok (.lst n) S
    | some (.clst _) => .ok (.lst n) S
    | _ => .bad
  | _ => .bad
def enumOf (d : D) (S : Sto) : R IS :=
  match d with
  | .tup xs => .ok (.enumT xs) S
  | .ref n => match S[n]? with
    | some (.lst _) => .ok (.enumL n) S
    | _ => .bad
  | _ => .bad
def revdOf (d : D) (S : Sto) : R IS :=
  match d with
  | .tup xs => .ok (.fix xs.reverse) S
  | _ => .bad

/-! ### loops -/
def loopF (src : IS) (body : D → Sl → Sto → F) : Nat → Nat → Sl → Sto → F
  | 0, _, _, _ => .bad
  | k + 1, i, σ, S => match src.at i S with
    | none => .bad
    | some none => .nx σ S
    | some (some d) => match body d σ S with
      | .nx σ' S' => loopF src body k (i + 1) σ' S'
      | .ct σ' S' => loopF src body k (i + 1) σ' S'
      | .bk σ' S' => .nx σ' S'
      | r => r
def loopW (t : Sl → Sto → R Bool) (body : Sl → Sto → F) : Nat → Sl → Sto → F
  | 0, _, _ => .bad
  | k + 1, σ, S => match t σ S with
    | .ok true S1 => match body σ S1 with
      | .nx σ' S' => loopW t body k σ' S'
      | .ct σ' S' => loopW t body k σ' S'
      | .bk σ' S' => .nx σ' S'
      | r => r
    | .ok false S1 => .nx σ S1
    | .exc x S1 => .exc σ x S1
    | .bad => .bad
/-- a comprehension's turns; D: the new list's number -/
def loopC (src : IS) (n : Nat) (turn : D → Sto → R (Option D)) : Nat → Nat → Sto → R D
  | 0, _, _ => .bad
  | k + 1, i, S => match src.at i S with
    | none => .bad
    | some none => .ok (.ref n) S
    | some (some d) => match turn d S with
      | .ok none S1 => loopC src n turn k (i + 1) S1
      | .ok (some y) S1 => match S1[n]? with
        | some (.lst acc) => if acc.length < PySem.sizeLine then loopC src n turn k (i + 1) (S1.set n (.lst (acc ++ [y]))) else .bad
        | _ => .bad
      | _ => .bad
def wipeD (σ : Sl) : List Nat → Sl
  | [] => σ
  | v :: vs => (wipeD σ vs).set v none

def augF (op : BOp) (x : Int) (y : D) (i : Nat) (σ : Sl) (S : Sto) : F :=
  match y with
  | .int z => match op with
    | .add => .nx (σ.set i (some (.int (x + z)))) S
    | .sub => .nx (σ.set i (some (.int (x - z)))) S
    | _ => .bad
  | _ => .bad
/-! ### the program's tables -/
structure Fn where
  params : Nat
  slots : Nat
  body : C
structure Prog where
  fn : Nat → Option Fn
  /-- a class's method -/
  meth : Nat → Nat → Option Nat
  init : Nat → Option Nat
  /-- whether the first class is the second or below it -/
  sub : Nat → Nat → Option Bool
  /-- the class's instances keep such an attribute -/
  flds : Nat → Nat → Bool
  /-- an exception's own field, if its class keeps one -/
  field : Nat → Option (Option Nat)

def tyIs (S : Sto) (d : D) (t : Ty) : Option Bool :=
  match d with
  | .non => some false
  | .bl _ => some (decide (t = .int) || decide (t = .bool))
  | .int _ => some (decide (t = .int))
  | .str _ => some (decide (t = .str))
  | .tup _ => some (decide (t = .tuple))
  | .ktup _ => none
  | .klst _ => none
  | .ref n => match S[n]? with
    | some (.lst _) => some (decide (t = .list))
    | some (.dK _) => some (decide (t = .dict))
    | some (.dT _) => some (decide (t = .dict))
    | _ => none

def getattr (G : Prog) (x : D) (f : Nat) (S : Sto) : R D :=
  match x with
  | .ref n => match S[n]? with
    | some (.ins c fs) => match G.flds c f, lookA f fs with
      | true, some v => .ok v S
      | _, _ => .bad
    | _ => .bad
  | _ => .bad
def setattr (G : Prog) (x : D) (f : Nat) (d : D) (S : Sto) : Option Sto :=
  match x with
  | .ref n => match S[n]? with
    | some (.ins c fs) => if G.flds c f = true ∧ fs.length < 1000 then some (S.set n (.ins c (putN f d fs))) else none
    | _ => none
  | _ => none
/-- x[y] = d -/
def setitem (x y d : D) (S : Sto) : Option Sto :=
  match x with
  | .ref n => match S[n]? with
    | some (.lst xs) => match y with
      | .int i => match L2.ixN xs.length i with
        | some j => some (S.set n (.lst (xs.set j d)))
        | none => none
      | _ => none
    | some (.dK kvs) => match keyOf y with
      | some k => if kvs.length < PySem.sizeLine then some (S.set n (.dK (putA k d kvs))) else none
      | none => none
    | some (.dT kvs) => match tkeyOf y with
      | some k => if kvs.length < PySem.sizeLine then some (S.set n (.dT (putA k d kvs))) else none
      | none => none
    | _ => none
  | _ => none
def stored (σ : Sl) (o : Option Sto) : R Sl := match o with
  | some S => .ok σ S
  | none => .bad

abbrev Call := Nat → List D → Sto → R D

section
variable (G : Prog) (w : Nat) (call mk : Call)
mutual
/-- an expression -/
def evE : C → Sl → Sto → R D
  | .con d, _, S => .ok d S
  | .var i, σ, S => match σ[i]? with
    | some (some d) => .ok d S
    | _ => .bad
  | .bin op a b, σ, S => (evE a σ S).bind fun x S1 => (evE b σ S1).bind fun y S2 => binop op x y S2
  | .neg a, σ, S => (evE a σ S).bind fun x S1 => match x with
    | .int i => .ok (.int (-i)) S1
    | _ => .bad
  | .not a, σ, S => (evE a σ S).truth.bind fun b S1 => .ok (.bl (!b)) S1
  | .and a b, σ, S => (evE a σ S).bind fun x S1 => match truth S1 x with
    | some true => evE b σ S1
    | some false => .ok x S1
    | none => .bad
  | .or a b, σ, S => (evE a σ S).bind fun x S1 => match truth S1 x with
    | some false => evE b σ S1
    | some true => .ok x S1
    | none => .bad
  | .cmp op a b, σ, S => (evE a σ S).bind fun x S1 => (evE b σ S1).bind fun y S2 => cmpop op x y S2
  | .chain o1 o2 a b c, σ, S => (evE a σ S).bind fun x S1 => (evE b σ S1).bind fun y S2 => (cmpop o1 x y S2).bind fun z S3 => match z with
    | .bl true => (evE c σ S3).bind fun v S4 => cmpop o2 y v S4
    | .bl false => .ok (.bl false) S3
    | _ => .bad
  | .ite c a b, σ, S => (evT c σ S).bind fun t S1 => if t = true then evE a σ S1 else evE b σ S1
  | .tup xs, σ, S => (evL xs σ S).bind fun vs S1 => newTup vs S1
  | .lst xs, σ, S => (evL xs σ S).bind fun vs S1 => newLst vs S1
  | .dict t xs, σ, S => match xs with
    | .nil => alloc (if t = true then .dT [] else .dK []) S
    | _ => if t = true then .bad else
      evD xs S.length [] σ (S ++ [.dK []])
  | .sub a i, σ, S => (evE a σ S).bind fun x S1 => (evE i σ S1).bind fun y S2 => subscr x y S2
  | .slice a lo hi, σ, S => (evE a σ S).bind fun x S1 => (evO lo σ S1).bind fun l S2 => (evO hi σ S2).bind fun h S3 => sliced x l h S3
  | .rev a, σ, S => (evE a σ S).bind fun x S1 => reversed x S1
  | .attr a f, σ, S => (evE a σ S).bind fun x S1 => getattr G x f S1
  | .call f xs, σ, S => (evL xs σ S).bind fun vs S1 => call f vs S1
  | .make c xs, σ, S => (evL xs σ S).bind fun vs S1 => match G.init c with
    | some f => (mk f (.ref S1.length :: vs) (S1 ++ [.ins c []])).bind fun r S2 => match r with
      | .non => .ok (.ref S1.length) S2
      | _ => .bad
    | none => .bad
  | .meth a m xs, σ, S => (evE a σ S).bind fun x S1 => match x with
    | .ref n => match S1[n]? with
      | some (.ins c fs) => match G.meth c m, lookA m fs with
        | some f, none => (evL xs σ S1).bind fun vs S2 => call f (.ref n :: vs) S2
        | _, _ => .bad
      | _ => .bad
    | _ => .bad
  | .methS a m i, σ, S => (evE a σ S).bind fun x S1 => match x with
    | .ref n => match S1[n]? with
      | some (.ins c fs) => match G.meth c m, lookA m fs with
        | some f, none => match σ[i]? with
          | some (some (.tup ds)) => call f (.ref n :: ds) S1
          | _ => .bad
        | _, _ => .bad
      | _ => .bad
    | _ => .bad
  | .bi b xs, σ, S => (evL xs σ S).bind fun vs S1 => builtin b vs S1
  | .isx i _ t, σ, S => match σ[i]? with
    | some none => .ok (.bl t) S
    | _ => .bad
  | .bm a m xs, σ, S => (evE a σ S).bind fun x S1 => if bmRecv m x S1 = true then (evL xs σ S1).bind fun vs S2 => bmethod m x vs S2 else .bad
  | .isi a t, σ, S => (evE a σ S).bind fun x S1 => ofOpt (tyIs S1 x t) S1
  | .comp elt t it cond vs, σ, S => (evI it σ S).bind fun src S1 =>
      loopC src S1.length (fun d S2 => match evG t d (wipeD σ vs) S2 with
        | .ok σ2 S3 => match evK cond σ2 S3 with
          | .ok true S4 => match evE elt σ2 S4 with
            | .ok y S5 => .ok (some y) S5
            | _ => .bad
          | .ok false S4 => .ok none S4
          | _ => .bad
        | _ => .bad) w 0 (S1 ++ [.lst []])
  | _, _, _ => .bad
/-- a comprehension's test -/
def evK : C → Sl → Sto → R Bool
  | .nil, _, S => .ok true S
  | .cons c _, σ, S => evT c σ S
  | _, _, _ => .bad
/-- a slice's part -/
def evO : C → Sl → Sto → R (Option Int)
  | .nil, _, S => .ok none S
  | .cons e _, σ, S => (evE e σ S).bind fun x S1 => match x with
    | .int i => .ok (some i) S1
    | _ => .bad
  | _, _, _ => .bad
/-- a test -/
def evT : C → Sl → Sto → R Bool
  | .not a, σ, S => (evT a σ S).bind fun b S1 => .ok (!b) S1
  | .and a b, σ, S => (evT a σ S).bind fun x S1 => if x = true then evT b σ S1 else .ok false S1
  | .or a b, σ, S => (evT a σ S).bind fun x S1 => if x = true then .ok true S1 else evT b σ S1
  | .ite c a b, σ, S => (evT c σ S).bind fun t S1 => if t = true then evT a σ S1 else evT b σ S1
  | .cmp op a b, σ, S => ((evE a σ S).bind fun x S1 => (evE b σ S1).bind fun y S2 => cmpop op x y S2).truth
  | .chain o1 o2 a b c, σ, S => ((evE a σ S).bind fun x S1 => (evE b σ S1).bind fun y S2 => (cmpop o1 x y S2).bind fun z S3 => match z with
    | .bl true => (evE c σ S3).bind fun v S4 => cmpop o2 y v S4
    | .bl false => .ok (.bl false) S3
    | _ => .bad).truth
  | .con d, _, S => (R.ok d S).truth
  | .var i, σ, S => (match σ[i]? with
    | some (some d) => R.ok d S
    | _ => .bad).truth
  | .attr a f, σ, S => ((evE a σ S).bind fun x S1 => getattr G x f S1).truth
  | .sub a i, σ, S => ((evE a σ S).bind fun x S1 => (evE i σ S1).bind fun y S2 => subscr x y S2).truth
  | .call f xs, σ, S => ((evL xs σ S).bind fun vs S1 => call f vs S1).truth
  | .meth a m xs, σ, S => ((evE a σ S).bind fun x S1 => match x with
    | .ref n => match S1[n]? with
      | some (.ins c fs) => match G.meth c m, lookA m fs with
        | some f, none => (evL xs σ S1).bind fun vs S2 => call f (.ref n :: vs) S2
        | _, _ => .bad
      | _ => .bad
    | _ => .bad).truth
  | .bi b xs, σ, S => ((evL xs σ S).bind fun vs S1 => builtin b vs S1).truth
  | .isx i _ t, σ, S => (match σ[i]? with
    | some none => R.ok (D.bl t) S
    | _ => .bad).truth
  | .isi a t, σ, S => ((evE a σ S).bind fun x S1 => ofOpt (tyIs S1 x t) S1).truth
  | _, _, _ => .bad
/-- a list of expressions -/
def evL : C → Sl → Sto → R (List D)
  | .nil, _, S => .ok [] S
  | .cons a r, σ, S => (evE a σ S).bind fun x S1 => (evL r σ S1).bind fun xs S2 => .ok (x :: xs) S2
  | .star a r, σ, S => (evE a σ S).bind fun x S1 => match asSeq S1 x with
    | some ys => (evL r σ S1).bind fun xs S2 => .ok (ys ++ xs) S2
    | none => .bad
  | _, _, _ => .bad
/-- the pairs of a display of a dict that stands at n -/
def evD : C → Nat → List (Key × D) → Sl → Sto → R D
  | .nil, n, acc, _, S => match S[n]? with
    | some (.dK []) => if acc.length ≤ 15 then .ok (.ref n) (S.set n (.dK (acc.foldl (fun a p => putA p.1 p.2 a) []))) else .bad
    | _ => .bad
  | .cons k (.cons v r), n, acc, σ, S => (evE k σ S).bind fun x S1 => (evE v σ S1).bind fun y S2 => match keyOf x with
    | some key => evD r n (acc ++ [(key, y)]) σ S2
    | none => .bad
  | _, _, _, _, _ => .bad
/-- what is walked -/
def evI : C → Sl → Sto → R IS
  | .range xs, σ, S => (evL xs σ S).bind fun vs S1 => rangeOf vs S1
  | .enum a, σ, S => (evE a σ S).bind fun d S1 => enumOf d S1
  | .revd a, σ, S => (evE a σ S).bind fun d S1 => revdOf d S1
  | .walk a, σ, S => (evE a σ S).bind fun d S1 => walkOf d S1
  | _, _, _ => .bad
/-- a target: the slots behind it -/
def evG : C → D → Sl → Sto → R Sl
  | .var i, d, σ, S => .ok (σ.set i (some d)) S
  | .sub a k, d, σ, S => (evE a σ S).bind0 fun x S1 => (evE k σ S1).bind0 fun y S2 => stored σ (setitem x y d S2)
  | .attr a f, d, σ, S => (evE a σ S).bind0 fun x S1 => stored σ (setattr G x f d S1)
  | .tup ts, d, σ, S => match asSeq S d with
    | some ds => evGs ts ds σ S
    | none => .bad
  | _, _, _, _ => .bad
/-- several targets -/
def evGs : C → List D → Sl → Sto → R Sl
  | .nil, [], σ, S => .ok σ S
  | .cons t r, d :: ds, σ, S => (evG t d σ S).bind0 fun σ1 S1 => evGs r ds σ1 S1
  | _, _, _, _ => .bad
/-- a statement -/
def evS : C → Sl → Sto → F
  | .asg t e, σ, S => (evE e σ S).thn σ fun d S1 => (evG t d σ S1).nx
  | .par i j a b, σ, S => (evE a σ S).thn σ fun x S1 => (evE b σ S1).thn σ fun y S2 => .nx ((σ.set i (some x)).set j (some y)) S2
  | .aug i op e, σ, S => match σ[i]? with
    | some (some (.int x)) => (evE e σ S).thn σ fun y S1 => augF op x y i σ S1
    | _ => .bad
  | .ret e, σ, S => (evE e σ S).thn σ fun d S1 => .rt d S1
  | .ex e, σ, S => (evE e σ S).thn σ fun _ S1 => .nx σ S1
  | .iff c a b, σ, S => (evT c σ S).thn σ fun t S1 => if t = true then evB a σ S1 else evB b σ S1
  | .whl c b, σ, S => loopW (evT c) (evB b) w σ S
  | .forr t it b, σ, S => (evI it σ S).thn σ fun src S1 => loopF src (fun d σ1 S2 => (evG t d σ1 S2).nx.seq fun σ2 S3 => evB b σ2 S3) w 0 σ S1
  | .raise c xs, σ, S => match G.field c, xs with
    | some none, .nil => .exc σ ⟨c, []⟩ S
    | _, _ => .bad
  | .tryN b, σ, S => match evB b σ S with
    | .exc _ _ _ => .bad
    | r => r
  | .tryE b _ i alts, σ, S => match evB b σ S with
    | .exc σ1 x S1 => (evA alts x (σ1.set i none) S1).wipe i
    | r => r
  | .pass, σ, S => .nx σ S
  | .brk, σ, S => .bk σ S
  | .cont, σ, S => .ct σ S
  | _, _, _ => .bad
/-- a clause's suites, one for each class of exception -/
def evA : C → Exc → Sl → Sto → F
  | .alt c h r, x, σ, S => if x.c = c then (match x.fs with
    | [] => evB h σ S
    | _ => .bad) else evA r x σ S
  | _, _, _, _ => .bad
/-- a block -/
def evB : C → Sl → Sto → F
  | .nil, σ, S => .nx σ S
  | .cons s r, σ, S => (evS s σ S).seq fun σ1 S1 => evB r σ1 S1
  | _, _, _ => .bad
end
end

/-- what a body hands back -/
def F.out (r : F) : R D :=
  match r with
  | .nx _ S => .ok .non S
  | .rt d S => .ok d S
  | .exc _ x S => .exc x S
  | _ => .bad
def badCall : Call := fun _ _ _ => .bad
def startD (n : Nat) (ds : List D) : Sl := ds.map some ++ List.replicate (n - ds.length) none
/-- calls at a depth, and one deeper -/
def evP (G : Prog) (w : Nat) : Nat → Call × Call
  | 0 => (badCall, badCall)
  | d + 1 => (fun f ds S => match G.fn f with
    | some fn => if ds.length = fn.params then (evB G w (evP G w d).1 (evP G w d).2 fn.body (startD fn.slots ds) S).out else .bad
    | none => .bad, (evP G w d).1)
/-- a call at a depth -/
def evC (G : Prog) (w d : Nat) : Call := (evP G w d).1
end Pv
end

section
set_option autoImplicit false
set_option linter.all false
set_option maxHeartbeats 1000000
/-! Pw0: plain lemmas about the evaluator: loops, stores that grow. -/
namespace Pv
open PySem (Str)
/-! ### stores -/
/-- the store has grown -/
def Grow (S S' : Sto) : Prop := ∃ l, S' = S ++ l
theorem Grow.refl (S : Sto) : Grow S S := ⟨[], by simp⟩
theorem Grow.trans {S S1 S2 : Sto} (h : Grow S S1) (h2 : Grow S1 S2) : Grow S S2 := by
  obtain ⟨l, rfl⟩ := h
  obtain ⟨m, rfl⟩ := h2
  exact ⟨l ++ m, by simp⟩
theorem Grow.snoc (S : Sto) (o : Ob) : Grow S (S ++ [o]) := ⟨[o], rfl⟩
theorem Grow.at {S S' : Sto} (h : Grow S S') {i : Nat} {o : Ob} (e : S[i]? = some o) : S'[i]? = some o := by
  obtain ⟨l, rfl⟩ := h
  rw [List.getElem?_append_left (List.getElem?_eq_some_iff.mp e).1]
  exact e
theorem Grow.len {S S' : Sto} (h : Grow S S') : S.length ≤ S'.length := by
  obtain ⟨l, rfl⟩ := h
  simp
/-- the store has grown, and has changed at M alone -/
def Chg (M : List Nat) (S S' : Sto) : Prop := S.length ≤ S'.length ∧ ∀ i, i < S.length → i ∉ M → S'[i]? = S[i]?
theorem Chg.refl (M : List Nat) (S : Sto) : Chg M S S := ⟨Nat.le_refl _, fun _ _ _ => rfl⟩
theorem Chg.trans {M : List Nat} {S S1 S2 : Sto} (h : Chg M S S1) (h2 : Chg M S1 S2) : Chg M S S2 :=
  ⟨Nat.le_trans h.1 h2.1, fun i hi hm => (h2.2 i (Nat.lt_of_lt_of_le hi h.1) hm).trans (h.2 i hi hm)⟩
theorem Chg.of {M : List Nat} {S S' : Sto} (h : Grow S S') : Chg M S S' := by
  obtain ⟨l, rfl⟩ := h
  exact ⟨by simp, fun i hi _ => List.getElem?_append_left hi⟩
theorem Chg.at {M : List Nat} {S S' : Sto} (h : Chg M S S') {i : Nat} {o : Ob} (hm : i ∉ M) (e : S[i]? = some o) : S'[i]? = some o :=
  (h.2 i (List.getElem?_eq_some_iff.mp e).1 hm).trans e
theorem Chg.mono {M M' : List Nat} {S S' : Sto} (h : Chg M S S') (s : ∀ i ∈ M, i ∈ M') : Chg M' S S' := ⟨h.1, fun i hi hm => h.2 i hi fun x => hm (s i x)⟩
theorem Chg.set {M : List Nat} {S : Sto} {i : Nat} (o : Ob) (hi : i ∈ M) : Chg M S (S.set i o) := ⟨by simp, fun j hj hm => by
  rw [List.getElem?_set_ne]
  intro e
  subst e
  exact hm hi⟩
/-! ### loops -/
theorem loopF_nx {src : IS} {body : D → Sl → Sto → F} {m : Nat} (P : Nat → Sl → Sto → Prop)
    (step : ∀ i σ S, i < m → P i σ S → ∃ x, src.at i S = some (some x) ∧ ∃ σ' S', (body x σ S = .nx σ' S' ∨ body x σ S = .ct σ' S') ∧ P (i + 1) σ' S')
    (fin : ∀ σ S, P m σ S → src.at m S = some none) : ∀ (w i : Nat) (σ : Sl) (S : Sto), i ≤ m → m - i < w → P i σ S → ∃ σ' S', loopF src body w i σ S = .nx σ' S' ∧ P m σ' S' := by
  intro w
  induction w with
  | zero => intro i σ S _ h; omega
  | succ w ih =>
    intro i σ S hi hw hP
    by_cases c : i < m
    · obtain ⟨x, e, σ', S', hb, hP'⟩ := step i σ S c hP
      obtain ⟨σ2, S2, e2, h2⟩ := ih (i + 1) σ' S' c (by omega) hP'
      refine ⟨σ2, S2, ?_, h2⟩
      unfold loopF
      rw [e]
      rcases hb with hb | hb <;> simp only [hb] <;> exact e2
    · have e : i = m := by omega
      subst e
      refine ⟨σ, S, ?_, hP⟩
      unfold loopF
      rw [fin σ S hP]
/-- a walk over a tuple that is there -/
theorem loopF_fix {xs : List D} {body : D → Sl → Sto → F} (P : Nat → Sl → Sto → Prop) {w : Nat} {σ : Sl} {S : Sto} (hw : xs.length < w) (h0 : P 0 σ S)
    (step : ∀ i x σ S, xs[i]? = some x → P i σ S → ∃ σ' S', (body x σ S = .nx σ' S' ∨ body x σ S = .ct σ' S') ∧ P (i + 1) σ' S') : ∃ σ' S', loopF (.fix xs) body w 0 σ S = .nx σ' S' ∧ P xs.length σ' S' :=
  loopF_nx P (fun i σ S hi hP => ⟨xs[i], by simp [IS.at, hi], step i _ σ S (by simp [hi]) hP⟩) (fun σ S _ => by simp [IS.at]) w 0 σ S (Nat.zero_le _) (by omega) h0
/-- a walk over a list that stays as it is -/
theorem loopF_lst {n : Nat} {xs : List D} {body : D → Sl → Sto → F} (P : Nat → Sl → Sto → Prop) {w : Nat} {σ : Sl} {S : Sto} (hw : xs.length < w) (h0 : P 0 σ S) (hl : ∀ i σ S, P i σ S → S[n]? = some (.lst xs))
    (step : ∀ i x σ S, xs[i]? = some x → P i σ S → ∃ σ' S', (body x σ S = .nx σ' S' ∨ body x σ S = .ct σ' S') ∧ P (i + 1) σ' S') : ∃ σ' S', loopF (.lst n) body w 0 σ S = .nx σ' S' ∧ P xs.length σ' S' :=
  loopF_nx P (fun i σ S hi hP => ⟨xs[i], by simp [IS.at, hl i σ S hP, hi], step i _ σ S (by simp [hi]) hP⟩) (fun σ S hP => by simp [IS.at, hl _ σ S hP]) w 0 σ S (Nat.zero_le _) (by omega) h0
theorem loopF_rng {lo st : Int} {m : Nat} {body : D → Sl → Sto → F} (P : Nat → Sl → Sto → Prop) {w : Nat} {σ : Sl} {S : Sto} (hw : m < w) (h0 : P 0 σ S)
    (step : ∀ i σ S, i < m → P i σ S → ∃ σ' S', (body (.int (lo + (i : Int) * st)) σ S = .nx σ' S' ∨ body (.int (lo + (i : Int) * st)) σ S = .ct σ' S') ∧ P (i + 1) σ' S') : ∃ σ' S', loopF (.rng lo st m) body w 0 σ S = .nx σ' S' ∧ P m σ' S' :=
  loopF_nx P (fun i σ S hi hP => ⟨_, by simp [IS.at, hi], step i σ S hi hP⟩) (fun σ S hP => by simp [IS.at]) w 0 σ S (Nat.zero_le _) (by omega) h0
/-- a while with a measure -/
theorem loopW_nx {t : Sl → Sto → R Bool} {body : Sl → Sto → F} (P : Nat → Sl → Sto → Prop) (E : Sl → Sto → Prop)
    (step : ∀ m σ S, P m σ S → (∃ S1, t σ S = .ok false S1 ∧ E σ S1) ∨ ∃ S1, t σ S = .ok true S1 ∧ ∃ σ' S' m', (body σ S1 = .nx σ' S' ∨ body σ S1 = .ct σ' S') ∧ m' < m ∧ P m' σ' S') :
    ∀ (w m : Nat) (σ : Sl) (S : Sto), m < w → P m σ S → ∃ σ' S', loopW t body w σ S = .nx σ' S' ∧ E σ' S' := by
  intro w
  induction w with
  | zero => intro m σ S h; omega
  | succ w ih =>
    intro m σ S hw hP
    unfold loopW
    rcases step m σ S hP with ⟨S1, e, hE⟩ | ⟨S1, e, σ', S', m', hb, hm, hP'⟩
    · rw [e]
      exact ⟨σ, S1, rfl, hE⟩
    · rw [e]
      obtain ⟨σ2, S2, e2, h2⟩ := ih m' σ' S' (by omega) hP'
      refine ⟨σ2, S2, ?_, h2⟩
      rcases hb with hb | hb <;> simp only [hb] <;> exact e2
/-- a comprehension: J holds of the store, the new list apart -/
theorem loopC_ok {src : IS} {n : Nat} {turn : D → Sto → R (Option D)} {m : Nat} (P : Nat → List D → Sto → Prop)
    (step : ∀ i acc S, i < m → P i acc S → S[n]? = some (.lst acc) → ∃ x, src.at i S = some (some x) ∧ ((∃ S', turn x S = .ok none S' ∧ S'[n]? = some (.lst acc) ∧ P (i + 1) acc S') ∨ ∃ y S', turn x S = .ok (some y) S' ∧ S'[n]? = some (.lst acc) ∧ acc.length < PySem.sizeLine ∧ P (i + 1) (acc ++ [y]) (S'.set n (.lst (acc ++ [y])))))
    (fin : ∀ acc S, P m acc S → S[n]? = some (.lst acc) → src.at m S = some none) : ∀ (w i : Nat) (acc : List D) (S : Sto), i ≤ m → m - i < w → P i acc S → S[n]? = some (.lst acc) → ∃ acc' S', loopC src n turn w i S = .ok (.ref n) S' ∧ S'[n]? = some (.lst acc') ∧ P m acc' S' := by
  intro w
  induction w with
  | zero => intro i acc S _ h; omega
  | succ w ih =>
    intro i acc S hi hw hP hn
    by_cases c : i < m
    · obtain ⟨x, e, h⟩ := step i acc S c hP hn
      unfold loopC
      rw [e]
      rcases h with ⟨S', e1, e2, hP'⟩ | ⟨y, S', e1, e2, hl, hP'⟩
      · simp only [e1]
        exact ih (i + 1) acc S' c (by omega) hP' e2
      · simp only [e1, e2, if_pos hl]
        exact ih (i + 1) (acc ++ [y]) _ c (by omega) hP' (by rw [List.getElem?_set_self (List.getElem?_eq_some_iff.mp e2).1])
    · have e : i = m := by omega
      subst e
      refine ⟨acc, S, ?_, hn, hP⟩
      unfold loopC
      rw [fin acc S hP hn]
/-- a comprehension whose turns change nothing that is there: the values one by one -/
theorem loopC_map {src : IS} {turn : D → Sto → R (Option D)} {S0 : Sto} {xs : List D} {f : Nat → D} {w : Nat} (hw : xs.length < w) (hl : xs.length ≤ PySem.sizeLine) (hat : ∀ i S, Grow S0 S → src.at i S = some xs[i]?)
    (ht : ∀ i x S, xs[i]? = some x → Grow S0 S → ∃ S', turn x S = .ok (some (f i)) S' ∧ Grow S S') : ∃ S', loopC src S0.length turn w 0 (S0 ++ [.lst []]) = .ok (.ref S0.length) S' ∧ Grow (S0 ++ [.lst ((List.range xs.length).map f)]) S' := by
  obtain ⟨acc, S', e, hn, hP⟩ := loopC_ok (src := src) (n := S0.length) (turn := turn) (m := xs.length) (fun i acc S => acc = (List.range i).map f ∧ Grow (S0 ++ [.lst acc]) S)
    (fun i acc S hi ⟨ha, hg⟩ hn => by
      have g0 : Grow S0 S := (Grow.snoc S0 _).trans hg
      obtain ⟨S', e1, g1⟩ := ht i xs[i] S (by simp [hi]) g0
      have hla : acc.length = i := by rw [ha]; simp
      refine ⟨xs[i], by rw [hat i S g0]; simp [hi], .inr ⟨f i, S', e1, g1.at hn, by omega, ?_, ?_⟩⟩
      · rw [ha, List.range_succ, List.map_append]; rfl
      · obtain ⟨l, rfl⟩ := hg
        obtain ⟨l2, rfl⟩ := g1
        refine ⟨l ++ l2, ?_⟩
        simp [List.set_append])
    (fun acc S ⟨_, hg⟩ _ => by rw [hat _ S ((Grow.snoc S0 _).trans hg)]; simp) w 0 [] (S0 ++ [.lst []]) (Nat.zero_le _) (by omega) ⟨rfl, Grow.refl _⟩ (by simp)
  obtain ⟨ha, hg⟩ := hP
  exact ⟨S', e, by rw [ha] at hg; exact hg⟩
end Pv
end

section
set_option autoImplicit false
set_option linter.all false
set_option maxHeartbeats 1000000
/-! Pw1: the evaluator's equations, for simp. -/
namespace Pv
open PySem (Str)
section
variable (G : Prog) (w : Nat) (call mk : Call) (σ : Sl) (S : Sto) (a b c e t r it xs : C)
@[simp] theorem bind_ok {α β : Type} (x : α) (f : α → Sto → R β) : (R.ok x S).bind f = f x S := rfl
@[simp] theorem bind_exc {α β : Type} (x : Exc) (f : α → Sto → R β) : (R.exc x S).bind f = .exc x S := rfl
@[simp] theorem bind_bad {α β : Type} (f : α → Sto → R β) : (R.bad : R α).bind f = .bad := rfl
@[simp] theorem bind0_ok {α β : Type} (x : α) (f : α → Sto → R β) : (R.ok x S).bind0 f = f x S := rfl
@[simp] theorem thn_ok {α : Type} (x : α) (f : α → Sto → F) : (R.ok x S).thn σ f = f x S := rfl
@[simp] theorem thn_exc {α : Type} (x : Exc) (f : α → Sto → F) : (R.exc x S : R α).thn σ f = .exc σ x S := rfl
@[simp] theorem nx_ok : (R.ok σ S).nx = .nx σ S := rfl
@[simp] theorem seq_nx (f : Sl → Sto → F) : (F.nx σ S).seq f = f σ S := rfl
@[simp] theorem seq_rt (d : D) (f : Sl → Sto → F) : (F.rt d S).seq f = .rt d S := rfl
@[simp] theorem seq_exc (x : Exc) (f : Sl → Sto → F) : (F.exc σ x S).seq f = .exc σ x S := rfl
@[simp] theorem seq_ct (f : Sl → Sto → F) : (F.ct σ S).seq f = .ct σ S := rfl
@[simp] theorem seq_bk (f : Sl → Sto → F) : (F.bk σ S).seq f = .bk σ S := rfl
@[simp] theorem out_rt (d : D) : (F.rt d S).out = .ok d S := rfl
@[simp] theorem out_nx : (F.nx σ S).out = .ok .non S := rfl
@[simp] theorem out_exc (x : Exc) : (F.exc σ x S).out = .exc x S := rfl
@[simp] theorem truth_ok (d : D) : (R.ok d S).truth = match truth S d with
  | some b => .ok b S
  | none => .bad := rfl
@[simp] theorem truth_exc (x : Exc) : (R.exc x S : R D).truth = .exc x S := rfl
@[simp] theorem truth_bl (b : Bool) : truth S (.bl b) = some b := rfl
@[simp] theorem truth_non : truth S .non = some false := rfl
@[simp] theorem truth_int (i : Int) : truth S (.int i) = some (i != 0) := rfl
@[simp] theorem ofOpt_some (b : Bool) : ofOpt (some b) S = .ok (.bl b) S := rfl
@[simp] theorem evE_con (d : D) : evE G w call mk (.con d) σ S = .ok d S := rfl
@[simp] theorem evE_var (i : Nat) : evE G w call mk (.var i) σ S = match σ[i]? with
    | some (some d) => .ok d S
    | _ => .bad := rfl
@[simp] theorem evE_bin (op : BOp) : evE G w call mk (.bin op a b) σ S = (evE G w call mk a σ S).bind fun x S1 => (evE G w call mk b σ S1).bind fun y S2 => binop op x y S2 := rfl
@[simp] theorem evE_neg : evE G w call mk (.neg a) σ S = (evE G w call mk a σ S).bind fun x S1 => match x with
    | .int i => .ok (.int (-i)) S1
    | _ => .bad := rfl
@[simp] theorem evE_not : evE G w call mk (.not a) σ S = (evE G w call mk a σ S).truth.bind fun b S1 => .ok (.bl (!b)) S1 := rfl
@[simp] theorem evE_and : evE G w call mk (.and a b) σ S = (evE G w call mk a σ S).bind fun x S1 => match truth S1 x with
    | some true => evE G w call mk b σ S1
    | some false => .ok x S1
    | none => .bad := rfl
@[simp] theorem evE_or : evE G w call mk (.or a b) σ S = (evE G w call mk a σ S).bind fun x S1 => match truth S1 x with
    | some false => evE G w call mk b σ S1
    | some true => .ok x S1
    | none => .bad := rfl
@[simp] theorem evE_cmp (op : COp) : evE G w call mk (.cmp op a b) σ S = (evE G w call mk a σ S).bind fun x S1 => (evE G w call mk b σ S1).bind fun y S2 => cmpop op x y S2 := rfl
@[simp] theorem evE_chain (o1 o2 : COp) : evE G w call mk (.chain o1 o2 a b c) σ S = (evE G w call mk a σ S).bind fun x S1 => (evE G w call mk b σ S1).bind fun y S2 => (cmpop o1 x y S2).bind fun z S3 => match z with
    | .bl true => (evE G w call mk c σ S3).bind fun v S4 => cmpop o2 y v S4
    | .bl false => .ok (.bl false) S3
    | _ => .bad := rfl
@[simp] theorem evE_ite : evE G w call mk (.ite c a b) σ S = (evT G w call mk c σ S).bind fun t S1 => if t = true then evE G w call mk a σ S1 else evE G w call mk b σ S1 := rfl
@[simp] theorem evE_tup : evE G w call mk (.tup xs) σ S = (evL G w call mk xs σ S).bind fun vs S1 => newTup vs S1 := rfl
@[simp] theorem evE_lst : evE G w call mk (.lst xs) σ S = (evL G w call mk xs σ S).bind fun vs S1 => newLst vs S1 := rfl
@[simp] theorem evE_dictT : evE G w call mk (.dict true .nil) σ S = alloc (.dT []) S := rfl
@[simp] theorem evE_dictK : evE G w call mk (.dict false .nil) σ S = alloc (.dK []) S := rfl
@[simp] theorem evE_dict : evE G w call mk (.dict false (.cons a r)) σ S = evD G w call mk (.cons a r) S.length [] σ (S ++ [.dK []]) := rfl
@[simp] theorem evE_sub : evE G w call mk (.sub a b) σ S = (evE G w call mk a σ S).bind fun x S1 => (evE G w call mk b σ S1).bind fun y S2 => subscr x y S2 := rfl
@[simp] theorem evE_slice : evE G w call mk (.slice a b c) σ S = (evE G w call mk a σ S).bind fun x S1 => (evO G w call mk b σ S1).bind fun l S2 => (evO G w call mk c σ S2).bind fun h S3 => sliced x l h S3 := rfl
@[simp] theorem evE_rev : evE G w call mk (.rev a) σ S = (evE G w call mk a σ S).bind fun x S1 => reversed x S1 := rfl
@[simp] theorem evE_attr (f : Nat) : evE G w call mk (.attr a f) σ S = (evE G w call mk a σ S).bind fun x S1 => getattr G x f S1 := rfl
@[simp] theorem evE_call (f : Nat) : evE G w call mk (.call f xs) σ S = (evL G w call mk xs σ S).bind fun vs S1 => call f vs S1 := rfl
@[simp] theorem evE_make (k : Nat) : evE G w call mk (.make k xs) σ S = (evL G w call mk xs σ S).bind fun vs S1 => match G.init k with
    | some f => (mk f (.ref S1.length :: vs) (S1 ++ [.ins k []])).bind fun r S2 => match r with
      | .non => .ok (.ref S1.length) S2
      | _ => .bad
    | none => .bad := rfl
@[simp] theorem evE_meth (m : Nat) : evE G w call mk (.meth a m xs) σ S = (evE G w call mk a σ S).bind fun x S1 => match x with
    | .ref n => match S1[n]? with
      | some (.ins c fs) => match G.meth c m, lookA m fs with
        | some f, none => (evL G w call mk xs σ S1).bind fun vs S2 => call f (.ref n :: vs) S2
        | _, _ => .bad
      | _ => .bad
    | _ => .bad := rfl
@[simp] theorem evE_methS (m i : Nat) : evE G w call mk (.methS a m i) σ S = (evE G w call mk a σ S).bind fun x S1 => match x with
    | .ref n => match S1[n]? with
      | some (.ins c fs) => match G.meth c m, lookA m fs with
        | some f, none => match σ[i]? with
          | some (some (.tup ds)) => call f (.ref n :: ds) S1
          | _ => .bad
        | _, _ => .bad
      | _ => .bad
    | _ => .bad := rfl
@[simp] theorem evE_bi (f : BI) : evE G w call mk (.bi f xs) σ S = (evL G w call mk xs σ S).bind fun vs S1 => builtin f vs S1 := rfl
@[simp] theorem evE_bm (m : BM) : evE G w call mk (.bm a m xs) σ S = (evE G w call mk a σ S).bind fun x S1 => if bmRecv m x S1 = true then (evL G w call mk xs σ S1).bind fun vs S2 => bmethod m x vs S2 else .bad := rfl
@[simp] theorem evE_isi (ty : Ty) : evE G w call mk (.isi a ty) σ S = (evE G w call mk a σ S).bind fun x S1 => ofOpt (tyIs S1 x ty) S1 := rfl
@[simp] theorem evE_isx (i cj : Nat) (u : Bool) : evE G w call mk (.isx i cj u) σ S = match σ[i]? with
    | some none => .ok (.bl u) S
    | _ => .bad := rfl
/-- a comprehension's turn -/
def turnE (elt t cond : C) (vs : List Nat) (σ : Sl) : D → Sto → R (Option D) := fun d S2 => match evG G w call mk t d (wipeD σ vs) S2 with
        | .ok σ2 S3 => match evK G w call mk cond σ2 S3 with
          | .ok true S4 => match evE G w call mk elt σ2 S4 with
            | .ok y S5 => .ok (some y) S5
            | _ => .bad
          | .ok false S4 => .ok none S4
          | _ => .bad
        | _ => .bad
@[simp] theorem evE_comp (vs : List Nat) : evE G w call mk (.comp e t it c vs) σ S = (evI G w call mk it σ S).bind fun src S1 => loopC src S1.length (turnE G w call mk e t c vs σ) w 0 (S1 ++ [.lst []]) := rfl
@[simp] theorem evK_nil : evK G w call mk .nil σ S = .ok true S := rfl
@[simp] theorem evK_cons : evK G w call mk (.cons c r) σ S = evT G w call mk c σ S := rfl
@[simp] theorem evO_nil : evO G w call mk .nil σ S = .ok none S := rfl
@[simp] theorem evO_cons : evO G w call mk (.cons e r) σ S = (evE G w call mk e σ S).bind fun x S1 => match x with
    | .int i => .ok (some i) S1
    | _ => .bad := rfl
@[simp] theorem evT_not : evT G w call mk (.not a) σ S = (evT G w call mk a σ S).bind fun b S1 => .ok (!b) S1 := rfl
@[simp] theorem evT_and : evT G w call mk (.and a b) σ S = (evT G w call mk a σ S).bind fun x S1 => if x = true then evT G w call mk b σ S1 else .ok false S1 := rfl
@[simp] theorem evT_or : evT G w call mk (.or a b) σ S = (evT G w call mk a σ S).bind fun x S1 => if x = true then .ok true S1 else evT G w call mk b σ S1 := rfl
@[simp] theorem evT_cmp (op : COp) : evT G w call mk (.cmp op a b) σ S = (evE G w call mk (.cmp op a b) σ S).truth := rfl
@[simp] theorem evT_chain (o1 o2 : COp) : evT G w call mk (.chain o1 o2 a b c) σ S = (evE G w call mk (.chain o1 o2 a b c) σ S).truth := rfl
@[simp] theorem evT_con (d : D) : evT G w call mk (.con d) σ S = (R.ok d S).truth := rfl
@[simp] theorem evT_var (i : Nat) : evT G w call mk (.var i) σ S = (evE G w call mk (.var i) σ S).truth := rfl
@[simp] theorem evT_attr (f : Nat) : evT G w call mk (.attr a f) σ S = (evE G w call mk (.attr a f) σ S).truth := rfl
@[simp] theorem evT_sub : evT G w call mk (.sub a b) σ S = (evE G w call mk (.sub a b) σ S).truth := rfl
@[simp] theorem evT_call (f : Nat) : evT G w call mk (.call f xs) σ S = (evE G w call mk (.call f xs) σ S).truth := rfl
@[simp] theorem evT_meth (m : Nat) : evT G w call mk (.meth a m xs) σ S = (evE G w call mk (.meth a m xs) σ S).truth := rfl
@[simp] theorem evT_bi (f : BI) : evT G w call mk (.bi f xs) σ S = (evE G w call mk (.bi f xs) σ S).truth := rfl
@[simp] theorem evT_isi (ty : Ty) : evT G w call mk (.isi a ty) σ S = (evE G w call mk (.isi a ty) σ S).truth := rfl
@[simp] theorem evL_nil : evL G w call mk .nil σ S = .ok [] S := rfl
@[simp] theorem evL_cons : evL G w call mk (.cons a r) σ S = (evE G w call mk a σ S).bind fun x S1 => (evL G w call mk r σ S1).bind fun xs S2 => .ok (x :: xs) S2 := rfl
@[simp] theorem evL_star : evL G w call mk (.star a r) σ S = (evE G w call mk a σ S).bind fun x S1 => match asSeq S1 x with
    | some ys => (evL G w call mk r σ S1).bind fun xs S2 => .ok (ys ++ xs) S2
    | none => .bad := rfl
@[simp] theorem evD_nil (n : Nat) (acc : List (L2.Key × D)) : evD G w call mk .nil n acc σ S = match S[n]? with
    | some (.dK []) => if acc.length ≤ 15 then .ok (.ref n) (S.set n (.dK (acc.foldl (fun a p => putA p.1 p.2 a) []))) else .bad
    | _ => .bad := rfl
@[simp] theorem evD_cons (n : Nat) (acc : List (L2.Key × D)) : evD G w call mk (.cons a (.cons b r)) n acc σ S = (evE G w call mk a σ S).bind fun x S1 => (evE G w call mk b σ S1).bind fun y S2 => match keyOf x with
    | some key => evD G w call mk r n (acc ++ [(key, y)]) σ S2
    | none => .bad := rfl
@[simp] theorem evI_range : evI G w call mk (.range xs) σ S = (evL G w call mk xs σ S).bind fun vs S1 => rangeOf vs S1 := rfl
@[simp] theorem evI_enum : evI G w call mk (.enum a) σ S = (evE G w call mk a σ S).bind fun d S1 => enumOf d S1 := rfl
@[simp] theorem evI_revd : evI G w call mk (.revd a) σ S = (evE G w call mk a σ S).bind fun d S1 => revdOf d S1 := rfl
@[simp] theorem evI_walk : evI G w call mk (.walk a) σ S = (evE G w call mk a σ S).bind fun d S1 => walkOf d S1 := rfl
@[simp] theorem evG_var (i : Nat) (d : D) : evG G w call mk (.var i) d σ S = .ok (σ.set i (some d)) S := rfl
@[simp] theorem evG_sub (d : D) : evG G w call mk (.sub a b) d σ S = (evE G w call mk a σ S).bind0 fun x S1 => (evE G w call mk b σ S1).bind0 fun y S2 => stored σ (setitem x y d S2) := rfl
@[simp] theorem evG_attr (f : Nat) (d : D) : evG G w call mk (.attr a f) d σ S = (evE G w call mk a σ S).bind0 fun x S1 => stored σ (setattr G x f d S1) := rfl
@[simp] theorem evG_tup (d : D) : evG G w call mk (.tup xs) d σ S = match asSeq S d with
    | some ds => evGs G w call mk xs ds σ S
    | none => .bad := rfl
@[simp] theorem evGs_nil : evGs G w call mk .nil [] σ S = .ok σ S := rfl
@[simp] theorem evGs_cons (d : D) (ds : List D) : evGs G w call mk (.cons t r) (d :: ds) σ S = (evG G w call mk t d σ S).bind0 fun σ1 S1 => evGs G w call mk r ds σ1 S1 := rfl
@[simp] theorem stored_some : stored σ (some S) = .ok σ S := rfl
@[simp] theorem evS_asg : evS G w call mk (.asg t e) σ S = (evE G w call mk e σ S).thn σ fun d S1 => (evG G w call mk t d σ S1).nx := rfl
@[simp] theorem evS_par (i j : Nat) : evS G w call mk (.par i j a b) σ S = (evE G w call mk a σ S).thn σ fun x S1 => (evE G w call mk b σ S1).thn σ fun y S2 => .nx ((σ.set i (some x)).set j (some y)) S2 := rfl
@[simp] theorem evS_aug (i : Nat) (op : BOp) : evS G w call mk (.aug i op e) σ S = match σ[i]? with
    | some (some (.int x)) => (evE G w call mk e σ S).thn σ fun y S1 => augF op x y i σ S1
    | _ => .bad := rfl
@[simp] theorem evS_ret : evS G w call mk (.ret e) σ S = (evE G w call mk e σ S).thn σ fun d S1 => .rt d S1 := rfl
@[simp] theorem evS_ex : evS G w call mk (.ex e) σ S = (evE G w call mk e σ S).thn σ fun _ S1 => .nx σ S1 := rfl
@[simp] theorem evS_iff : evS G w call mk (.iff c a b) σ S = (evT G w call mk c σ S).thn σ fun t S1 => if t = true then evB G w call mk a σ S1 else evB G w call mk b σ S1 := rfl
@[simp] theorem evS_whl : evS G w call mk (.whl c b) σ S = loopW (evT G w call mk c) (evB G w call mk b) w σ S := rfl
/-- a for loop's turn -/
def turnF (t b : C) : D → Sl → Sto → F := fun d σ1 S2 => (evG G w call mk t d σ1 S2).nx.seq fun σ2 S3 => evB G w call mk b σ2 S3
@[simp] theorem evS_forr : evS G w call mk (.forr t it b) σ S = (evI G w call mk it σ S).thn σ fun src S1 => loopF src (turnF G w call mk t b) w 0 σ S1 := rfl
@[simp] theorem evS_pass : evS G w call mk .pass σ S = .nx σ S := rfl
@[simp] theorem evS_brk : evS G w call mk .brk σ S = .bk σ S := rfl
@[simp] theorem evS_cont : evS G w call mk .cont σ S = .ct σ S := rfl
@[simp] theorem evB_nil : evB G w call mk .nil σ S = .nx σ S := rfl
@[simp] theorem evB_cons : evB G w call mk (.cons a r) σ S = (evS G w call mk a σ S).seq fun σ1 S1 => evB G w call mk r σ1 S1 := rfl
/-- a call opened -/
theorem evC_open {G : Prog} {w d f : Nat} {fn : Fn} {ds : List D} {S : Sto} (e : G.fn f = some fn) (h : ds.length = fn.params) : evC G w (d + 1) f ds S = (evB G w (evC G w d) (evP G w d).2 fn.body (startD fn.slots ds) S).out := by
  show (match G.fn f with
    | some fn => if ds.length = fn.params then (evB G w (evP G w d).1 (evP G w d).2 fn.body (startD fn.slots ds) S).out else .bad
    | none => .bad) = _
  rw [e]
  simp only [if_pos h]
  rfl
end
end Pv
end

section
set_option autoImplicit false
set_option linter.all false
set_option maxHeartbeats 4000000
/-! Pv1: how the evaluator's values and store lie in the abstract heap of the hand layer. -/
namespace Pv
open PySem L2
/-- where classes lie, what attributes are called -/
structure Tb where
  K : PySem.W.Frag
  cls : Nat → Addr
  att : Nat → Str
  /-- the slot of a caught exception's name, and where the exception lies -/
  hold : List (Nat × Addr) := []

/-- a tuple of the module's top -/
def KTup (K : PySem.W.Frag) (a : Addr) (xs : List V) : Prop :=
  ∃ (o : Obj) (its : Array Value) (n : Nat), K.lookup a = some o ∧ o.cls = .type "tuple" ∧ o.data = .seq its n ∧ its.size ≤ sizeLine ∧ Vals xs its.toList
/-- a list of the module's top -/
def KLst (K : PySem.W.Frag) (a : Addr) (xs : List V) : Prop :=
  ∃ (o : Obj) (its : Array Value) (n : Nat), K.lookup a = some o ∧ o.cls = .type "list" ∧ o.dict = none ∧ o.data = .seq its n ∧ its.size ≤ sizeLine ∧ Vals xs its.toList

section
variable (T : Tb)
mutual
def Den (μ : List Addr) (H : Hp) : D → V → Prop
  | .non, v => v = .non
  | .bl b, v => v = .bl b
  | .int i, v => v = .int i
  | .str x, v => v = .str x
  | .tup ds, v => ∃ a xs, v = .ref a ∧ H a = some (.tup xs) ∧ DenL μ H ds xs
  | .ktup ds, v => ∃ a xs, v = .ref a ∧ KTup T.K a xs ∧ DenL μ H ds xs
  | .ref n, v => ∃ a, v = .ref a ∧ μ[n]? = some a
  | .klst ds, v => ∃ a xs, v = .ref a ∧ KLst T.K a xs ∧ DenL μ H ds xs
def DenL (μ : List Addr) (H : Hp) : List D → List V → Prop
  | [], vs => vs = []
  | d :: ds, vs => ∃ v r, vs = v :: r ∧ Den μ H d v ∧ DenL μ H ds r
end
/-- entries of a dict -/
def KD {κ : Type} (μ : List Addr) (H : Hp) : List (κ × D) → List (κ × V) → Prop
  | [], vs => vs = []
  | p :: r, vs => ∃ v q, vs = (p.1, v) :: q ∧ Den T μ H p.2 v ∧ KD μ H r q
/-- attributes -/
def FD (μ : List Addr) (H : Hp) : List (Nat × D) → List (Str × V) → Prop
  | [], vs => vs = []
  | p :: r, vs => ∃ v q, vs = (T.att p.1, v) :: q ∧ Den T μ H p.2 v ∧ FD μ H r q
def ObR (μ : List Addr) (H : Hp) (a : Addr) : Ob → Prop
  | .lst ds => ∃ xs, H a = some (.lst xs) ∧ DenL T μ H ds xs
  | .clst ds => ∃ xs, Rd H a (.lst xs) ∧ DenL T μ H ds xs
  | .dK kvs => ∃ vs, H a = some (.dK vs) ∧ KD T μ H kvs vs
  | .dT kvs => ∃ vs, H a = some (.dT vs) ∧ KD T μ H kvs vs
  | .ins c fs => ∃ dx vs, H a = some (.ins (T.cls c) dx vs) ∧ FD T μ H fs vs
  | .dead => True
end
/-- a later heap: more objects, tuples as they were -/
structure Gd (μ : List Addr) (H : Hp) (μ' : List Addr) (H' : Hp) : Prop where
  pre : ∃ l, μ' = μ ++ l
  tup : ∀ a xs, H a = some (.tup xs) → H' a = some (.tup xs)
theorem Gd.refl (μ : List Addr) (H : Hp) : Gd μ H μ H := ⟨⟨[], (List.append_nil μ).symm⟩, fun _ _ e => e⟩
theorem Gd.trans {μ μ1 μ2 : List Addr} {H H1 H2 : Hp} (a : Gd μ H μ1 H1) (b : Gd μ1 H1 μ2 H2) : Gd μ H μ2 H2 := by
  obtain ⟨l, rfl⟩ := a.pre
  obtain ⟨m, rfl⟩ := b.pre
  exact ⟨⟨l ++ m, by rw [List.append_assoc]⟩, fun c xs e => b.tup c xs (a.tup c xs e)⟩
theorem Gd.at {μ μ' : List Addr} {H H' : Hp} (g : Gd μ H μ' H') {n : Nat} {a : Addr} (e : μ[n]? = some a) : μ'[n]? = some a := by
  obtain ⟨l, rfl⟩ := g.pre
  rw [List.getElem?_append_left (List.getElem?_eq_some_iff.mp e).1]
  exact e
section
variable {T : Tb} {μ μ' : List Addr} {H H' : Hp}
mutual
theorem Den.mono (g : Gd μ H μ' H') : ∀ (d : D) {v : V}, Den T μ H d v → Den T μ' H' d v
  | .non, _, h => h
  | .bl _, _, h => h
  | .int _, _, h => h
  | .str _, _, h => h
  | .tup ds, _, ⟨a, xs, e, ea, h⟩ => ⟨a, xs, e, g.tup _ _ ea, DenL.mono g ds h⟩
  | .ktup ds, _, ⟨a, xs, e, ea, h⟩ => ⟨a, xs, e, ea, DenL.mono g ds h⟩
  | .klst ds, _, ⟨a, xs, e, ea, h⟩ => ⟨a, xs, e, ea, DenL.mono g ds h⟩
  | .ref _, _, ⟨a, e, ea⟩ => ⟨a, e, g.at ea⟩
theorem DenL.mono (g : Gd μ H μ' H') : ∀ (ds : List D) {vs : List V}, DenL T μ H ds vs → DenL T μ' H' ds vs
  | [], _, h => h
  | d :: ds, _, ⟨v, r, e, h, t⟩ => ⟨v, r, e, Den.mono g d h, DenL.mono g ds t⟩
end
theorem KD.mono {κ : Type} (g : Gd μ H μ' H') : ∀ {l : List (κ × D)} {vs : List (κ × V)}, KD T μ H l vs → KD T μ' H' l vs
  | [], _, h => h
  | _ :: _, _, ⟨v, q, e, h, t⟩ => ⟨v, q, e, Den.mono g _ h, KD.mono g t⟩
theorem FD.mono (g : Gd μ H μ' H') : ∀ {l : List (Nat × D)} {vs : List (Str × V)}, FD T μ H l vs → FD T μ' H' l vs
  | [], _, h => h
  | _ :: _, _, ⟨v, q, e, h, t⟩ => ⟨v, q, e, Den.mono g _ h, FD.mono g t⟩
/-- an object that stays where it is -/
theorem ObR.stay (g : Gd μ H μ' H') {a : Addr} (e : H' a = H a) : ∀ {o : Ob}, ObR T μ H a o → ObR T μ' H' a o
  | .lst ds, ⟨xs, ea, h⟩ => ⟨xs, e.trans ea, h.mono g⟩
  | .clst ds, ⟨xs, ea, h⟩ => ⟨xs, by unfold Rd; rw [e]; exact ea, h.mono g⟩
  | .dK kvs, ⟨xs, ea, h⟩ => ⟨xs, e.trans ea, h.mono g⟩
  | .dT kvs, ⟨xs, ea, h⟩ => ⟨xs, e.trans ea, h.mono g⟩
  | .ins c fs, ⟨dx, xs, ea, h⟩ => ⟨dx, xs, e.trans ea, h.mono g⟩
  | .dead, _ => trivial
theorem DenL.length : ∀ {ds : List D} {vs : List V}, DenL T μ H ds vs → vs.length = ds.length
  | [], _, h => by have e : _ = [] := h; rw [e]; rfl
  | _ :: ds, _, ⟨v, r, e, _, t⟩ => by rw [e, List.length_cons, List.length_cons, DenL.length t]
theorem DenL.get : ∀ {ds : List D} {vs : List V} {i : Nat} {d : D}, DenL T μ H ds vs → ds[i]? = some d → ∃ v, vs[i]? = some v ∧ Den T μ H d v
  | [], _, _, _, _, e => by simp at e
  | _ :: _, _, 0, _, ⟨v, r, ev, h, _⟩, e => by
    subst ev
    have : _ = _ := Option.some.inj e
    subst this
    exact ⟨v, rfl, h⟩
  | _ :: ds, _, i + 1, d, ⟨v, r, ev, _, t⟩, e => by
    subst ev
    obtain ⟨u, a, b⟩ := DenL.get (i := i) (d := d) t (by simpa using e)
    exact ⟨u, by simpa using a, b⟩
theorem DenL.getN {ds : List D} {vs : List V} {i : Nat} (h : DenL T μ H ds vs) (e : ds[i]? = none) : vs[i]? = none := by
  rw [List.getElem?_eq_none_iff] at e ⊢
  rw [h.length]; exact e
theorem DenL.append : ∀ {ds es : List D} {vs us : List V}, DenL T μ H ds vs → DenL T μ H es us → DenL T μ H (ds ++ es) (vs ++ us)
  | [], _, _, _, h, k => by have e : _ = [] := h; rw [e]; exact k
  | _ :: _, _, _, _, ⟨v, r, e, h, t⟩, k => by subst e; exact ⟨v, _, rfl, h, DenL.append t k⟩
theorem DenL.take : ∀ {ds : List D} {vs : List V} (n : Nat), DenL T μ H ds vs → DenL T μ H (ds.take n) (vs.take n)
  | _, _, 0, _ => rfl
  | [], _, _ + 1, h => by have e : _ = [] := h; rw [e]; exact rfl
  | _ :: _, _, n + 1, ⟨v, r, e, h, t⟩ => by subst e; exact ⟨v, _, rfl, h, DenL.take n t⟩
theorem DenL.drop : ∀ {ds : List D} {vs : List V} (n : Nat), DenL T μ H ds vs → DenL T μ H (ds.drop n) (vs.drop n)
  | _, _, 0, h => h
  | [], _, _ + 1, h => by have e : _ = [] := h; rw [e]; exact rfl
  | _ :: _, _, n + 1, ⟨v, r, e, h, t⟩ => by subst e; exact DenL.drop n t
theorem DenL.set : ∀ {ds : List D} {vs : List V} (n : Nat) {d : D} {v : V}, DenL T μ H ds vs → Den T μ H d v → DenL T μ H (ds.set n d) (vs.set n v)
  | [], _, _, _, _, h, _ => by have e : _ = [] := h; rw [e]; exact rfl
  | _ :: _, _, 0, _, _, ⟨v, r, e, h, t⟩, k => by subst e; exact ⟨_, _, rfl, k, t⟩
  | _ :: _, _, n + 1, _, _, ⟨v, r, e, h, t⟩, k => by subst e; exact ⟨_, _, rfl, h, DenL.set n t k⟩
theorem DenL.snoc {ds : List D} {vs : List V} {d : D} {v : V} (h : DenL T μ H ds vs) (k : Den T μ H d v) : DenL T μ H (ds ++ [d]) (vs ++ [v]) := h.append ⟨v, [], rfl, k, rfl⟩
theorem DenL.reverse : ∀ {ds : List D} {vs : List V}, DenL T μ H ds vs → DenL T μ H ds.reverse vs.reverse
  | [], _, h => by have e : _ = [] := h; rw [e]; exact rfl
  | _ :: _, _, ⟨v, r, e, h, t⟩ => by
    subst e
    rw [List.reverse_cons, List.reverse_cons]
    exact (DenL.reverse t).snoc h
theorem DenL.dropLast : ∀ {ds : List D} {vs : List V}, DenL T μ H ds vs → DenL T μ H ds.dropLast vs.dropLast := fun {ds vs} h => by
  rw [List.dropLast_eq_take, List.dropLast_eq_take, h.length]
  exact h.take _
theorem DenL.flat : ∀ {ds : List D} {vs : List V} (k : Nat), DenL T μ H ds vs → DenL T μ H (List.replicate k ds).flatten (List.replicate k vs).flatten
  | _, _, 0, _ => rfl
  | ds, vs, k + 1, h => by
    rw [List.replicate_succ, List.replicate_succ, List.flatten_cons, List.flatten_cons]
    exact h.append (DenL.flat k h)
theorem DenL.cut {ds : List D} {vs : List V} (lo hi : Option Int) (h : DenL T μ H ds vs) : DenL T μ H (cutD ds lo hi) (cutV vs lo hi) := by
  unfold cutD cutV
  rw [h.length]
  exact (h.drop _).take _
theorem DenL.ints : ∀ (ns : List Int), DenL T μ H (ns.map D.int) (ns.map V.int)
  | [] => rfl
  | n :: ns => ⟨_, _, rfl, rfl, DenL.ints ns⟩
theorem DenL.ofInts : ∀ {ds : List D} {vs : List V} {ns : List Int}, DenL T μ H ds vs → intsOf ds = some ns → vs = ns.map V.int
  | [], _, ns, h, e => by
    have e1 : _ = [] := h
    have e2 : [] = ns := Option.some.inj e
    rw [e1, ← e2]; rfl
  | .int i :: r, _, ns, ⟨v, q, ev, hv, t⟩, e => by
    subst ev
    have hv' : v = .int i := hv
    subst hv'
    unfold intsOf at e
    cases h : intsOf r with
    | none => rw [h] at e; cases e
    | some l =>
      rw [h] at e
      have : i :: l = ns := Option.some.inj e
      rw [← this, DenL.ofInts t h]; rfl
  | .non :: _, _, _, _, e => by simp [intsOf] at e
  | .bl _ :: _, _, _, _, e => by simp [intsOf] at e
  | .str _ :: _, _, _, _, e => by simp [intsOf] at e
  | .tup _ :: _, _, _, _, e => by simp [intsOf] at e
  | .ktup _ :: _, _, _, _, e => by simp [intsOf] at e
  | .ref _ :: _, _, _, _, e => by simp [intsOf] at e
  | .klst _ :: _, _, _, _, e => by simp [intsOf] at e
theorem DenL.ofBools : ∀ {ds : List D} {vs : List V} {ns : List Bool}, DenL T μ H ds vs → boolsOf ds = some ns → vs = ns.map V.bl
  | [], _, ns, h, e => by
    have e1 : _ = [] := h
    have e2 : [] = ns := Option.some.inj e
    rw [e1, ← e2]; rfl
  | .bl i :: r, _, ns, ⟨v, q, ev, hv, t⟩, e => by
    subst ev
    have hv' : v = .bl i := hv
    subst hv'
    unfold boolsOf at e
    cases h : boolsOf r with
    | none => rw [h] at e; cases e
    | some l =>
      rw [h] at e
      have : i :: l = ns := Option.some.inj e
      rw [← this, DenL.ofBools t h]; rfl
  | .non :: _, _, _, _, e => by simp [boolsOf] at e
  | .int _ :: _, _, _, _, e => by simp [boolsOf] at e
  | .str _ :: _, _, _, _, e => by simp [boolsOf] at e
  | .tup _ :: _, _, _, _, e => by simp [boolsOf] at e
  | .ktup _ :: _, _, _, _, e => by simp [boolsOf] at e
  | .ref _ :: _, _, _, _, e => by simp [boolsOf] at e
  | .klst _ :: _, _, _, _, e => by simp [boolsOf] at e
/-! keys -/
theorem keyOf_den {d : D} {k : Key} {v : V} (h : Den T μ H d v) (e : keyOf d = some k) : v = kV k := by
  cases d with
  | int i => have : Sum.inl i = k := Option.some.inj e; rw [← this]; exact h
  | str x => have : Sum.inr x = k := Option.some.inj e; rw [← this]; exact h
  | non => cases e
  | bl b => cases e
  | tup xs => cases e
  | ktup xs => cases e
  | ref n => cases e
  | klst xs => cases e
theorem ofKey_den (k : Key) : Den T μ H (ofKey k) (kV k) := by
  cases k <;> exact rfl
theorem keysOf_den : ∀ {ds : List D} {ks : List Key} {vs : List V}, DenL T μ H ds vs → keysOf ds = some ks → vs = ks.map kV
  | [], ks, _, h, e => by
    have e1 : _ = [] := h
    have e2 : [] = ks := Option.some.inj e
    rw [e1, ← e2]; rfl
  | d :: ds, ks, _, ⟨v, r, ev, h, t⟩, e => by
    subst ev
    unfold keysOf at e
    cases h1 : keyOf d with
    | none => rw [h1] at e; simp at e
    | some k =>
      cases h2 : keysOf ds with
      | none => rw [h1, h2] at e; simp at e
      | some l =>
        rw [h1, h2] at e
        have : k :: l = ks := by simpa using e
        rw [← this, keysOf_den t h2, keyOf_den h h1]; rfl
theorem tkeyOf_den {d : D} {ks : List Key} {v : V} (h : Den T μ H d v) (e : tkeyOf d = some ks) : ∃ b, v = .ref b ∧ H b = some (.tup (ks.map kV)) := by
  cases d with
  | tup xs =>
    obtain ⟨a, vs, ev, ea, hd⟩ := h
    refine ⟨a, ev, ?_⟩
    rw [ea, keysOf_den hd e]
  | int i => cases e
  | str x => cases e
  | non => cases e
  | bl b => cases e
  | ktup xs => cases e
  | ref n => cases e
  | klst xs => cases e
theorem KD.look {κ : Type} [DecidableEq κ] {k : κ} : ∀ {l : List (κ × D)} {vs : List (κ × V)}, KD T μ H l vs → (lookA k l = none ∧ valV vs k = none) ∨ ∃ d v, lookA k l = some d ∧ valV vs k = some v ∧ Den T μ H d v
  | [], _, h => by have e : _ = [] := h; rw [e]; exact .inl ⟨rfl, rfl⟩
  | p :: r, _, ⟨v, q, e, h, t⟩ => by
    subst e
    by_cases hk : p.1 = k
    · refine .inr ⟨p.2, v, ?_, ?_, h⟩
      · unfold lookA; rw [if_pos hk]
      · exact valV_pos hk
    · rw [show lookA k (p :: r) = lookA k r by unfold lookA; rw [if_neg hk]; cases r <;> rfl, valV_neg (p := (p.1, v)) hk]
      exact KD.look t
theorem KD.length {κ : Type} : ∀ {l : List (κ × D)} {vs : List (κ × V)}, KD T μ H l vs → vs.length = l.length
  | [], _, h => by have e : _ = [] := h; rw [e]; rfl
  | _ :: _, _, ⟨v, q, e, _, t⟩ => by rw [e, List.length_cons, List.length_cons, KD.length t]
theorem KD.has {κ : Type} [DecidableEq κ] {k : κ} : ∀ {l : List (κ × D)} {vs : List (κ × V)}, KD T μ H l vs → (vs.any fun kv => decide (kv.1 = k)) = hasA k l
  | [], _, h => by have e : _ = [] := h; rw [e]; rfl
  | p :: r, _, ⟨v, q, e, _, t⟩ => by
    subst e
    rw [List.any_cons]
    unfold hasA
    by_cases hk : p.1 = k
    · rw [if_pos hk]; simp [hk]
    · rw [if_neg hk, KD.has t]; simp [hk]
theorem KD.snoc {κ : Type} {k : κ} {d : D} {v : V} (hd : Den T μ H d v) : ∀ {l : List (κ × D)} {vs : List (κ × V)}, KD T μ H l vs → KD T μ H (l ++ [(k, d)]) (vs ++ [(k, v)])
  | [], _, h => by have e : _ = [] := h; rw [e]; exact ⟨v, [], rfl, hd, rfl⟩
  | _ :: _, _, ⟨v, q, e, h, t⟩ => by subst e; exact ⟨v, _, rfl, h, KD.snoc hd t⟩
theorem KD.rep {κ : Type} [DecidableEq κ] {k : κ} {d : D} {v : V} (hd : Den T μ H d v) : ∀ {l : List (κ × D)} {vs : List (κ × V)}, KD T μ H l vs → KD T μ H (repA k d l) (vs.map fun kv => if kv.1 = k then (kv.1, v) else kv)
  | [], _, h => by have e : _ = [] := h; rw [e]; exact rfl
  | p :: r, _, ⟨u, q, e, h, t⟩ => by
    subst e
    unfold repA
    rw [List.map_cons]
    by_cases hk : p.1 = k
    · rw [if_pos hk, if_pos hk]; exact ⟨v, _, rfl, hd, KD.rep hd t⟩
    · rw [if_neg hk, if_neg hk]; exact ⟨u, _, rfl, h, KD.rep hd t⟩
theorem KD.put {κ : Type} [DecidableEq κ] {k : κ} {d : D} {v : V} (hd : Den T μ H d v) {l : List (κ × D)} {vs : List (κ × V)} (h : KD T μ H l vs) : KD T μ H (putA k d l) (putK vs k v) := by
  unfold putA putK
  rw [h.has]
  by_cases c : hasA k l = true
  · rw [if_pos c, if_pos c]; exact h.rep hd
  · rw [if_neg c, if_neg c]; exact h.snoc hd
/-! attributes -/
theorem FD.look {f : Nat} (inj : ∀ i j, T.att i = T.att j → i = j) : ∀ {l : List (Nat × D)} {vs : List (Str × V)}, FD T μ H l vs → (lookA f l = none ∧ vs.lookup (T.att f) = none) ∨ ∃ d v, lookA f l = some d ∧ vs.lookup (T.att f) = some v ∧ Den T μ H d v
  | [], _, h => by have e : _ = [] := h; rw [e]; exact .inl ⟨rfl, rfl⟩
  | p :: r, _, ⟨v, q, e, h, t⟩ => by
    subst e
    by_cases hk : p.1 = f
    · refine .inr ⟨p.2, v, ?_, ?_, h⟩
      · unfold lookA; rw [if_pos hk]
      · simp [List.lookup, hk]
    · have hk' : (T.att f == T.att p.1) = false := by
        rw [beq_eq_false_iff_ne]
        exact fun e => hk (inj _ _ e).symm
      rw [show lookA f (p :: r) = lookA f r by unfold lookA; rw [if_neg hk]; cases r <;> rfl, List.lookup_cons, hk']
      exact FD.look inj t
theorem FD.length : ∀ {l : List (Nat × D)} {vs : List (Str × V)}, FD T μ H l vs → vs.length = l.length
  | [], _, h => by have e : _ = [] := h; rw [e]; rfl
  | _ :: _, _, ⟨v, q, e, _, t⟩ => by rw [e, List.length_cons, List.length_cons, FD.length t]
end
end Pv
end

section
set_option autoImplicit false
set_option linter.all false
set_option maxHeartbeats 4000000
/-! Pv2: the store lies in the heap; what an evaluation's end is worth; steps of the heap. -/
namespace Pv
open PySem L2
section
variable {T : Tb} {μ μ' : List Addr} {H H' : Hp}
theorem FD.put {f : Nat} {d : D} {v : V} (inj : ∀ i j, T.att i = T.att j → i = j) (hd : Den T μ H d v) : ∀ {l : List (Nat × D)} {vs : List (Str × V)}, FD T μ H l vs → FD T μ H (putN f d l) (putF (T.att f) v vs)
  | [], _, h => by have e : _ = [] := h; rw [e]; exact ⟨v, [], rfl, hd, rfl⟩
  | p :: r, _, ⟨u, q, e, h, t⟩ => by
    subst e
    unfold putN putF
    by_cases hk : p.1 = f
    · rw [if_pos hk, if_pos (by rw [hk])]; exact ⟨v, _, rfl, hd, t⟩
    · rw [if_neg hk, if_neg (fun e => hk (inj _ _ e))]; exact ⟨u, _, rfl, h, FD.put inj hd t⟩
/-- the store lies in the heap -/
structure Sim (T : Tb) (μ : List Addr) (S : Sto) (H : Hp) : Prop where
  len : μ.length = S.length
  nd : μ.Nodup
  trk : ∀ a ∈ μ, H a ≠ none
  ob : ∀ (n : Nat) (o : Ob) (a : Addr), S[n]? = some o → μ[n]? = some a → ObR T μ H a o
theorem Sim.at {S : Sto} (s : Sim T μ S H) {n : Nat} {o : Ob} (e : S[n]? = some o) : ∃ a, μ[n]? = some a ∧ ObR T μ H a o := by
  have h : n < μ.length := by rw [s.len]; exact (List.getElem?_eq_some_iff.mp e).1
  exact ⟨μ[n], List.getElem?_eq_getElem h, s.ob n o _ e (List.getElem?_eq_getElem h)⟩
theorem Sim.fresh {S : Sto} (s : Sim T μ S H) {p : Addr} (h : H p = none) : p ∉ μ := fun m => s.trk p m h
/-- no tuple -/
def NoTup (H : Hp) (a : Addr) : Prop := ∀ xs, H a ≠ some (.tup xs)
theorem Gd.upd {a : Addr} {o : HO} (h : NoTup H a) : Gd μ H μ (L2.upd H a o) := ⟨⟨[], (List.append_nil _).symm⟩, fun b xs e => by
  rw [upd_ne (fun z => by subst z; exact h xs e)]
  exact e⟩
/-- an object is changed -/
theorem Sim.upd {S : Sto} (s : Sim T μ S H) {n : Nat} {a : Addr} {o : HO} {ob : Ob} (ea : μ[n]? = some a) (nt : NoTup H a) (r : ObR T μ (L2.upd H a o) a ob) : Sim T μ (S.set n ob) (L2.upd H a o) where
  len := by rw [List.length_set]; exact s.len
  nd := s.nd
  trk := fun b m => by
    by_cases hb : b = a
    · subst hb; rw [upd_same]; exact fun e => nomatch e
    · rw [upd_ne hb]; exact s.trk b m
  ob := fun k u b ek eb => by
    by_cases hk : k = n
    · subst hk
      rw [ea] at eb
      cases eb
      rw [List.getElem?_set] at ek
      simp only [if_true] at ek
      split at ek
      · cases ek; exact r
      · cases ek
    · rw [List.getElem?_set_ne (Ne.symm hk)] at ek
      have hb : b ≠ a := fun z => by
        subst z
        exact hk (nd_ix s.nd eb ea)
      exact (s.ob k u b ek eb).stay (Gd.upd nt) (upd_ne hb)
/-- a new tracked thing that is no object of the store -/
theorem Gd.new {p : Addr} {o : HO} (h : H p = none) : Gd μ H μ (L2.upd H p o) := Gd.upd fun xs e => by rw [h] at e; cases e
theorem Sim.aside {S : Sto} (s : Sim T μ S H) {p : Addr} {o : HO} (h : H p = none) : Sim T μ S (L2.upd H p o) where
  len := s.len
  nd := s.nd
  trk := fun b m => by
    rw [upd_ne (fun z => by subst z; exact s.fresh h m)]
    exact s.trk b m
  ob := fun k u b ek eb => (s.ob k u b ek eb).stay (Gd.new h) (upd_ne fun z => by subst z; exact s.fresh h (List.mem_of_getElem? eb))
theorem Gd.snoc {p : Addr} {o : HO} (h : H p = none) : Gd μ H (μ ++ [p]) (L2.upd H p o) := ⟨⟨[p], rfl⟩, (Gd.new (μ := μ) (o := o) h).tup⟩
/-- a new object -/
theorem Sim.new {S : Sto} (s : Sim T μ S H) {p : Addr} {o : HO} {ob : Ob} (h : H p = none) (r : ObR T (μ ++ [p]) (L2.upd H p o) p ob) : Sim T (μ ++ [p]) (S ++ [ob]) (L2.upd H p o) where
  len := by rw [List.length_append, List.length_append, s.len]; rfl
  nd := by
    rw [List.nodup_append]
    refine ⟨s.nd, by simp, fun a ha b hb => ?_⟩
    have e : b = p := by simpa using hb
    subst e
    exact fun z => s.fresh h (z ▸ ha)
  trk := fun b m => by
    rcases List.mem_append.mp m with m1 | m1
    · have hb : b ≠ p := fun z => by rw [z] at m1; exact s.fresh h m1
      rw [upd_ne hb]
      exact s.trk b m1
    · have e : b = p := by simpa using m1
      rw [e, upd_same]; exact fun e => nomatch e
  ob := fun k u b ek eb => by
    by_cases hk : k < S.length
    · rw [List.getElem?_append_left hk] at ek
      rw [List.getElem?_append_left (by rw [s.len]; exact hk)] at eb
      exact (s.ob k u b ek eb).stay (Gd.snoc h) (upd_ne fun z => by subst z; exact s.fresh h (List.mem_of_getElem? eb))
    · have hk' : k = S.length := by
        have := (List.getElem?_eq_some_iff.mp ek).1
        rw [List.length_append] at this
        simp at this
        omega
      subst hk'
      rw [List.getElem?_append_right (Nat.le_refl _)] at ek
      rw [List.getElem?_append_right (by rw [s.len]; exact Nat.le_refl _)] at eb
      simp at ek
      rw [s.len] at eb
      simp at eb
      subst ek; subst eb
      exact r
theorem Sim.newRef {S : Sto} (s : Sim T μ S H) {p : Addr} : Den T (μ ++ [p]) H' (.ref S.length) (.ref p) := ⟨p, rfl, by rw [← s.len]; simp⟩
/-- the slots -/
structure DenS (T : Tb) (μ : List Addr) (H : Hp) (σ : Sl) (σv : St) : Prop where
  len : σv.length = σ.length
  at_ : ∀ (i : Nat) (d : D), σ[i]? = some (some d) → ∃ v, σv[i]? = some (some v) ∧ Den T μ H d v
  hold_ : ∀ q ∈ T.hold, σ[q.1]? = some none → σv[q.1]? = some (some (.ref q.2))
theorem DenS.mono (g : Gd μ H μ' H') {σ : Sl} {σv : St} (h : DenS T μ H σ σv) : DenS T μ' H' σ σv := ⟨h.len, fun i d e => let ⟨v, a, b⟩ := h.at_ i d e; ⟨v, a, b.mono g⟩, h.hold_⟩
theorem DenS.set {σ : Sl} {σv : St} (h : DenS T μ H σ σv) (i : Nat) {d : D} {v : V} (hd : Den T μ H d v) : DenS T μ H (σ.set i (some d)) (σv.set i (some v)) where
  len := by rw [List.length_set, List.length_set]; exact h.len
  at_ := fun j e ej => by
    by_cases hj : j = i
    · subst hj
      rw [List.getElem?_set] at ej
      simp only [if_true] at ej
      split at ej
      · cases ej
        refine ⟨v, ?_, hd⟩
        rw [List.getElem?_set_self (by rw [h.len]; assumption)]
      · cases ej
    · rw [List.getElem?_set_ne (Ne.symm hj)] at ej
      rw [List.getElem?_set_ne (Ne.symm hj)]
      exact h.at_ j e ej
  hold_ := fun q hq e => by
    by_cases hj : q.1 = i
    · rw [hj, List.getElem?_set] at e
      simp only [if_true] at e
      split at e <;> cases e
    · rw [List.getElem?_set_ne (Ne.symm hj)] at e
      rw [List.getElem?_set_ne (Ne.symm hj)]
      exact h.hold_ q hq e
/-- the same, whatever exception is held -/
def Tb.holds (T : Tb) (l : List (Nat × Addr)) : Tb := { T with hold := l }
section
variable (l : List (Nat × Addr)) (ν : List Addr) (G : Hp)
mutual
theorem Den_holdsA : ∀ (d : D) (v : V), Den (T.holds l) ν G d v = Den T ν G d v
  | .non, v => rfl
  | .bl _, v => rfl
  | .int _, v => rfl
  | .str _, v => rfl
  | .tup ds, v => by
    show (∃ a xs, v = V.ref a ∧ G a = some (.tup xs) ∧ DenL (T.holds l) ν G ds xs) = (∃ a xs, v = V.ref a ∧ G a = some (.tup xs) ∧ DenL T ν G ds xs)
    simp only [DenL_holdsA ds]
  | .ktup ds, v => by
    show (∃ a xs, v = V.ref a ∧ KTup T.K a xs ∧ DenL (T.holds l) ν G ds xs) = (∃ a xs, v = V.ref a ∧ KTup T.K a xs ∧ DenL T ν G ds xs)
    simp only [DenL_holdsA ds]
  | .ref _, v => rfl
  | .klst ds, v => by
    show (∃ a xs, v = V.ref a ∧ KLst T.K a xs ∧ DenL (T.holds l) ν G ds xs) = (∃ a xs, v = V.ref a ∧ KLst T.K a xs ∧ DenL T ν G ds xs)
    simp only [DenL_holdsA ds]
theorem DenL_holdsA : ∀ (ds : List D) (vs : List V), DenL (T.holds l) ν G ds vs = DenL T ν G ds vs
  | [], vs => rfl
  | d :: ds, vs => by
    show (∃ v r, vs = v :: r ∧ Den (T.holds l) ν G d v ∧ DenL (T.holds l) ν G ds r) = (∃ v r, vs = v :: r ∧ Den T ν G d v ∧ DenL T ν G ds r)
    simp only [DenL_holdsA ds, Den_holdsA d]
end
theorem KD_holdsA {κ : Type} : ∀ (ds : List (κ × D)) (vs : List (κ × V)), KD (T.holds l) ν G ds vs = KD T ν G ds vs
  | [], vs => rfl
  | p :: ds, vs => by
    show (∃ v r, vs = (p.1, v) :: r ∧ Den (T.holds l) ν G p.2 v ∧ KD (T.holds l) ν G ds r) = (∃ v r, vs = (p.1, v) :: r ∧ Den T ν G p.2 v ∧ KD T ν G ds r)
    simp only [KD_holdsA ds, Den_holdsA]
theorem FD_holdsA : ∀ (ds : List (Nat × D)) (vs : List (Str × V)), FD (T.holds l) ν G ds vs = FD T ν G ds vs
  | [], vs => rfl
  | p :: ds, vs => by
    show (∃ v r, vs = (T.att p.1, v) :: r ∧ Den (T.holds l) ν G p.2 v ∧ FD (T.holds l) ν G ds r) = (∃ v r, vs = (T.att p.1, v) :: r ∧ Den T ν G p.2 v ∧ FD T ν G ds r)
    simp only [FD_holdsA ds, Den_holdsA]
end
theorem Den_holds (l : List (Nat × Addr)) : Den (T.holds l) = Den T := by
  funext μ H d v
  exact Den_holdsA l μ H d v
theorem DenL_holds (l : List (Nat × Addr)) : DenL (T.holds l) = DenL T := by
  funext μ H d v
  exact DenL_holdsA l μ H d v
theorem FD_holds (l : List (Nat × Addr)) : FD (T.holds l) = FD T := by
  funext μ H d v
  exact FD_holdsA l μ H d v
theorem ObR_holds (l : List (Nat × Addr)) : ObR (T.holds l) = ObR T := by
  funext μ H a o
  cases o with
  | lst ds =>
    show (∃ xs, H a = some (.lst xs) ∧ DenL (T.holds l) μ H ds xs) = (∃ xs, H a = some (.lst xs) ∧ DenL T μ H ds xs)
    rw [DenL_holds]
  | clst ds =>
    show (∃ xs, Rd H a (.lst xs) ∧ DenL (T.holds l) μ H ds xs) = (∃ xs, Rd H a (.lst xs) ∧ DenL T μ H ds xs)
    rw [DenL_holds]
  | dK kvs =>
    show (∃ vs, H a = some (.dK vs) ∧ KD (T.holds l) μ H kvs vs) = (∃ vs, H a = some (.dK vs) ∧ KD T μ H kvs vs)
    simp only [KD_holdsA]
  | dT kvs =>
    show (∃ vs, H a = some (.dT vs) ∧ KD (T.holds l) μ H kvs vs) = (∃ vs, H a = some (.dT vs) ∧ KD T μ H kvs vs)
    simp only [KD_holdsA]
  | ins c fs =>
    show (∃ dx vs, H a = some (.ins (T.cls c) dx vs) ∧ FD (T.holds l) μ H fs vs) = (∃ dx vs, H a = some (.ins (T.cls c) dx vs) ∧ FD T μ H fs vs)
    rw [FD_holds]
  | dead => rfl
theorem Sim.holds {S : Sto} (l : List (Nat × Addr)) : Sim (T.holds l) μ S H ↔ Sim T μ S H :=
  ⟨fun s => ⟨s.len, s.nd, s.trk, fun n o a h1 h2 => by have := s.ob n o a h1 h2; rwa [ObR_holds] at this⟩, fun s => ⟨s.len, s.nd, s.trk, fun n o a h1 h2 => by rw [ObR_holds]; exact s.ob n o a h1 h2⟩⟩
theorem DenS.hide {σ : Sl} {σv : St} (h : DenS T μ H σ σv) (i : Nat) (v : Option V) (l : List (Nat × Addr)) (hl : ∀ q ∈ l, q.1 = i ∧ v = some (.ref q.2)) : DenS (T.holds l) μ H (σ.set i none) (σv.set i v) where
  len := by rw [List.length_set, List.length_set]; exact h.len
  at_ := fun j e ej => by
    rw [Den_holds]
    by_cases hj : j = i
    · subst hj
      rw [List.getElem?_set] at ej
      simp only [if_true] at ej
      split at ej
      · cases ej
      · cases ej
    · rw [List.getElem?_set_ne (Ne.symm hj)] at ej
      rw [List.getElem?_set_ne (Ne.symm hj)]
      exact h.at_ j e ej
  hold_ := fun q hq e => by
    obtain ⟨e1, e2⟩ := hl q hq
    rw [e1, List.getElem?_set] at e
    simp only [if_true] at e
    split at e
    · rw [e1, List.getElem?_set_self (by rw [h.len]; assumption), e2]
    · cases e
theorem DenS.clear {σ : Sl} {σv : St} (h : DenS T μ H σ σv) (i : Nat) (h0 : T.hold = []) : DenS T μ H (σ.set i none) (σv.set i none) := by
  have z := h.hide i none [] (fun _ q => nomatch q)
  have e : T.holds [] = T := by
    obtain ⟨a, b, c, d⟩ := T
    have h0 : d = [] := h0
    subst h0
    rfl
  rwa [e] at z
theorem DenS.wipe {σ : Sl} {σv : St} (h : DenS T μ H σ σv) (h0 : T.hold = []) : ∀ vs : List Nat, DenS T μ H (wipeD σ vs) (L2.wipe σv vs)
  | [] => h
  | v :: vs => (DenS.wipe h h0 vs).clear v h0
theorem DenS.start {ds : List D} {vs : List V} (n : Nat) (N : List Str) (hN : N.length = n) (h0 : T.hold = []) (h : DenL T μ H ds vs) : DenS T μ H (startD n ds) (L2.start N vs) where
  len := by
    unfold startD L2.start
    rw [List.length_append, List.length_append, List.length_map, List.length_map, List.length_replicate, List.length_replicate, h.length, hN]
  at_ := fun i d e => by
    unfold startD at e
    by_cases hi : i < ds.length
    · rw [List.getElem?_append_left (by rw [List.length_map]; exact hi), List.getElem?_map] at e
      cases h2 : ds[i]? with
      | none => rw [h2] at e; cases e
      | some d' =>
        rw [h2] at e
        have e' : d' = d := by simpa using e
        subst e'
        obtain ⟨v, a, b⟩ := h.get h2
        refine ⟨v, ?_, b⟩
        unfold L2.start
        rw [List.getElem?_append_left (by rw [List.length_map, h.length]; exact hi), List.getElem?_map, a]; rfl
    · rw [List.getElem?_append_right (by rw [List.length_map]; omega)] at e
      rw [List.getElem?_replicate] at e
      split at e <;> cases e
  hold_ := fun q hq => by rw [h0] at hq; cases hq

/-! ### ends -/
/-- an exception as it lies -/
def ExcR (T : Tb) (μ : List Addr) (H : Hp) (x : Exc) (cls : Value) (dd : Option Addr) : Prop :=
  cls = .ref (T.cls x.c) ∧ ((x.fs = [] ∧ dd = none) ∨ (x.fs ≠ [] ∧ ∃ d vs, dd = some d ∧ H d = some (.xd vs) ∧ FD T μ H x.fs vs))
/-- what is wanted of an evaluation's end -/
def Post {α β : Type} (T : Tb) (rel : List Addr → Hp → α → β → Prop) (W : WX) (σv : St) (μ : List Addr) (H : Hp) (Q : β → Hp → Prop) : R α → Prop
  | .ok a S' => ∀ μ' H' b, Gd μ H μ' H' → Sim T μ' S' H' → rel μ' H' a b → Q b H'
  | .exc x S' => ∀ μ' H' cls dd, Gd μ H μ' H' → Sim T μ' S' H' → ExcR T μ' H' x cls dd → W cls dd σv H'
  | .bad => False
theorem Post.go {α β : Type} {rel : List Addr → Hp → α → β → Prop} {W : WX} {σv : St} {Q : β → Hp → Prop} (g : Gd μ H μ' H') : ∀ {r : R α}, Post T rel W σv μ H Q r → Post T rel W σv μ' H' Q r
  | .ok _ _, h => fun μ2 H2 b g2 => h μ2 H2 b (g.trans g2)
  | .exc _ _, h => fun μ2 H2 c d g2 => h μ2 H2 c d (g.trans g2)
  | .bad, h => h
theorem Post.bind {α β γ δ : Type} {ra : List Addr → Hp → α → γ → Prop} {rb : List Addr → Hp → β → δ → Prop} {W : WX} {σv : St} {Q : δ → Hp → Prop} {QA : γ → Hp → Prop} {r : R α} {f : α → Sto → R β}
    (h : Post T rb W σv μ H Q (r.bind f)) (k : ∀ a S' μ' H' c, Gd μ H μ' H' → Sim T μ' S' H' → ra μ' H' a c → Post T rb W σv μ' H' Q (f a S') → QA c H') : Post T ra W σv μ H QA r := by
  cases r with
  | ok a S' => exact fun μ' H' c g s ra' => k a S' μ' H' c g s ra' (Post.go g h)
  | exc x S' => exact h
  | bad => exact h
theorem Post.imp {α β : Type} {rel : List Addr → Hp → α → β → Prop} {W : WX} {σv : St} {Q Q' : β → Hp → Prop} (i : ∀ b H', Q b H' → Q' b H') : ∀ {r : R α}, Post T rel W σv μ H Q r → Post T rel W σv μ H Q' r
  | .ok _ _, h => fun μ2 H2 b g s re => i b H2 (h μ2 H2 b g s re)
  | .exc _ _, h => h
  | .bad, h => h
/-- an ok end, now -/
theorem Post.now {α β : Type} {rel : List Addr → Hp → α → β → Prop} {W : WX} {σv : St} {Q : β → Hp → Prop} {a : α} {S : Sto} {b : β} (h : Post T rel W σv μ H Q (.ok a S)) (s : Sim T μ S H) (r : rel μ H a b) : Q b H := h μ H b (Gd.refl _ _) s r
/-- behind a step of the heap -/
theorem Post.at {α β : Type} {rel : List Addr → Hp → α → β → Prop} {W : WX} {σv : St} {Q : β → Hp → Prop} {a : α} {S : Sto} {b : β} (h : Post T rel W σv μ H Q (.ok a S)) (g : Gd μ H μ' H') (s : Sim T μ' S H') (r : rel μ' H' a b) : Q b H' := h μ' H' b g s r

def eqRel {α : Type} : List Addr → Hp → α → α → Prop := fun _ _ a b => b = a
/-- a statement's end -/
def PostF (T : Tb) (W : WX) (μ : List Addr) (H : Hp) (D : Ends) : F → Prop
  | .nx σ S => ∀ μ' H' σv, Gd μ H μ' H' → Sim T μ' S H' → DenS T μ' H' σ σv → D.nx σv H'
  | .bk σ S => ∀ μ' H' σv, Gd μ H μ' H' → Sim T μ' S H' → DenS T μ' H' σ σv → D.bk σv H'
  | .ct σ S => ∀ μ' H' σv, Gd μ H μ' H' → Sim T μ' S H' → DenS T μ' H' σ σv → D.ct σv H'
  | .rt d S => ∀ μ' H' v, Gd μ H μ' H' → Sim T μ' S H' → Den T μ' H' d v → D.rt v H'
  | .exc σ x S => ∀ μ' H' σv cls dd, Gd μ H μ' H' → Sim T μ' S H' → DenS T μ' H' σ σv → ExcR T μ' H' x cls dd → W cls dd σv H'
  | .bad => False
theorem PostF.go {W : WX} {D : Ends} (g : Gd μ H μ' H') : ∀ {r : F}, PostF T W μ H D r → PostF T W μ' H' D r
  | .nx _ _, h => fun μ2 H2 b g2 => h μ2 H2 b (g.trans g2)
  | .bk _ _, h => fun μ2 H2 b g2 => h μ2 H2 b (g.trans g2)
  | .ct _ _, h => fun μ2 H2 b g2 => h μ2 H2 b (g.trans g2)
  | .rt _ _, h => fun μ2 H2 b g2 => h μ2 H2 b (g.trans g2)
  | .exc _ _ _, h => fun μ2 H2 b c d g2 => h μ2 H2 b c d (g.trans g2)
  | .bad, h => h
/-- an expression first -/
theorem PostF.thn {α γ : Type} {ra : List Addr → Hp → α → γ → Prop} {W : WX} {σ : Sl} {σv : St} {D : Ends} {QA : γ → Hp → Prop} {r : R α} {f : α → Sto → F} (ds : DenS T μ H σ σv)
    (h : PostF T W μ H D (r.thn σ f)) (k : ∀ a S' μ' H' c, Gd μ H μ' H' → Sim T μ' S' H' → ra μ' H' a c → PostF T W μ' H' D (f a S') → QA c H') : Post T ra W σv μ H QA r := by
  cases r with
  | ok a S' => exact fun μ' H' c g s ra' => k a S' μ' H' c g s ra' (PostF.go g h)
  | exc x S' => exact fun μ' H' cls dd g s e => h μ' H' σv cls dd g s (ds.mono g) e
  | bad => exact h
theorem PostF.seq {W : WX} {D : Ends} {r : F} {f : Sl → Sto → F} {nx : St → Hp → Prop}
    (h : PostF T W μ H D (r.seq f)) (k : ∀ σ S' μ' H' σv, Gd μ H μ' H' → Sim T μ' S' H' → DenS T μ' H' σ σv → PostF T W μ' H' D (f σ S') → nx σv H') : PostF T W μ H { D with nx := nx } r := by
  cases r with
  | nx σ S' => exact fun μ' H' σv g s ds => k σ S' μ' H' σv g s ds (PostF.go g h)
  | rt d S => exact h
  | bk σ S => exact h
  | ct σ S => exact h
  | exc σ x S => exact h
  | bad => exact h
end
end Pv
end

section
set_option autoImplicit false
set_option linter.all false
set_option maxHeartbeats 4000000
set_option maxRecDepth 10000
/-! Pv3: the evaluator's operations are the model's. -/
namespace Pv
open PySem L2
section
variable {X : Cx} {T : Tb}
/-- the values' reading of a two-place operation of the evaluator -/
def r2D (T : Tb) (g : D → D → Sto → R D) : R2 := fun x y H Q => ∃ (W : WX) (σv : L2.St) (μ : List Addr) (S : Sto) (dx dy : D), Sim T μ S H ∧ Den T μ H dx x ∧ Den T μ H dy y ∧ Post T (Den T) W σv μ H Q (g dx dy S)
def r1D (T : Tb) (g : D → Sto → R D) : V → Hp → VK → Prop := fun x H Q => ∃ (W : WX) (σv : L2.St) (μ : List Addr) (S : Sto) (dx : D), Sim T μ S H ∧ Den T μ H dx x ∧ Post T (Den T) W σv μ H Q (g dx S)
def rLD (T : Tb) (g : List D → Sto → R D) : List V → Hp → VK → Prop := fun xs H Q => ∃ (W : WX) (σv : L2.St) (μ : List Addr) (S : Sto) (ds : List D), Sim T μ S H ∧ DenL T μ H ds xs ∧ Post T (Den T) W σv μ H Q (g ds S)
def rMD (T : Tb) (g : D → List D → Sto → R D) : V → List V → Hp → VK → Prop := fun x xs H Q => ∃ (W : WX) (σv : L2.St) (μ : List Addr) (S : Sto) (dx : D) (ds : List D), Sim T μ S H ∧ Den T μ H dx x ∧ DenL T μ H ds xs ∧ Post T (Den T) W σv μ H Q (g dx ds S)
theorem OpR.imp {f : Value → Value → Sem Value} {r r' : R2} (h : OpR X f r) (i : ∀ x y H Q, r' x y H Q → r x y H Q) : OpR X f r' := fun pins s σ H x y v u Q I rx ry q => h pins s σ H x y v u Q I rx ry (i _ _ _ _ q)
/-- new things: a tuple, a list -/
theorem post_tup {μ : List Addr} {H : Hp} {S : Sto} {W : WX} {σv : L2.St} {Q : VK} {ds : List D} {xs : List V} (s : Sim T μ S H) (h : Post T (Den T) W σv μ H Q (.ok (.tup ds) S)) (hd : DenL T μ H ds xs) :
    ∀ p, H p = none → Q (.ref p) (upd H p (.tup xs)) := fun p hp =>
  h.at (Gd.new hp) (s.aside hp) ⟨p, xs, rfl, upd_same, hd.mono (Gd.new hp)⟩
theorem post_lst {μ : List Addr} {H : Hp} {S : Sto} {W : WX} {σv : L2.St} {Q : VK} {ds : List D} {xs : List V} (s : Sim T μ S H) (h : Post T (Den T) W σv μ H Q (alloc (.lst ds) S)) (hd : DenL T μ H ds xs) :
    ∀ p, H p = none → Q (.ref p) (upd H p (.lst xs)) := fun p hp =>
  Post.at (rel := Den T) h (Gd.snoc hp) (s.new hp ⟨xs, upd_same, hd.mono (Gd.snoc hp)⟩) (s.newRef)
theorem lst_at {μ : List Addr} {H : Hp} {S : Sto} {n : Nat} {ds : List D} {v : V} (s : Sim T μ S H) (h : Den T μ H (.ref n) v) (e : S[n]? = some (.lst ds)) : ∃ a xs, v = .ref a ∧ μ[n]? = some a ∧ H a = some (.lst xs) ∧ DenL T μ H ds xs := by
  obtain ⟨a, ev, ea⟩ := h
  obtain ⟨xs, eh, hd⟩ := s.ob n _ a e ea
  exact ⟨a, xs, ev, ea, eh, hd⟩
theorem clst_at {μ : List Addr} {H : Hp} {S : Sto} {n : Nat} {ds : List D} {v : V} (s : Sim T μ S H) (h : Den T μ H (.ref n) v) (e : S[n]? = some (.clst ds)) : ∃ a xs, v = .ref a ∧ Rd H a (.lst xs) ∧ DenL T μ H ds xs := by
  obtain ⟨a, ev, ea⟩ := h
  obtain ⟨xs, eh, hd⟩ := s.ob n _ a e ea
  exact ⟨a, xs, ev, eh, hd⟩
theorem ktup_sq {H : Hp} {a : Addr} {xs : List V} (h : KTup T.K a xs) (e : T.K = X.K) : SqT X.K H a xs := .inr (by rw [← e]; exact h)
theorem klst_sq {H : Hp} {a : Addr} {xs : List V} (h : KLst T.K a xs) (e : T.K = X.K) : SqL X.K H a xs := .inr (by rw [← e]; exact h)
/-- a tuple of either kind -/
theorem tup_sq {μ : List Addr} {H : Hp} {d : D} {ds : List D} {v : V} (hK : T.K = X.K) (h : Den T μ H d v) (e : asTup d = some ds) : ∃ a xs, v = .ref a ∧ SqT X.K H a xs ∧ DenL T μ H ds xs := by
  cases d with
  | tup xs =>
    have e' : xs = ds := Option.some.inj e
    subst e'
    obtain ⟨a, vs, ev, ea, hd⟩ := h
    exact ⟨a, vs, ev, .of ea, hd⟩
  | ktup xs =>
    have e' : xs = ds := Option.some.inj e
    subst e'
    obtain ⟨a, vs, ev, ea, hd⟩ := h
    exact ⟨a, vs, ev, ktup_sq ea hK, hd⟩
  | non => cases e
  | bl b => cases e
  | int i => cases e
  | str x => cases e
  | ref n => cases e
  | klst xs => cases e

/-! ### two-place operators -/
def toOp : BOp → Operator
  | .add => .Add | .sub => .Sub | .mul => .Mult | .fdiv => .FloorDiv | .mod => .Mod | .pow => .Pow | .shl => .LShift | .shr => .RShift | .xor => .BitXor
theorem smallMul_ok {i j : Int} (h : smallMul i j = true) : CMul i j := by
  unfold smallMul at h
  simp only [Bool.or_eq_true, Bool.and_eq_true, decide_eq_true_eq] at h
  exact h
theorem nil_of {ds : List D} {μ : List Addr} {H : Hp} {xs : List V} (h : DenL T μ H ds xs) (e : xs = []) : ds = [] := by
  have := h.length
  rw [e] at this
  exact List.eq_nil_of_length_eq_zero this.symm
theorem op_bin (hK : T.K = X.K) : ∀ op : BOp, OpR X (binaryOp (toOp op)) (r2D T (binop op)) := by
  intro op pins s σ H x y v u Q I rx ry ⟨W, σv, μ, S, dx, dy, sim, hx, hy, post⟩
  cases op with
  | add =>
    cases dx <;> cases dy <;> first | exact False.elim post | skip
    · exact op_add pins s σ H x y v u Q I rx ry ⟨_, _, hx, hy, post.now sim rfl⟩
    · rename_i a b
      unfold binop at post
      by_cases c : a.length + b.length ≤ sizeLine
      · simp only [if_pos c] at post
        exact op_add_str pins s σ H x y v u Q I rx ry ⟨_, _, hx, hy, c, post.now sim rfl⟩
      · simp only [if_neg c] at post
        exact False.elim post
    · rename_i a b
      obtain ⟨p, xs, ex, hp, dx⟩ := hx
      obtain ⟨q, ys, ey, hq, dy⟩ := hy
      unfold binop newTup at post
      by_cases c : (a ++ b).length ≤ sizeLine
      · simp only [if_pos c] at post
        refine op_catA pins s σ H x y v u Q I rx ry ⟨p, q, xs, ys, ex, ey, .of hp, .of hq, by rw [dx.length, dy.length, ← List.length_append]; exact c, fun e => ?_, fun _ e => ?_, fun _ _ => post_tup sim post (dx.append dy)⟩
        · have e' := nil_of dx e
          subst e'
          exact post.now sim ⟨q, ys, rfl, hq, dy⟩
        · have e' := nil_of dy e
          subst e'
          rw [List.append_nil] at post
          exact post.now sim ⟨p, xs, rfl, hp, dx⟩
      · simp only [if_neg c] at post
        exact False.elim post
    · rename_i n m
      unfold binop at post
      cases e1 : S[n]? with
      | none => simp only [e1] at post; exact False.elim post
      | some o1 =>
        cases e2 : S[m]? with
        | none => cases o1 <;> (simp only [e1, e2] at post; exact False.elim post)
        | some o2 =>
          cases o1 <;> cases o2 <;> simp only [e1, e2] at post <;> first | exact False.elim post | skip
          rename_i xs ys
          obtain ⟨p, vs, ep, _, hp, dx⟩ := lst_at sim hx e1
          obtain ⟨q, us, eq, _, hq, dy⟩ := lst_at sim hy e2
          unfold newLst at post
          by_cases c : (xs ++ ys).length ≤ sizeLine
          · rw [if_pos c] at post
            exact op_cat pins s σ H x y v u Q I rx ry ⟨p, q, vs, us, ep, eq, hp, hq, by rw [dx.length, dy.length, ← List.length_append]; exact c, post_lst sim post (dx.append dy)⟩
          · rw [if_neg c] at post
            exact False.elim post
  | sub =>
    cases dx <;> cases dy <;> first | exact False.elim post | skip
    exact op_sub pins s σ H x y v u Q I rx ry ⟨_, _, hx, hy, post.now sim rfl⟩
  | mul =>
    cases dx <;> cases dy <;> first | exact False.elim post | skip
    · rename_i i j
      unfold binop at post
      by_cases c : smallMul i j = true
      · simp only [if_pos c] at post
        exact op_mul pins s σ H x y v u Q I rx ry ⟨_, _, hx, hy, smallMul_ok c, post.now sim rfl⟩
      · simp only [if_neg c] at post
        exact False.elim post
    · rename_i a k
      unfold binop at post
      by_cases c : a ≠ [] ∧ -(2 ^ 62) ≤ k ∧ k ≤ 1000 ∧ a.length ≤ 1000
      · simp only [if_pos c] at post
        obtain ⟨p, xs, ex, hp, dx⟩ := hx
        by_cases k0 : k ≤ 0
        · have e0 : k.toNat = 0 := by omega
          rw [e0] at post
          exact op_rep0 pins s σ H x y v u Q I rx ry ⟨p, k, xs, ex, hy, .of hp, fun e => c.1 (nil_of dx e), c.2.1, k0, post_tup (ds := []) sim post rfl⟩
        by_cases k1 : k = 1
        · subst k1
          have e1 : (List.replicate (1 : Int).toNat a).flatten = a := by
            show (List.replicate 1 a).flatten = a
            simp
          rw [e1] at post
          subst ex
          exact op_rep1 pins s σ H (.ref p) y v u Q I rx ry ⟨p, xs, rfl, hy, .of hp, post.now sim ⟨p, xs, rfl, hp, dx⟩⟩
        have k2 : 2 ≤ k := by omega
        exact op_repT pins s σ H x y v u Q I rx ry ⟨p, k, xs, ex, hy, .of hp, fun e => c.1 (nil_of dx e), k2, c.2.2.1, by rw [dx.length]; exact c.2.2.2, post_tup sim post (dx.flat _)⟩
      · simp only [if_neg c] at post
        exact False.elim post
    · rename_i n k
      unfold binop at post
      cases e1 : S[n]? with
      | none => simp only [e1] at post; exact False.elim post
      | some o1 =>
        cases o1 <;> simp only [e1] at post <;> first | exact False.elim post | skip
        rename_i a
        obtain ⟨p, vs, ep, _, hp, dx⟩ := lst_at sim hx e1
        by_cases c : -(2 ^ 63) ≤ k ∧ k < 2 ^ 63 ∧ a.length * k.toNat ≤ sizeLine
        · rw [if_pos c] at post
          exact op_rep pins s σ H x y v u Q I rx ry ⟨p, k, vs, ep, hy, hp, c.1, c.2.1, by rw [dx.length]; exact c.2.2, post_lst sim post (dx.flat _)⟩
        · rw [if_neg c] at post
          exact False.elim post
  | fdiv =>
    cases dx <;> cases dy <;> first | exact False.elim post | skip
    rename_i i j
    unfold binop at post
    by_cases c : 0 < j ∧ j < 1073741824
    · simp only [if_pos c] at post
      exact op_fdiv pins s σ H x y v u Q I rx ry ⟨_, _, hx, hy, c, post.now sim rfl⟩
    · simp only [if_neg c] at post
      exact False.elim post
  | mod =>
    cases dx <;> cases dy <;> first | exact False.elim post | skip
    rename_i i j
    unfold binop at post
    by_cases c : 0 < j
    · simp only [if_pos c] at post
      exact op_mod pins s σ H x y v u Q I rx ry ⟨_, _, hx, hy, c, post.now sim rfl⟩
    · simp only [if_neg c] at post
      exact False.elim post
  | pow =>
    cases dx <;> cases dy <;> first | exact False.elim post | skip
    rename_i i j
    unfold binop at post
    by_cases c : 0 ≤ j ∧ j ≤ 1000000 ∧ i.natAbs < 2 ^ 64
    · simp only [if_pos c] at post
      exact op_pow pins s σ H x y v u Q I rx ry ⟨_, _, hx, hy, c, post.now sim rfl⟩
    · simp only [if_neg c] at post
      exact False.elim post
  | shl =>
    cases dx <;> cases dy <;> first | exact False.elim post | skip
    rename_i i j
    unfold binop at post
    by_cases c : 0 ≤ j ∧ j ≤ 1000000 ∧ i.natAbs < 2 ^ 64
    · simp only [if_pos c] at post
      exact op_shl pins s σ H x y v u Q I rx ry ⟨_, _, hx, hy, c, post.now sim rfl⟩
    · simp only [if_neg c] at post
      exact False.elim post
  | shr =>
    cases dx <;> cases dy <;> first | exact False.elim post | skip
    rename_i i j
    unfold binop at post
    by_cases c : 0 ≤ j
    · simp only [if_pos c] at post
      exact op_shr pins s σ H x y v u Q I rx ry ⟨_, _, hx, hy, c, post.now sim rfl⟩
    · simp only [if_neg c] at post
      exact False.elim post
  | xor =>
    cases dx <;> cases dy <;> first | exact False.elim post | skip
    exact op_xor pins s σ H x y v u Q I rx ry ⟨_, _, hx, hy, post.now sim rfl⟩
end
end Pv
end

section
set_option autoImplicit false
set_option linter.all false
set_option maxHeartbeats 4000000
set_option maxRecDepth 10000
/-! Pv4: comparisons, subscripts, built-ins. -/
namespace Pv
open PySem L2
section
variable {X : Cx} {T : Tb}
/-! ### as data -/
theorem pdS_tup (S : Sto) (xs : List D) : pdS S (.tup xs) = pd (.tup xs) := rfl
mutual
theorem pd_dp (hK : T.K = X.K) {μ : List Addr} {H : Hp} : ∀ (d : D) {p : PyData} {v : V}, Den T μ H d v → pd d = some p → Dp X.K H v p
  | .non, p, v, h, e => by cases h; cases e; exact .non
  | .bl b, p, v, h, e => by cases h; cases e; exact .bl b
  | .int i, p, v, h, e => by cases h; cases e; exact .int i
  | .str x, p, v, h, e => by cases h; cases e; exact .str x
  | .tup xs, p, v, ⟨a, vs, ev, ea, hd⟩, e => by
    subst ev
    unfold pd at e
    cases h2 : pdL xs with
    | none => rw [h2] at e; cases e
    | some ds => rw [h2] at e; cases e; exact .tup (.of ea) (pdL_dp hK xs hd h2)
  | .ktup xs, p, v, ⟨a, vs, ev, ea, hd⟩, e => by
    subst ev
    unfold pd at e
    cases h2 : pdL xs with
    | none => rw [h2] at e; cases e
    | some ds => rw [h2] at e; cases e; exact .tup (ktup_sq ea hK) (pdL_dp hK xs hd h2)
  | .ref n, p, v, h, e => by unfold pd at e; cases e
  | .klst n, p, v, h, e => by unfold pd at e; cases e
theorem pdL_dp (hK : T.K = X.K) {μ : List Addr} {H : Hp} : ∀ (ds : List D) {ps : List PyData} {vs : List V}, DenL T μ H ds vs → pdL ds = some ps → DpAll X.K H vs ps
  | [], ps, vs, h, e => by
    have e1 : vs = [] := h
    unfold pdL at e
    cases e
    rw [e1]; exact .nil
  | d :: ds, ps, vs, ⟨v, r, ev, h, t⟩, e => by
    subst ev
    unfold pdL at e
    cases h1 : pd d with
    | none => rw [h1] at e; simp at e
    | some p =>
      cases h2 : pdL ds with
      | none => rw [h1, h2] at e; simp at e
      | some l =>
        rw [h1, h2] at e
        have e' : p :: l = ps := by simpa using e
        rw [← e']
        exact .cons (pd_dp hK d h h1) (pdL_dp hK ds t h2)
end
theorem pdS_dp (hK : T.K = X.K) {μ : List Addr} {H : Hp} {S : Sto} (sim : Sim T μ S H) {d : D} {p : PyData} {v : V} (h : Den T μ H d v) (e : pdS S d = some p) : Dp X.K H v p := by
  cases d with
  | ref n =>
    unfold pdS at e
    cases e1 : S[n]? with
    | none => simp only [e1] at e; cases e
    | some o =>
      cases o <;> simp only [e1] at e <;> first | cases e | skip
      rename_i xs
      obtain ⟨a, vs, ev, _, ea, hd⟩ := lst_at sim h e1
      subst ev
      cases h2 : pdL xs with
      | none => rw [h2] at e; cases e
      | some ds => rw [h2] at e; cases e; exact .lst (.of ea) (pdL_dp hK xs hd h2)
  | non => exact pd_dp hK _ h e
  | bl b => exact pd_dp hK _ h e
  | int i => exact pd_dp hK _ h e
  | str x => exact pd_dp hK _ h e
  | tup xs => exact pd_dp hK _ h e
  | ktup xs => exact pd_dp hK _ h e
  | klst xs => exact pd_dp hK _ h e
theorem eqP_ok {a b : Option PyData} {c : Bool} (e : eqP a b = some c) : ∃ d f, a = some d ∧ b = some f ∧ SeqAt.shaped d = true ∧ SeqAt.shaped f = true ∧ c = PyData.eqv d f := by
  unfold eqP at e
  cases a with
  | none => cases e
  | some d =>
    cases b with
    | none => cases e
    | some f =>
      simp only at e
      by_cases q : (SeqAt.shaped d && SeqAt.shaped f) = true
      · rw [if_pos q] at e
        cases e
        rw [Bool.and_eq_true] at q
        exact ⟨d, f, rfl, rfl, q.1, q.2, rfl⟩
      · rw [if_neg q] at e; cases e
/-- what eqS tells, the model's == tells -/
def rEqS (T : Tb) (neg : Bool) : R2 := fun x y H Q => ∃ (μ : List Addr) (S : Sto) (dx dy : D) (c : Bool), Sim T μ S H ∧ Den T μ H dx x ∧ Den T μ H dy y ∧ eqS S dx dy = some c ∧ Q (.bl (if neg = true then !c else c)) H
theorem eqS_deep {S : Sto} {dx dy : D} {c : Bool} (e : eqS S dx dy = some c) : (∃ i j, dx = .int i ∧ dy = .int j ∧ c = decide (i = j)) ∨ (∃ i j, dx = .bl i ∧ dy = .bl j ∧ c = (i == j)) ∨ (∃ i j, dx = .str i ∧ dy = .str j ∧ c = decide (i = j)) ∨ (dx = .non ∧ dy = .non ∧ c = true) ∨ eqP (pdS S dx) (pdS S dy) = some c := by
  cases dx <;> cases dy <;> first
    | (refine .inr (.inr (.inr (.inr ?_))); exact e)
    | (cases e; exact .inl ⟨_, _, rfl, rfl, rfl⟩)
    | (cases e; exact .inr (.inl ⟨_, _, rfl, rfl, rfl⟩))
    | (cases e; exact .inr (.inr (.inl ⟨_, _, rfl, rfl, rfl⟩)))
    | (cases e; exact .inr (.inr (.inr (.inl ⟨rfl, rfl, rfl⟩))))
theorem op_eqS (hK : T.K = X.K) (hu : X.A.units + 64 < cLine) : OpR X (compareOp .Eq) (rEqS T false) := by
  intro pins s σ H x y v u Q I rx ry ⟨μ, S, dx, dy, c, sim, hx, hy, e, q⟩
  have q' : Q (.bl c) H := q
  rcases eqS_deep e with ⟨i, j, rfl, rfl, rfl⟩ | ⟨i, j, rfl, rfl, rfl⟩ | ⟨i, j, rfl, rfl, rfl⟩ | ⟨rfl, rfl, rfl⟩ | e
  · cases hx; cases hy
    exact op_eq pins s σ H _ _ v u Q I rx ry ⟨rfl, by rw [show decide (V.int i = V.int j) = decide (i = j) by rw [dec_int]; rfl]; exact q'⟩
  · cases hx; cases hy
    exact op_eq pins s σ H _ _ v u Q I rx ry ⟨rfl, by rw [dec_bl]; exact q'⟩
  · cases hx; cases hy
    exact op_eq pins s σ H _ _ v u Q I rx ry ⟨rfl, by
      have z : decide (V.str i = V.str j) = decide (i = j) := by
        by_cases h : i = j
        · subst h; simp
        · rw [decide_eq_false h, decide_eq_false (fun k => h (V.str.inj k))]
      rw [z]; exact q'⟩
  · cases hx; cases hy
    exact op_eqD hu pins s σ H _ _ v u Q I rx ry ⟨.none, .none, .non, .non, by decide, by decide, q'⟩
  · obtain ⟨d, f, e1, e2, h1, h2, rfl⟩ := eqP_ok e
    exact op_eqD hu pins s σ H _ _ v u Q I rx ry ⟨d, f, pdS_dp hK sim hx e1, pdS_dp hK sim hy e2, h1, h2, q'⟩
theorem op_neS (hK : T.K = X.K) (hu : X.A.units + 64 < cLine) : OpR X (compareOp .NotEq) (rEqS T true) := by
  intro pins s σ H x y v u Q I rx ry ⟨μ, S, dx, dy, c, sim, hx, hy, e, q⟩
  have q' : Q (.bl (!c)) H := q
  rcases eqS_deep e with ⟨i, j, rfl, rfl, rfl⟩ | ⟨i, j, rfl, rfl, rfl⟩ | ⟨i, j, rfl, rfl, rfl⟩ | ⟨rfl, rfl, rfl⟩ | e
  · cases hx; cases hy
    exact op_ne pins s σ H _ _ v u Q I rx ry ⟨rfl, by rw [show decide (V.int i = V.int j) = decide (i = j) by rw [dec_int]; rfl]; exact q'⟩
  · cases hx; cases hy
    exact op_ne pins s σ H _ _ v u Q I rx ry ⟨rfl, by rw [dec_bl]; exact q'⟩
  · cases hx; cases hy
    exact op_ne pins s σ H _ _ v u Q I rx ry ⟨rfl, by
      have z : decide (V.str i = V.str j) = decide (i = j) := by
        by_cases h : i = j
        · subst h; simp
        · rw [decide_eq_false h, decide_eq_false (fun k => h (V.str.inj k))]
      rw [z]; exact q'⟩
  · cases hx; cases hy
    exact op_neD hu pins s σ H _ _ v u Q I rx ry ⟨.none, .none, .non, .non, by decide, by decide, q'⟩
  · obtain ⟨d, f, e1, e2, h1, h2, rfl⟩ := eqP_ok e
    exact op_neD hu pins s σ H _ _ v u Q I rx ry ⟨d, f, pdS_dp hK sim hx e1, pdS_dp hK sim hy e2, h1, h2, q'⟩
/-! ### in -/
theorem flat_v {μ : List Addr} {H : Hp} {d : D} {v : V} (h : Den T μ H d v) (f : flatD d = true) : flatV v = true := by
  cases d <;> first | (cases h; rfl) | cases f
theorem flat_all {μ : List Addr} {H : Hp} : ∀ {ds : List D} {vs : List V}, DenL T μ H ds vs → ds.all flatD = true → vs.all flatV = true
  | [], _, h, _ => by have e : _ = [] := h; rw [e]; rfl
  | d :: ds, _, ⟨v, r, ev, h, t⟩, f => by
    subst ev
    rw [List.all_cons, Bool.and_eq_true] at f
    rw [List.all_cons, flat_v h f.1, flat_all t f.2]; rfl
theorem eqF_v {μ : List Addr} {H : Hp} {d e : D} {v u : V} (h : Den T μ H d v) (k : Den T μ H e u) (f : flatD d = true) (g : flatD e = true) : eqV v u = eqF d e := by
  cases d <;> cases e <;> first | cases f; done | cases g; done | (cases h; cases k; rfl)
theorem inF_v {μ : List Addr} {H : Hp} {d : D} {v : V} (h : Den T μ H d v) (f : flatD d = true) : ∀ {ds : List D} {vs : List V}, DenL T μ H ds vs → ds.all flatD = true → inV v vs = inF d ds
  | [], _, h, _ => by have e : _ = [] := h; rw [e]; rfl
  | e :: ds, _, ⟨u, r, ev, k, t⟩, g => by
    subst ev
    rw [List.all_cons, Bool.and_eq_true] at g
    unfold inV inF
    rw [List.any_cons, List.any_cons, eqF_v k h g.1 f]
    have ih := inF_v h f t g.2
    unfold inV inF at ih
    rw [ih]
end
end Pv
end

section
set_option autoImplicit false
set_option linter.all false
set_option maxHeartbeats 4000000
set_option maxRecDepth 10000
/-! Pv5: in, order, subscripts, slices, stores. -/
namespace Pv
open PySem L2
section
variable {X : Cx} {T : Tb}
theorem dk_get {μ : List Addr} {H : Hp} {S : Sto} {n : Nat} {kvs : List (Key × D)} {v : V} (s : Sim T μ S H) (h : Den T μ H (.ref n) v) (e : S[n]? = some (.dK kvs)) : ∃ a vs, v = .ref a ∧ μ[n]? = some a ∧ H a = some (.dK vs) ∧ KD T μ H kvs vs := by
  obtain ⟨a, ev, ea⟩ := h
  obtain ⟨xs, eh, hd⟩ := s.ob n _ a e ea
  exact ⟨a, xs, ev, ea, eh, hd⟩
theorem dt_get {μ : List Addr} {H : Hp} {S : Sto} {n : Nat} {kvs : List (List Key × D)} {v : V} (s : Sim T μ S H) (h : Den T μ H (.ref n) v) (e : S[n]? = some (.dT kvs)) : ∃ a vs, v = .ref a ∧ μ[n]? = some a ∧ H a = some (.dT vs) ∧ KD T μ H kvs vs := by
  obtain ⟨a, ev, ea⟩ := h
  obtain ⟨xs, eh, hd⟩ := s.ob n _ a e ea
  exact ⟨a, xs, ev, ea, eh, hd⟩
/-- what a dict of the store says of a key -/
theorem dget_k {μ : List Addr} {H : Hp} {S : Sto} {n : Nat} {kvs : List (Key × D)} {dk : D} {k : Key} {v y : V} (s : Sim T μ S H) (h : Den T μ H (.ref n) v) (e : S[n]? = some (.dK kvs)) (hk : Den T μ H dk y) (ek : keyOf dk = some k) :
    ∃ a o, v = .ref a ∧ DGet H a y o ∧ ((lookA k kvs = none ∧ o = none) ∨ ∃ d u, lookA k kvs = some d ∧ o = some u ∧ Den T μ H d u) := by
  obtain ⟨a, vs, ev, _, ea, kd⟩ := dk_get s h e
  have ey := keyOf_den hk ek
  subst ey
  exact ⟨a, _, ev, DGet.k ea, kd.look⟩
theorem dget_t {μ : List Addr} {H : Hp} {S : Sto} {n : Nat} {kvs : List (List Key × D)} {dk : D} {k : List Key} {v y : V} (s : Sim T μ S H) (h : Den T μ H (.ref n) v) (e : S[n]? = some (.dT kvs)) (hk : Den T μ H dk y) (ek : tkeyOf dk = some k) :
    ∃ a o, v = .ref a ∧ DGet H a y o ∧ ((lookA k kvs = none ∧ o = none) ∨ ∃ d u, lookA k kvs = some d ∧ o = some u ∧ Den T μ H d u) := by
  obtain ⟨a, vs, ev, _, ea, kd⟩ := dt_get s h e
  obtain ⟨b, ey, eb⟩ := tkeyOf_den hk ek
  subst ey
  exact ⟨a, _, ev, DGet.t ea eb, kd.look⟩
theorem look_isSome {κ : Type} [DecidableEq κ] {μ : List Addr} {H : Hp} {k : κ} {kvs : List (κ × D)} {o : Option V} (h : (lookA k kvs = none ∧ o = none) ∨ ∃ d u, lookA k kvs = some d ∧ o = some u ∧ Den T μ H d u) : (lookA k kvs).isSome = o.isSome := by
  rcases h with ⟨a, b⟩ | ⟨d, u, a, b, _⟩ <;> rw [a, b] <;> rfl
/-- in -/
def rIsIn (T : Tb) (neg : Bool) : R2 := fun x y H Q => ∃ (μ : List Addr) (S : Sto) (dx dy : D) (c : Bool), Sim T μ S H ∧ Den T μ H dx x ∧ Den T μ H dy y ∧ isIn dx dy S = some c ∧ Q (.bl (if neg = true then !c else c)) H
theorem isIn_cases (hK : T.K = X.K) {μ : List Addr} {S : Sto} {H : Hp} {dx dy : D} {x y : V} {c : Bool} (sim : Sim T μ S H) (hx : Den T μ H dx x) (hy : Den T μ H dy y) (e : isIn dx dy S = some c) :
    (∃ a o, y = .ref a ∧ DGet H a x o ∧ c = o.isSome) ∨ ∃ p xs, y = .ref p ∧ (SqL X.K H p xs ∨ SqT X.K H p xs) ∧ flatV x = true ∧ xs.all flatV = true ∧ c = inV x xs := by
  cases dy <;> first | (cases e; done) | skip
  · rename_i ys
    unfold isIn at e
    simp only at e
    by_cases f : (flatD dx && ys.all flatD) = true
    · rw [if_pos f] at e
      cases e
      rw [Bool.and_eq_true] at f
      obtain ⟨p, xs, ey, hq, hd⟩ := tup_sq hK hy rfl
      exact .inr ⟨p, xs, ey, .inr hq, flat_v hx f.1, flat_all hd f.2, (inF_v hx f.1 hd f.2).symm⟩
    · rw [if_neg f] at e; cases e
  · rename_i ys
    unfold isIn at e
    simp only at e
    by_cases f : (flatD dx && ys.all flatD) = true
    · rw [if_pos f] at e
      cases e
      rw [Bool.and_eq_true] at f
      obtain ⟨p, xs, ey, hq, hd⟩ := tup_sq hK hy rfl
      exact .inr ⟨p, xs, ey, .inr hq, flat_v hx f.1, flat_all hd f.2, (inF_v hx f.1 hd f.2).symm⟩
    · rw [if_neg f] at e; cases e
  · rename_i n
    unfold isIn at e
    simp only at e
    cases e1 : S[n]? with
    | none => simp only [e1] at e; cases e
    | some o =>
      cases o <;> simp only [e1] at e <;> first | (cases e; done) | skip
      · rename_i ys
        by_cases f : (flatD dx && ys.all flatD) = true
        · rw [if_pos f] at e
          cases e
          rw [Bool.and_eq_true] at f
          obtain ⟨p, xs, ey, _, hq, hd⟩ := lst_at sim hy e1
          exact .inr ⟨p, xs, ey, .inl (.of hq), flat_v hx f.1, flat_all hd f.2, (inF_v hx f.1 hd f.2).symm⟩
        · rw [if_neg f] at e; cases e
      · rename_i ys
        by_cases f : (flatD dx && ys.all flatD) = true
        · rw [if_pos f] at e
          cases e
          rw [Bool.and_eq_true] at f
          obtain ⟨p, xs, ey, hq, hd⟩ := clst_at sim hy e1
          exact .inr ⟨p, xs, ey, .inl (.inl hq), flat_v hx f.1, flat_all hd f.2, (inF_v hx f.1 hd f.2).symm⟩
        · rw [if_neg f] at e; cases e
      · rename_i kvs
        cases e2 : keyOf dx with
        | none => rw [e2] at e; cases e
        | some k =>
          rw [e2] at e
          have e' : (lookA k kvs).isSome = c := Option.some.inj e
          obtain ⟨a, o, ev, g, l⟩ := dget_k sim hy e1 hx e2
          exact .inl ⟨a, o, ev, g, by rw [← e']; exact look_isSome l⟩
      · rename_i kvs
        cases e2 : tkeyOf dx with
        | none => rw [e2] at e; cases e
        | some k =>
          rw [e2] at e
          have e' : (lookA k kvs).isSome = c := Option.some.inj e
          obtain ⟨a, o, ev, g, l⟩ := dget_t sim hy e1 hx e2
          exact .inl ⟨a, o, ev, g, by rw [← e']; exact look_isSome l⟩
theorem op_isIn (hK : T.K = X.K) (hu : X.A.units + 1 < cLine) : OpR X (compareOp .In) (rIsIn T false) := by
  intro pins s σ H x y v u Q I rx ry ⟨μ, S, dx, dy, c, sim, hx, hy, e, q⟩
  rcases isIn_cases hK sim hx hy e with ⟨a, o, ey, g, rfl⟩ | ⟨p, xs, ey, h1, h2, h3, rfl⟩
  · subst ey
    obtain rfl : u = Value.ref a := ry
    exact d_in hu I g rx fun s3 I3 => ⟨.bl o.isSome, H, I3, rfl, q⟩
  · exact op_in_seq pins s σ H x y v u Q I rx ry ⟨p, xs, ey, h1, h2, h3, q⟩
theorem op_isNotIn (hK : T.K = X.K) (hu : X.A.units + 1 < cLine) : OpR X (compareOp .NotIn) (rIsIn T true) := by
  intro pins s σ H x y v u Q I rx ry ⟨μ, S, dx, dy, c, sim, hx, hy, e, q⟩
  rcases isIn_cases hK sim hx hy e with ⟨a, o, ey, g, rfl⟩ | ⟨p, xs, ey, h1, h2, h3, rfl⟩
  · subst ey
    obtain rfl : u = Value.ref a := ry
    exact d_notIn hu I g rx fun s3 I3 => ⟨.bl (!o.isSome), H, I3, rfl, q⟩
  · exact op_notIn_seq pins s σ H x y v u Q I rx ry ⟨p, xs, ey, h1, h2, h3, q⟩
/-! ### order, and all comparisons -/
def toCmp : COp → CmpOp
  | .eq => .Eq | .ne => .NotEq | .lt => .Lt | .le => .LtE | .gt => .Gt | .ge => .GtE | .isin => .In | .notin => .NotIn | .isN => .Is | .notN => .IsNot
theorem ofOpt_ok {μ : List Addr} {H : Hp} {S : Sto} {W : WX} {σv : L2.St} {Q : VK} {o : Option Bool} (sim : Sim T μ S H) (h : Post T (Den T) W σv μ H Q (ofOpt o S)) : ∃ b, o = some b ∧ Q (.bl b) H := by
  cases o with
  | none => exact False.elim h
  | some b => exact ⟨b, rfl, Post.now (rel := Den T) h sim rfl⟩
theorem isNone_v {μ : List Addr} {H : Hp} {d : D} {v : V} (h : Den T μ H d v) : decide (v = .non) = isNone d := by
  cases d with
  | non => cases h; rfl
  | bl b => cases h; rfl
  | int i => cases h; rfl
  | str x => cases h; rfl
  | tup xs => obtain ⟨a, _, e, _⟩ := h; rw [e]; rfl
  | ktup xs => obtain ⟨a, _, e, _⟩ := h; rw [e]; rfl
  | ref n => obtain ⟨a, e, _⟩ := h; rw [e]; rfl
  | klst xs => obtain ⟨a, _, e, _⟩ := h; rw [e]; rfl
theorem op_cmp (hK : T.K = X.K) (hu : X.A.units + 64 < cLine) : ∀ op : COp, OpR X (compareOp (toCmp op)) (r2D T (cmpop op)) := by
  intro op pins s σ H x y v u Q I rx ry ⟨W, σv, μ, S, dx, dy, sim, hx, hy, post⟩
  cases op with
  | eq =>
    obtain ⟨b, e, q⟩ := ofOpt_ok sim post
    exact op_eqS hK hu pins s σ H x y v u Q I rx ry ⟨μ, S, dx, dy, b, sim, hx, hy, e, q⟩
  | ne =>
    obtain ⟨b, e, q⟩ := ofOpt_ok sim post
    cases e2 : eqS S dx dy with
    | none => rw [e2] at e; cases e
    | some c =>
      rw [e2] at e
      have e' : (!c) = b := Option.some.inj e
      subst e'
      exact op_neS hK hu pins s σ H x y v u Q I rx ry ⟨μ, S, dx, dy, c, sim, hx, hy, e2, q⟩
  | lt =>
    cases dx <;> cases dy <;> first
      | exact False.elim post
      | skip
    · exact op_lt pins s σ H x y v u Q I rx ry ⟨_, _, hx, hy, post.now sim rfl⟩
    · rename_i xs ys
      obtain ⟨b, e, q⟩ := ofOpt_ok sim (show Post T (Den T) W σv μ H Q (ofOpt (ltT (.str xs) (.str ys)) S) from post)
      cases e
      exact op_lt_str pins s σ H x y v u Q I rx ry ⟨_, _, hx, hy, q⟩
    · rename_i xs ys
      obtain ⟨b, e, q⟩ := ofOpt_ok sim (show Post T (Den T) W σv μ H Q (ofOpt (ltT (.tup xs) (.tup ys)) S) from post)
      unfold ltT at e
      simp only at e
      cases e1 : intsOf xs with
      | none => rw [e1] at e; cases e
      | some ns =>
        cases e2 : intsOf ys with
        | none => rw [e1, e2] at e; cases e
        | some ms =>
          rw [e1, e2] at e
          have e' : HT.lexLt ns ms = b := Option.some.inj e
          subst e'
          obtain ⟨a1, vs, ex, hp, dx⟩ := hx
          obtain ⟨b1, us, ey, hq, dy⟩ := hy
          have z1 := dx.ofInts e1
          have z2 := dy.ofInts e2
          subst z1; subst z2
          exact op_ltT (by omega) pins s σ H x y v u Q I rx ry ⟨a1, b1, ns, ms, ex, ey, .of hp, .of hq, q⟩
  | le =>
    cases dx <;> cases dy <;> first | exact False.elim post | skip
    exact op_le pins s σ H x y v u Q I rx ry ⟨_, _, hx, hy, post.now sim rfl⟩
  | gt =>
    cases dx <;> cases dy <;> first | exact False.elim post | skip
    exact op_gt pins s σ H x y v u Q I rx ry ⟨_, _, hx, hy, post.now sim rfl⟩
  | ge =>
    cases dx <;> cases dy <;> first | exact False.elim post | skip
    exact op_ge pins s σ H x y v u Q I rx ry ⟨_, _, hx, hy, post.now sim rfl⟩
  | isin =>
    obtain ⟨b, e, q⟩ := ofOpt_ok sim post
    exact op_isIn hK (by omega) pins s σ H x y v u Q I rx ry ⟨μ, S, dx, dy, b, sim, hx, hy, e, q⟩
  | notin =>
    obtain ⟨b, e, q⟩ := ofOpt_ok sim post
    cases e2 : isIn dx dy S with
    | none => rw [e2] at e; cases e
    | some c =>
      rw [e2] at e
      have e' : (!c) = b := Option.some.inj e
      subst e'
      exact op_isNotIn hK (by omega) pins s σ H x y v u Q I rx ry ⟨μ, S, dx, dy, c, sim, hx, hy, e2, q⟩
  | isN =>
    cases dy <;> first | exact False.elim post | skip
    exact op_isN pins s σ H x y v u Q I rx ry ⟨hy, by rw [isNone_v hx]; exact Post.now (rel := Den T) post sim rfl⟩
  | notN =>
    cases dy <;> first | exact False.elim post | skip
    exact op_notN pins s σ H x y v u Q I rx ry ⟨hy, by rw [isNone_v hx]; exact Post.now (rel := Den T) post sim rfl⟩
/-! ### subscripts -/
theorem ix_dict (hu : X.A.units + 1 < cLine) : IxR X (fun x y H Q => ∃ a v, x = .ref a ∧ DGet H a y (some v) ∧ Q v H) := by
  intro value slice pins s σ H x y v u Q I rx ry ⟨a, z, ex, g, q⟩ hs
  subst ex
  obtain rfl : v = Value.ref a := rx
  exact PyProof.Rows.tail_any (dict_typeIs I g) PySem.F.slot_dict_getitem.lookup (d_getItem hu I g ry fun w' s3 I3 rw' => ⟨z, H, I3, rw', q⟩) hs
theorem atI_den {μ : List Addr} {H : Hp} {ds : List D} {vs : List V} {i : Int} {d : D} (h : DenL T μ H ds vs) (e : getAt ds i = some d) : ∃ v, atI vs i = some v ∧ Den T μ H d v := by
  unfold getAt atI at e
  unfold atI
  rw [h.length]
  cases e1 : ixN ds.length i with
  | none => rw [e1] at e; cases e
  | some j =>
    rw [e1] at e
    exact h.get e
theorem ix_D (hK : T.K = X.K) (hu : X.A.units + 1 < cLine) : IxR X (r2D T subscr) := by
  intro value slice pins s σ H x y v u Q I rx ry ⟨W, σv, μ, S, dx, dy, sim, hx, hy, post⟩ hs
  cases dx <;> first | exact False.elim post | skip
  · rename_i xs
    cases dy <;> first | exact False.elim post | skip
    rename_i i
    obtain ⟨p, vs, ex, hp, dl⟩ := hx
    unfold subscr at post
    cases e : getAt xs i with
    | none => simp only [e] at post; exact False.elim post
    | some d =>
      simp only [e] at post
      obtain ⟨z, e2, hz⟩ := atI_den dl e
      exact ix_tup value slice pins s σ H x y v u Q I rx ry ⟨p, vs, i, z, ex, hy, .of hp, e2, post.now sim hz⟩ hs
  · rename_i xs
    cases dy <;> first | exact False.elim post | skip
    rename_i i
    obtain ⟨p, vs, ex, hp, dl⟩ := hx
    unfold subscr at post
    cases e : getAt xs i with
    | none => simp only [e] at post; exact False.elim post
    | some d =>
      simp only [e] at post
      obtain ⟨z, e2, hz⟩ := atI_den dl e
      exact ix_tup value slice pins s σ H x y v u Q I rx ry ⟨p, vs, i, z, ex, hy, ktup_sq hp hK, e2, post.now sim hz⟩ hs
  · rename_i n
    unfold subscr at post
    simp only at post
    cases e1 : S[n]? with
    | none => simp only [e1] at post; exact False.elim post
    | some o =>
      cases o <;> simp only [e1] at post <;> first | exact False.elim post | skip
      · rename_i xs
        cases dy <;> first | exact False.elim post | skip
        rename_i i
        obtain ⟨p, vs, ex, _, hp, dl⟩ := lst_at sim hx e1
        cases e : getAt xs i with
        | none => simp only [e] at post; exact False.elim post
        | some d =>
          simp only [e] at post
          obtain ⟨z, e2, hz⟩ := atI_den dl e
          exact ix_list value slice pins s σ H x y v u Q I rx ry ⟨p, vs, i, z, ex, hy, .of hp, e2, post.now sim hz⟩ hs
      · rename_i xs
        cases dy <;> first | exact False.elim post | skip
        rename_i i
        obtain ⟨p, vs, ex, hp, dl⟩ := clst_at sim hx e1
        cases e : getAt xs i with
        | none => simp only [e] at post; exact False.elim post
        | some d =>
          simp only [e] at post
          obtain ⟨z, e2, hz⟩ := atI_den dl e
          exact ix_list value slice pins s σ H x y v u Q I rx ry ⟨p, vs, i, z, ex, hy, .inl hp, e2, post.now sim hz⟩ hs
      · rename_i kvs
        cases e2 : keyOf dy with
        | none => simp only [e2] at post; exact False.elim post
        | some k =>
          simp only [e2] at post
          obtain ⟨a, o, ev, g, l⟩ := dget_k sim hx e1 hy e2
          rcases l with ⟨l1, _⟩ | ⟨d, w, l1, l2, l3⟩
          · simp only [l1] at post; exact False.elim post
          · simp only [l1] at post
            subst l2
            exact ix_dict hu value slice pins s σ H x y v u Q I rx ry ⟨a, w, ev, g, post.now sim l3⟩ hs
      · rename_i kvs
        cases e2 : tkeyOf dy with
        | none => simp only [e2] at post; exact False.elim post
        | some k =>
          simp only [e2] at post
          obtain ⟨a, o, ev, g, l⟩ := dget_t sim hx e1 hy e2
          rcases l with ⟨l1, _⟩ | ⟨d, w, l1, l2, l3⟩
          · simp only [l1] at post; exact False.elim post
          · simp only [l1] at post
            subst l2
            exact ix_dict hu value slice pins s σ H x y v u Q I rx ry ⟨a, w, ev, g, post.now sim l3⟩ hs
  · rename_i xs
    cases dy <;> first | exact False.elim post | skip
    rename_i i
    obtain ⟨p, vs, ex, hp, dl⟩ := hx
    unfold subscr at post
    cases e : getAt xs i with
    | none => simp only [e] at post; exact False.elim post
    | some d =>
      simp only [e] at post
      obtain ⟨z, e2, hz⟩ := atI_den dl e
      exact ix_list value slice pins s σ H x y v u Q I rx ry ⟨p, vs, i, z, ex, hy, klst_sq hp hK, e2, post.now sim hz⟩ hs
/-! ### slices -/
def rSlD (T : Tb) : V → Option Int → Option Int → Hp → VK → Prop := fun x lo hi H Q => ∃ (W : WX) (σv : L2.St) (μ : List Addr) (S : Sto) (dx : D), Sim T μ S H ∧ Den T μ H dx x ∧ Post T (Den T) W σv μ H Q (sliced dx lo hi S)
theorem sl_D (hK : T.K = X.K) : SlR X (rSlD T) := by
  intro pins s σ H x v vl vu lo hi sl Q I rx hs pl pu ⟨W, σv, μ, S, dx, sim, hx, post⟩
  cases dx <;> first | exact False.elim post | skip
  · rename_i xs
    obtain ⟨p, vs, ex, hp, dl⟩ := hx
    refine sl_tupA pins s σ H x v vl vu lo hi sl Q I rx hs pl pu ⟨p, vs, ex, .of hp, fun c => ?_, fun _ => post_tup sim post (dl.cut lo hi)⟩
    have e : cutD xs lo hi = xs := by
      unfold cutD
      rw [dl.length] at c
      rw [c.1, c.2, List.drop_zero, Nat.sub_zero, List.take_length]
    unfold sliced at post
    simp only [e] at post
    exact post.now sim ⟨p, vs, rfl, hp, dl⟩
  · rename_i n
    unfold sliced at post
    simp only at post
    cases e1 : S[n]? with
    | none => simp only [e1] at post; exact False.elim post
    | some o =>
      cases o <;> simp only [e1] at post <;> first | exact False.elim post | skip
      rename_i xs
      obtain ⟨p, vs, ex, _, hp, dl⟩ := lst_at sim hx e1
      exact sl_list pins s σ H x v vl vu lo hi sl Q I rx hs pl pu ⟨p, vs, ex, .of hp, post_lst sim post (dl.cut lo hi)⟩
end
end Pv
end

section
set_option autoImplicit false
set_option linter.all false
set_option maxHeartbeats 4000000
set_option maxRecDepth 10000
/-! Pv6: built-ins by name, built-ins' methods, stores. -/
namespace Pv
open PySem L2
/-! ### sorting -/
theorem insInt_perm (a : Int) : ∀ l : List Int, (insInt a l).Perm (a :: l)
  | [] => .refl _
  | b :: r => by
    unfold insInt
    by_cases h : a ≤ b
    · rw [if_pos h]
    · rw [if_neg h]; exact ((insInt_perm a r).cons b).trans (.swap a b r)
theorem sortInts_perm : ∀ l : List Int, (sortInts l).Perm l
  | [] => .refl _
  | a :: r => (insInt_perm a (sortInts r)).trans ((sortInts_perm r).cons a)
theorem insInt_sorted (a : Int) : ∀ {l : List Int}, l.Pairwise (· ≤ ·) → (insInt a l).Pairwise (· ≤ ·)
  | [], _ => List.pairwise_singleton _ _
  | b :: r, h => by
    have h' := List.pairwise_cons.mp h
    unfold insInt
    by_cases c : a ≤ b
    · rw [if_pos c]
      refine List.pairwise_cons.mpr ⟨fun x hx => ?_, h⟩
      rcases List.mem_cons.mp hx with e | m
      · rw [e]; exact c
      · exact Int.le_trans c (h'.1 x m)
    · rw [if_neg c]
      refine List.pairwise_cons.mpr ⟨fun x hx => ?_, insInt_sorted a h'.2⟩
      have hx' := (insInt_perm a r).mem_iff.mp hx
      rcases List.mem_cons.mp hx' with e | m
      · rw [e]; omega
      · exact h'.1 x m
theorem sortInts_sorted : ∀ l : List Int, (sortInts l).Pairwise (· ≤ ·)
  | [] => .nil
  | a :: r => insInt_sorted a (sortInts_sorted r)
theorem sorted_unique : ∀ {a b : List Int}, a.Perm b → a.Pairwise (· ≤ ·) → b.Pairwise (· ≤ ·) → a = b
  | [], b, p, _, _ => by rw [List.nil_perm.mp p]
  | x :: xs, [], p, _, _ => by
    have := p.length_eq
    simp at this
  | x :: xs, y :: ys, p, ha, hb => by
    have ha' := List.pairwise_cons.mp ha
    have hb' := List.pairwise_cons.mp hb
    have e : x = y := by
      have m1 : x ∈ y :: ys := p.mem_iff.mp List.mem_cons_self
      have m2 : y ∈ x :: xs := p.mem_iff.mpr List.mem_cons_self
      rcases List.mem_cons.mp m1 with e | m1
      · exact e
      · rcases List.mem_cons.mp m2 with e | m2
        · exact e.symm
        · have h1 := hb'.1 x m1
          have h2 := ha'.1 y m2
          omega
    subst e
    rw [sorted_unique ((List.perm_cons x).mp p) ha'.2 hb'.2]
theorem minInts_le : ∀ {l : List Int} {m : Int}, minInts l = some m → m ∈ l ∧ ∀ y ∈ l, m ≤ y
  | [], m, e => by cases e
  | [a], m, e => by
    cases e
    refine ⟨List.mem_cons_self, fun y hy => ?_⟩
    have z : y = a := by simpa using hy
    omega
  | a :: b :: r, m, e => by
    unfold minInts at e
    cases e1 : minInts (b :: r) with
    | none => rw [e1] at e; cases e
    | some k =>
      rw [e1] at e
      have e' : (if a ≤ k then a else k) = m := Option.some.inj e
      obtain ⟨h1, h2⟩ := minInts_le e1
      by_cases c : a ≤ k
      · rw [if_pos c] at e'
        subst e'
        refine ⟨List.mem_cons_self, fun y hy => ?_⟩
        rcases List.mem_cons.mp hy with z | z
        · omega
        · exact Int.le_trans c (h2 y z)
      · rw [if_neg c] at e'
        subst e'
        refine ⟨List.mem_cons_of_mem _ h1, fun y hy => ?_⟩
        rcases List.mem_cons.mp hy with z | z
        · omega
        · exact h2 y z
theorem maxInts_le : ∀ {l : List Int} {m : Int}, maxInts l = some m → m ∈ l ∧ ∀ y ∈ l, y ≤ m
  | [], m, e => by cases e
  | [a], m, e => by
    cases e
    refine ⟨List.mem_cons_self, fun y hy => ?_⟩
    have z : y = a := by simpa using hy
    omega
  | a :: b :: r, m, e => by
    unfold maxInts at e
    cases e1 : maxInts (b :: r) with
    | none => rw [e1] at e; cases e
    | some k =>
      rw [e1] at e
      have e' : (if k ≤ a then a else k) = m := Option.some.inj e
      obtain ⟨h1, h2⟩ := maxInts_le e1
      by_cases c : k ≤ a
      · rw [if_pos c] at e'
        subst e'
        refine ⟨List.mem_cons_self, fun y hy => ?_⟩
        rcases List.mem_cons.mp hy with z | z
        · omega
        · exact Int.le_trans (h2 y z) c
      · rw [if_neg c] at e'
        subst e'
        refine ⟨List.mem_cons_of_mem _ h1, fun y hy => ?_⟩
        rcases List.mem_cons.mp hy with z | z
        · omega
        · exact h2 y z
theorem min_unique {l : List Int} {m k : Int} (h : m ∈ l) (h' : ∀ y ∈ l, m ≤ y) (g : k ∈ l) (g' : ∀ y ∈ l, k ≤ y) : m = k := by
  have a := h' k g
  have b := g' m h
  omega
theorem max_unique {l : List Int} {m k : Int} (h : m ∈ l) (h' : ∀ y ∈ l, y ≤ m) (g : k ∈ l) (g' : ∀ y ∈ l, y ≤ k) : m = k := by
  have a := h' k g
  have b := g' m h
  omega
section
variable {X : Cx} {T : Tb}
/-! ### built-ins -/
def biName : BI → String
  | .len => "len" | .tuple => "tuple" | .list => "list" | .all => "all" | .any => "any" | .sorted => "sorted" | .int => "int" | .abs => "abs" | .min => "min" | .max => "max" | .sum => "sum" | .str => "str"
def biTy : BI → Bool
  | .tuple => true | .list => true | .int => true | .str => true
  | _ => false
def biVal (b : BI) : Value := if biTy b = true then .type (biName b) else .builtin (biName b)
theorem one_of {μ : List Addr} {H : Hp} {d : D} {xs : List V} (h : DenL T μ H [d] xs) : ∃ v, xs = [v] ∧ Den T μ H d v := by
  obtain ⟨v, r, e, hv, t⟩ := h
  have e2 : r = [] := t
  rw [e2] at e
  exact ⟨v, e, hv⟩
theorem call_D (hK : T.K = X.K) (hc : X.calm = true) : ∀ b : BI, CallR X (biVal b) (rLD T (builtin b)) := by
  intro b pins s σ H xs us Q I rx ⟨W, σv, μ, S, ds, sim, hx, post⟩
  match ds, hx, post with
  | [], hx, post => cases b <;> exact False.elim post
  | d :: d2 :: r, hx, post => cases b <;> cases d <;> exact False.elim post
  | [d], hx, post =>
    obtain ⟨v, ex, hv⟩ := one_of hx
    subst ex
    cases b with
    | len =>
      cases d <;> first | exact False.elim post | skip
      · rename_i z
        unfold builtin at post
        simp only at post
        by_cases c : z.length ≤ sizeLine
        · rw [if_pos c] at post
          exact call_len_str pins s σ H _ us Q I rx ⟨z, by rw [show v = .str z from hv], c, post.now sim rfl⟩
        · rw [if_neg c] at post; exact False.elim post
      · obtain ⟨p, vs, ev, hp, hd⟩ := hv
        exact call_len_seq pins s σ H _ us Q I rx ⟨p, vs, by rw [ev], .inr (.of hp), by rw [hd.length]; exact post.now sim rfl⟩
      · obtain ⟨p, vs, ev, hp, hd⟩ := hv
        exact call_len_seq pins s σ H _ us Q I rx ⟨p, vs, by rw [ev], .inr (ktup_sq hp hK), by rw [hd.length]; exact post.now sim rfl⟩
      · rename_i n
        unfold builtin at post
        simp only at post
        cases e1 : S[n]? with
        | none => simp only [e1] at post; exact False.elim post
        | some o =>
          cases o <;> simp only [e1] at post <;> first | exact False.elim post | skip
          · obtain ⟨p, vs, ev, _, hp, hd⟩ := lst_at sim hv e1
            exact call_len_seq pins s σ H _ us Q I rx ⟨p, vs, by rw [ev], .inl (.of hp), by rw [hd.length]; exact post.now sim rfl⟩
          · obtain ⟨p, vs, ev, hp, hd⟩ := clst_at sim hv e1
            exact call_len_seq pins s σ H _ us Q I rx ⟨p, vs, by rw [ev], .inl (.inl hp), by rw [hd.length]; exact post.now sim rfl⟩
          · obtain ⟨p, vs, ev, _, hp, hd⟩ := dk_get sim hv e1
            exact call_lenD pins s σ H _ us Q I rx ⟨p, vs, by rw [ev], hp, by rw [hd.length]; exact post.now sim rfl⟩
      · obtain ⟨p, vs, ev, hp, hd⟩ := hv
        exact call_len_seq pins s σ H _ us Q I rx ⟨p, vs, by rw [ev], .inl (klst_sq hp hK), by rw [hd.length]; exact post.now sim rfl⟩
    | tuple =>
      cases d <;> first | exact False.elim post | skip
      · obtain ⟨p, vs, ev, hp, hd⟩ := hv
        exact call_tuple_of pins s σ H _ us Q I rx ⟨p, vs, by rw [ev], .inr ⟨.of hp, post.now sim ⟨p, vs, rfl, hp, hd⟩⟩⟩
      · rename_i n
        unfold builtin at post
        simp only at post
        cases e1 : S[n]? with
        | none => simp only [e1] at post; exact False.elim post
        | some o =>
          cases o <;> simp only [e1] at post <;> first | exact False.elim post | skip
          obtain ⟨p, vs, ev, _, hp, hd⟩ := lst_at sim hv e1
          exact call_tuple_of pins s σ H _ us Q I rx ⟨p, vs, by rw [ev], .inl ⟨.of hp, post_tup sim post hd⟩⟩
    | list =>
      cases d <;> first | exact False.elim post | skip
      · obtain ⟨p, vs, ev, hp, hd⟩ := hv
        exact call_list_of pins s σ H _ us Q I rx ⟨p, vs, by rw [ev], .inr (.of hp), post_lst sim post hd⟩
      · rename_i n
        unfold builtin at post
        simp only at post
        cases e1 : S[n]? with
        | none => simp only [e1] at post; exact False.elim post
        | some o =>
          cases o <;> simp only [e1] at post <;> first | exact False.elim post | skip
          · obtain ⟨p, vs, ev, _, hp, hd⟩ := lst_at sim hv e1
            exact call_list_of pins s σ H _ us Q I rx ⟨p, vs, by rw [ev], .inl (.of hp), post_lst sim post hd⟩
          · rename_i kvs
            obtain ⟨p, vs, ev, _, hp, hd⟩ := dk_get sim hv e1
            have hk : ∀ {l : List (Key × D)} {w : List (Key × V)}, KD T μ H l w → DenL T μ H (l.map fun p => ofKey p.1) (w.map fun kv => kV kv.1) := by
              intro l
              induction l with
              | nil => intro w h; have e : w = [] := h; rw [e]; exact rfl
              | cons a l ih => intro w ⟨u, q, e, _, t⟩; subst e; exact ⟨_, _, rfl, ofKey_den _, ih t⟩
            exact call_list_dK hc pins s σ H _ us Q I rx ⟨p, vs, by rw [ev], hp, post_lst sim post (hk hd)⟩
    | all =>
      cases d <;> first | exact False.elim post | skip
      rename_i n
      unfold builtin at post
      simp only at post
      cases e1 : S[n]? with
      | none => simp only [e1] at post; exact False.elim post
      | some o =>
        cases o <;> simp only [e1] at post <;> first | exact False.elim post | skip
        rename_i a
        obtain ⟨p, vs, ev, _, hp, hd⟩ := lst_at sim hv e1
        cases e2 : boolsOf a with
        | none => simp only [e2] at post; exact False.elim post
        | some bs =>
          simp only [e2] at post
          have z := hd.ofBools e2
          subst z
          exact cr_all hc pins s σ H _ us Q I rx ⟨p, bs, by rw [ev], .of hp, post.now sim rfl⟩
    | any =>
      cases d <;> first | exact False.elim post | skip
      rename_i n
      unfold builtin at post
      simp only at post
      cases e1 : S[n]? with
      | none => simp only [e1] at post; exact False.elim post
      | some o =>
        cases o <;> simp only [e1] at post <;> first | exact False.elim post | skip
        rename_i a
        obtain ⟨p, vs, ev, _, hp, hd⟩ := lst_at sim hv e1
        cases e2 : boolsOf a with
        | none => simp only [e2] at post; exact False.elim post
        | some bs =>
          simp only [e2] at post
          have z := hd.ofBools e2
          subst z
          exact cr_any hc pins s σ H _ us Q I rx ⟨p, bs, by rw [ev], .of hp, post.now sim rfl⟩
    | sorted =>
      cases d <;> first | exact False.elim post | skip
      rename_i n
      unfold builtin at post
      simp only at post
      cases e1 : S[n]? with
      | none => simp only [e1] at post; exact False.elim post
      | some o =>
        cases o <;> simp only [e1] at post <;> first | exact False.elim post | skip
        rename_i a
        obtain ⟨p, vs, ev, _, hp, hd⟩ := lst_at sim hv e1
        cases e2 : intsOf a with
        | none => simp only [e2] at post; exact False.elim post
        | some is =>
          simp only [e2] at post
          have z := hd.ofInts e2
          subst z
          refine cr_sortedI pins s σ H _ us Q I rx ⟨p, is, by rw [ev], .of hp, fun ns' q pm sd hq => ?_⟩
          have e3 : ns' = sortInts is := sorted_unique (pm.trans (sortInts_perm is).symm) sd (sortInts_sorted is)
          subst e3
          exact post_lst sim post (DenL.ints _) q hq
    | min =>
      cases d <;> first | exact False.elim post | skip
      rename_i n
      unfold builtin at post
      simp only at post
      cases e1 : S[n]? with
      | none => simp only [e1] at post; exact False.elim post
      | some o =>
        cases o <;> simp only [e1] at post <;> first | exact False.elim post | skip
        rename_i a
        obtain ⟨p, vs, ev, _, hp, hd⟩ := lst_at sim hv e1
        cases e2 : intsOf a with
        | none => simp only [e2] at post; exact False.elim post
        | some is =>
          simp only [e2] at post
          have z := hd.ofInts e2
          subst z
          cases e3 : minInts is with
          | none => simp only [e3] at post; exact False.elim post
          | some m =>
            simp only [e3] at post
            obtain ⟨h1, h2⟩ := minInts_le e3
            refine cr_min hc pins s σ H _ us Q I rx ⟨p, is, by rw [ev], .of hp, List.length_pos_of_mem h1, fun k hk hk' => ?_⟩
            have e4 := min_unique hk hk' h1 h2
            subst e4
            exact post.now sim rfl
    | max =>
      cases d <;> first | exact False.elim post | skip
      rename_i n
      unfold builtin at post
      simp only at post
      cases e1 : S[n]? with
      | none => simp only [e1] at post; exact False.elim post
      | some o =>
        cases o <;> simp only [e1] at post <;> first | exact False.elim post | skip
        rename_i a
        obtain ⟨p, vs, ev, _, hp, hd⟩ := lst_at sim hv e1
        cases e2 : intsOf a with
        | none => simp only [e2] at post; exact False.elim post
        | some is =>
          simp only [e2] at post
          have z := hd.ofInts e2
          subst z
          cases e3 : maxInts is with
          | none => simp only [e3] at post; exact False.elim post
          | some m =>
            simp only [e3] at post
            obtain ⟨h1, h2⟩ := maxInts_le e3
            refine cr_max hc pins s σ H _ us Q I rx ⟨p, is, by rw [ev], .of hp, List.length_pos_of_mem h1, fun k hk hk' => ?_⟩
            have e4 := max_unique hk hk' h1 h2
            subst e4
            exact post.now sim rfl
    | sum =>
      cases d <;> first | exact False.elim post | skip
      rename_i n
      unfold builtin at post
      simp only at post
      cases e1 : S[n]? with
      | none => simp only [e1] at post; exact False.elim post
      | some o =>
        cases o <;> simp only [e1] at post <;> first | exact False.elim post | skip
        rename_i a
        obtain ⟨p, vs, ev, _, hp, hd⟩ := lst_at sim hv e1
        cases e2 : intsOf a with
        | none => simp only [e2] at post; exact False.elim post
        | some is =>
          simp only [e2] at post
          have z := hd.ofInts e2
          subst z
          exact cr_sum hc pins s σ H _ us Q I rx ⟨p, is, by rw [ev], .of hp, post.now sim rfl⟩
    | int =>
      cases d <;> first | exact False.elim post | skip
      · exact call_int1 pins s σ H _ us Q I rx (.inr ⟨_, by rw [show v = _ from hv], post.now sim rfl⟩)
      · exact call_int1 pins s σ H _ us Q I rx (.inl ⟨_, by rw [show v = _ from hv], post.now sim rfl⟩)
    | abs =>
      cases d <;> first | exact False.elim post | skip
      exact call_abs pins s σ H _ us Q I rx ⟨_, by rw [show v = _ from hv], post.now sim rfl⟩
    | str => cases d <;> exact False.elim post
end
end Pv
end

section
set_option autoImplicit false
set_option linter.all false
set_option maxHeartbeats 4000000
set_option maxRecDepth 10000
/-! Pv7: methods of built-in types, stores. -/
namespace Pv
open PySem L2
section
open PySem.AutoSeq1
theorem list_extend_tup (l : Addr) (items : Array Value) (n : Nat) (b : Addr) (items2 : Array Value) (n2 : Nat) (dd : Option Addr) (sl : Array (Option Value)) (hs0 : ¬(!items.isEmpty && Builtin.List.listTooLong (items.size + items2.size)) = true) (hs1 : items.size ≤ sizeLine) (hs2 : items.size + items2.size ≤ sizeLine + 1) :
    Meets (Builtin.«list.extend» ⟨[.ref l, .ref b], []⟩) (fun _ R s => s.heap.get? l = some { cls := .type "list", dict := none, data := .seq items n, slots := #[] } ∧ s.heap.get? b = some { cls := .type "tuple", dict := dd, data := .seq items2 n2, slots := sl } ∧ R (.ok (.ret Value.none)) { s with heap := s.heap.update l (Obj.mapSeq fun x => x ++ items2), toks := s.toks }) :=
  .of_wp fun prog w A R s h => by
    obtain ⟨hp, g, d, tk, os⟩ := s; obtain ⟨hl, hb, h⟩ := h; have f1 := idx_int; have f2 := sub_tuple_tuple; have f3 := sub_list_list; have f4 := sub_tuple_list; have f5 := sub_list_tuple;
    have hz' : (items ++ items2).size ≤ sizeLine + 1 := by rw [Array.size_append]; exact hs2
    wp_walk using (wpAny_updateSeq hl rfl (hz := hs1) (_hz' := hz')), wpAny_loadPart' hl, wpAny_loadPart' hb
    exact ⟨_, rfl, h⟩
end
section
variable {X : Cx} {T : Tb}
theorem mt_extendT : MtR X "list.extend" (fun x vs H Q => ∃ l b xs zs, x = .ref l ∧ vs = [.ref b] ∧ H l = some (.lst xs) ∧ H b = some (.tup zs) ∧ xs.length + zs.length ≤ sizeLine ∧ Q .non (upd H l (.lst (xs ++ zs)))) := by
  intro pins s σ H x vs v us Q I rx rv h
  obtain ⟨l, b, xs, zs, rfl, rfl, hH, hB, hz, q⟩ := h
  cases rx
  obtain ⟨u, rfl, ru⟩ := rv.one
  cases ru
  obtain ⟨z, its, n, r, hl, e⟩ := I.lstM hH
  obtain ⟨its2, r2, ⟨⟨cls, dd, data, sl⟩, ho, hc, n2, hd⟩, hs⟩ := I.tuple (SqT.of (K := X.K) hB)
  simp only at hc hd
  subst hc hd
  have hl2 := r2.length
  have hsz : its.toArray.size + its2.toArray.size ≤ sizeLine := by rw [List.size_toArray, List.size_toArray]; omega
  have hlong : ¬ (!its.toArray.isEmpty && Builtin.List.listTooLong (its.toArray.size + its2.toArray.size)) = true := by
    rw [notLongL hsz, Bool.and_false]
    exact Bool.false_ne_true
  refine call_meets F.slot_list_extend ⟨_, e, rfl⟩ F.entry_list_extend (F.args_list_extend_2 _ _)
    (list_extend_tup l its.toArray n b its2.toArray n2 dd sl hlong (by rw [List.size_toArray]; omega) (by omega)) ⟨e, ho, ?_⟩
  refine ⟨.non, _, I.lset (its' := its ++ its2) hH e (by simp) (r.append r2) ?_, rfl, q⟩
  rw [List.length_append]
  omega
def bmId : BM → String
  | .append => "list.append" | .pop => "list.pop" | .extend => "list.extend" | .reverse => "list.reverse" | .get => "dict.get"
theorem noTup_lst {H : Hp} {a : Addr} {xs : List V} (h : H a = some (.lst xs)) : NoTup H a := fun _ e => by rw [h] at e; cases e
theorem noTup_dK {H : Hp} {a : Addr} {xs : List (Key × V)} (h : H a = some (.dK xs)) : NoTup H a := fun _ e => by rw [h] at e; cases e
theorem noTup_dT {H : Hp} {a : Addr} {xs : List (List Key × V)} (h : H a = some (.dT xs)) : NoTup H a := fun _ e => by rw [h] at e; cases e
theorem noTup_ins {H : Hp} {a C dx : Addr} {xs : List (Str × V)} (h : H a = some (.ins C dx xs)) : NoTup H a := fun _ e => by rw [h] at e; cases e
/-- a list of the store is changed -/
theorem post_set {μ : List Addr} {H : Hp} {S : Sto} {W : WX} {σv : L2.St} {Q : VK} {n : Nat} {a : Addr} {ds ds' : List D} {xs xs' : List V} {d : D} {v : V} (s : Sim T μ S H) (ea : μ[n]? = some a) (h : H a = some (.lst xs)) (hd : DenL T μ H ds' xs')
    (hv : Den T μ H d v) (p : Post T (Den T) W σv μ H Q (.ok d (S.set n (.lst ds')))) : Q v (upd H a (.lst xs')) :=
  p.at (Gd.upd (noTup_lst h)) (s.upd ea (noTup_lst h) ⟨xs', upd_same, hd.mono (Gd.upd (noTup_lst h))⟩) (hv.mono (Gd.upd (noTup_lst h)))
theorem look_getD {κ : Type} [DecidableEq κ] {μ : List Addr} {H : Hp} {k : κ} {kvs : List (κ × D)} {o : Option V} (h : (lookA k kvs = none ∧ o = none) ∨ ∃ d u, lookA k kvs = some d ∧ o = some u ∧ Den T μ H d u) : Den T μ H ((lookA k kvs).getD .non) (o.getD .non) := by
  rcases h with ⟨a, b⟩ | ⟨d, u, a, b, c⟩
  · rw [a, b]; exact rfl
  · rw [a, b]; exact c
theorem mt_D (hu : X.A.units + 1 < cLine) : ∀ m : BM, MtR X (bmId m) (rMD T (bmethod m)) := by
  intro m pins s σ H x xs v us Q I rx rv ⟨W, σv, μ, S, dx, ds, sim, hx, hds, post⟩
  cases dx <;> first | exact False.elim post | skip
  rename_i n
  unfold bmethod at post
  simp only at post
  cases e1 : S[n]? with
  | none => simp only [e1] at post; exact False.elim post
  | some o =>
    cases o <;> simp only [e1] at post <;> first | exact False.elim post | skip
    · rename_i a
      obtain ⟨p, vs, ev, ea, hp, hd⟩ := lst_at sim hx e1
      cases m with
      | append =>
        match ds, hds, post with
        | [], _, post => exact False.elim post
        | _ :: _ :: _, _, post => exact False.elim post
        | [y], hds, post =>
          obtain ⟨w, ew, hw⟩ := one_of hds
          simp only at post
          by_cases c : a.length < sizeLine
          · rw [if_pos c] at post
            exact mt_append pins s σ H x xs v us Q I rx rv ⟨p, vs, w, ev, ew, hp, by rw [hd.length]; exact c, post_set (ds := a) sim ea hp (hd.snoc hw) (d := .non) rfl post⟩
          · rw [if_neg c] at post; exact False.elim post
      | pop =>
        match ds, hds, post with
        | _ :: _, _, post => exact False.elim post
        | [], hds, post =>
          have ex : xs = [] := hds
          simp only at post
          cases e2 : a[a.length - 1]? with
          | none => simp only [e2] at post; exact False.elim post
          | some y =>
            simp only [e2] at post
            obtain ⟨w, ew, hw⟩ := hd.get e2
            exact mt_pop pins s σ H x xs v us Q I rx rv ⟨p, vs, w, ev, ex, hp, by rw [hd.length]; exact ew, post_set (ds := a) sim ea hp hd.dropLast hw post⟩
      | extend =>
        match ds, hds, post with
        | [], _, post => exact False.elim post
        | d1 :: _ :: _, _, post => cases d1 <;> exact False.elim post
        | [y], hds, post =>
          obtain ⟨w, ew, hw⟩ := one_of hds
          cases y <;> first | exact False.elim post | skip
          · rename_i b
            obtain ⟨q, us2, eq, hq, hd2⟩ := hw
            simp only at post
            by_cases c : a.length + b.length ≤ sizeLine
            · rw [if_pos c] at post
              exact mt_extendT pins s σ H x xs v us Q I rx rv ⟨p, q, vs, us2, ev, by rw [ew, eq], hp, hq, by rw [hd.length, hd2.length]; exact c, post_set (ds := a) sim ea hp (hd.append hd2) (d := .non) rfl post⟩
            · rw [if_neg c] at post; exact False.elim post
          · rename_i k
            simp only at post
            cases e2 : S[k]? with
            | none => simp only [e2] at post; exact False.elim post
            | some o2 =>
              cases o2 <;> simp only [e2] at post <;> first | exact False.elim post | skip
              rename_i b
              obtain ⟨q, us2, eq, _, hq, hd2⟩ := lst_at sim hw e2
              by_cases c : a.length + b.length ≤ sizeLine
              · rw [if_pos c] at post
                exact mt_extend pins s σ H x xs v us Q I rx rv ⟨p, q, vs, us2, ev, by rw [ew, eq], hp, hq, by rw [hd.length, hd2.length]; exact c, post_set (ds := a) sim ea hp (hd.append hd2) (d := .non) rfl post⟩
              · rw [if_neg c] at post; exact False.elim post
      | reverse =>
        match ds, hds, post with
        | _ :: _, _, post => exact False.elim post
        | [], hds, post =>
          have ex : xs = [] := hds
          exact mt_reverse pins s σ H x xs v us Q I rx rv ⟨p, vs, ev, ex, hp, post_set (ds := a) sim ea hp hd.reverse (d := .non) rfl post⟩
      | get =>
        match ds, hds, post with
        | [], _, post => exact False.elim post
        | _ :: _, _, post => exact False.elim post
    · rename_i kvs
      cases m with
      | get =>
        match ds, hds, post with
        | [], _, post => exact False.elim post
        | _ :: _ :: _, _, post => exact False.elim post
        | [y], hds, post =>
          obtain ⟨w, ew, hw⟩ := one_of hds
          simp only at post
          cases e2 : keyOf y with
          | none => simp only [e2] at post; exact False.elim post
          | some k =>
            simp only [e2] at post
            obtain ⟨a, o, ev, g, l⟩ := dget_k sim hx e1 hw e2
            subst ev; subst ew
            obtain rfl : v = Value.ref a := rx
            obtain ⟨u, rfl, ru⟩ := rv.one
            exact d_get1 hu I g ru fun w' s3 I3 rw' => ⟨_, H, I3, rw', post.now sim (look_getD l)⟩
      | append => match ds, post with
        | [], post => exact False.elim post
        | _ :: _, post => exact False.elim post
      | pop => match ds, post with
        | [], post => exact False.elim post
        | _ :: _, post => exact False.elim post
      | extend => match ds, post with
        | [], post => exact False.elim post
        | _ :: _, post => exact False.elim post
      | reverse => match ds, post with
        | [], post => exact False.elim post
        | _ :: _, post => exact False.elim post
    · rename_i kvs
      cases m with
      | get =>
        match ds, hds, post with
        | [], _, post => exact False.elim post
        | _ :: _ :: _, _, post => exact False.elim post
        | [y], hds, post =>
          obtain ⟨w, ew, hw⟩ := one_of hds
          simp only at post
          cases e2 : tkeyOf y with
          | none => simp only [e2] at post; exact False.elim post
          | some k =>
            simp only [e2] at post
            obtain ⟨a, o, ev, g, l⟩ := dget_t sim hx e1 hw e2
            subst ev; subst ew
            obtain rfl : v = Value.ref a := rx
            obtain ⟨u, rfl, ru⟩ := rv.one
            exact d_get1 hu I g ru fun w' s3 I3 rw' => ⟨_, H, I3, rw', post.now sim (look_getD l)⟩
      | append => match ds, post with
        | [], post => exact False.elim post
        | _ :: _, post => exact False.elim post
      | pop => match ds, post with
        | [], post => exact False.elim post
        | _ :: _, post => exact False.elim post
      | extend => match ds, post with
        | [], post => exact False.elim post
        | _ :: _, post => exact False.elim post
      | reverse => match ds, post with
        | [], post => exact False.elim post
        | _ :: _, post => exact False.elim post
/-- the receiver is of the type whose method it is -/
def bmTy : BM → String
  | .get => "dict"
  | _ => "list"
theorem recv_ty {μ : List Addr} {H : Hp} {S : Sto} {m : BM} {d : D} {v : V} (sim : Sim T μ S H) (h : Den T μ H d v) (e : bmRecv m d S = true) : tyV X.K (bmTy m) v H := by
  cases d <;> first | (cases e; done) | skip
  rename_i n
  unfold bmRecv at e
  simp only at e
  cases e1 : S[n]? with
  | none => simp only [e1] at e; cases e
  | some o =>
    cases o <;> cases m <;> simp only [e1] at e <;> first | (cases e; done) | skip
    · obtain ⟨p, vs, ev, _, hp, _⟩ := lst_at sim h e1
      subst ev
      exact .inl ⟨rfl, vs, .of hp⟩
    · obtain ⟨p, vs, ev, _, hp, _⟩ := lst_at sim h e1
      subst ev
      exact .inl ⟨rfl, vs, .of hp⟩
    · obtain ⟨p, vs, ev, _, hp, _⟩ := lst_at sim h e1
      subst ev
      exact .inl ⟨rfl, vs, .of hp⟩
    · obtain ⟨p, vs, ev, _, hp, _⟩ := lst_at sim h e1
      subst ev
      exact .inl ⟨rfl, vs, .of hp⟩
    · obtain ⟨p, vs, ev, _, hp, _⟩ := dk_get sim h e1
      subst ev
      exact .inr (.inr (.inl ⟨rfl, .inl ⟨vs, hp⟩⟩))
    · obtain ⟨p, vs, ev, _, hp, _⟩ := dt_get sim h e1
      subst ev
      exact .inr (.inr (.inl ⟨rfl, .inr ⟨vs, hp⟩⟩))
/-! ### stores -/
def rSetD (T : Tb) : TSet := fun o i v H Q => ∃ (μ : List Addr) (S S' : Sto) (dx dy d : D), Sim T μ S H ∧ Den T μ H dx o ∧ Den T μ H dy i ∧ Den T μ H d v ∧ setitem dx dy d S = some S' ∧ ∀ μ' H', Gd μ H μ' H' → Sim T μ' S' H' → Q H'
theorem set_D (hu : X.A.units + 1 < cLine) : PSet X (rSetD T) := by
  intro pins s σ H o i v ov iv u Q I ro ri rv ⟨μ, S, S', dx, dy, d, sim, hx, hy, hd, e, q⟩
  cases dx <;> first | (cases e; done) | skip
  rename_i n
  unfold setitem at e
  simp only at e
  cases e1 : S[n]? with
  | none => simp only [e1] at e; cases e
  | some ob =>
    cases ob <;> simp only [e1] at e <;> first | (cases e; done) | skip
    · rename_i xs
      cases dy <;> first | (cases e; done) | skip
      rename_i j
      simp only at e
      obtain ⟨p, vs, ev, ea, hp, hl⟩ := lst_at sim hx e1
      cases e2 : ixN xs.length j with
      | none => simp only [e2] at e; cases e
      | some k =>
        simp only [e2] at e
        cases e
        refine set_list pins s σ H o i v ov iv u Q I ro ri rv ⟨p, vs, j, k, ev, hy, hp, by rw [hl.length]; exact e2, ?_⟩
        exact q _ _ (Gd.upd (noTup_lst hp)) (sim.upd ea (noTup_lst hp) ⟨_, upd_same, (hl.set k hd).mono (Gd.upd (noTup_lst hp))⟩)
    · rename_i kvs
      obtain ⟨p, vs, ev, ea, hp, hl⟩ := dk_get sim hx e1
      cases e2 : keyOf dy with
      | none => simp only [e2] at e; cases e
      | some k =>
        simp only [e2] at e
        by_cases c : kvs.length < sizeLine
        · rw [if_pos c] at e
          cases e
          have ek := keyOf_den hy e2
          subst ek; subst ev
          obtain rfl : ov = Value.ref p := ro
          refine d_setItem (H' := upd H p (.dK (putK vs k v))) hu I (DPut.k hp (by rw [hl.length]; exact c)) ri rv fun s' I' => ⟨_, I', ?_⟩
          exact q _ _ (Gd.upd (noTup_dK hp)) (sim.upd ea (noTup_dK hp) ⟨_, upd_same, (hl.put hd).mono (Gd.upd (noTup_dK hp))⟩)
        · rw [if_neg c] at e; cases e
    · rename_i kvs
      obtain ⟨p, vs, ev, ea, hp, hl⟩ := dt_get sim hx e1
      cases e2 : tkeyOf dy with
      | none => simp only [e2] at e; cases e
      | some k =>
        simp only [e2] at e
        by_cases c : kvs.length < sizeLine
        · rw [if_pos c] at e
          cases e
          obtain ⟨b, ey, eb⟩ := tkeyOf_den hy e2
          subst ey; subst ev
          obtain rfl : ov = Value.ref p := ro
          refine d_setItem (H' := upd H p (.dT (putK vs k v))) hu I (DPut.t hp eb (by rw [hl.length]; exact c)) ri rv fun s' I' => ⟨_, I', ?_⟩
          exact q _ _ (Gd.upd (noTup_dT hp)) (sim.upd ea (noTup_dT hp) ⟨_, upd_same, (hl.put hd).mono (Gd.upd (noTup_dT hp))⟩)
        · rw [if_neg c] at e; cases e
end
end Pv
end

section
set_option autoImplicit false
set_option linter.all false
set_option maxHeartbeats 4000000
set_option maxRecDepth 10000
/-! Pv8: what the model's trees are, for syntax of any kind. -/
namespace Pv
open PySem L2
def isStar : Expr → Bool
  | .Starred _ _ => true
  | _ => false
theorem starEach_cons {e : Expr} {es : List Expr} {env : Env} (h : isStar e = false) : starEach (e :: es) env = (false, eval e env) :: starEach es env := by
  cases e <;> first | rfl | (cases h; done) | simp only [starEach]
theorem noStar_any {pos : Pos} {env : Env} : ∀ {es : List Expr}, es.all (fun e => !isStar e) = true → (backTo pos (starEach es env)).any (·.1) = false
  | [], _ => rfl
  | e :: es, h => by
    rw [List.all_cons, Bool.and_eq_true] at h
    have h1 : isStar e = false := by simpa using h.1
    rw [starEach_cons h1]
    show ((false, _) :: backTo pos (starEach es env)).any (·.1) = false
    rw [List.any_cons, noStar_any h.2]; rfl
theorem noStar_all {pos : Pos} {env : Env} : ∀ {es : List Expr}, es.all (fun e => !isStar e) = true → (backTo pos (starEach es env)).all (fun x => !x.1) = true
  | [], _ => rfl
  | e :: es, h => by
    rw [List.all_cons, Bool.and_eq_true] at h
    have h1 : isStar e = false := by simpa using h.1
    rw [starEach_cons h1]
    show ((false, _) :: backTo pos (starEach es env)).all (fun x => !x.1) = true
    rw [List.all_cons, noStar_all h.2]; rfl
/-- no call without arguments of a name: no super() -/
def plainO : Expr → Bool
  | .Call (.Name _ _) [] [] _ => false
  | _ => true
theorem attrBase {o : Expr} {m : Str} {env : Env} {t : Sem Value} (h : plainO o = true) : attributeBase o m env t = t := by
  unfold attributeBase
  split
  · simp [plainO] at h
  · rfl
def isComp : Expr → Bool
  | .ListComp .. => true
  | .SetComp .. => true
  | .DictComp .. => true
  | _ => false
theorem swaps_no {e : Expr} {t : Option Expr} {l : Nat} {env : Env} (h : isComp e = false) : swapsWith e t l env = pure false := by
  cases e <;> first | rfl | (cases h; done)
theorem swaps_other {e t : Expr} {l : Nat} {env : Env} (h : (match t with | .Name .. => false | _ => true) = true) : swapsWith e (some t) l env = pure false := by
  cases e <;> cases t <;> first | rfl | (cases h; done)
def isTupE : Expr → Bool
  | .Tuple .. => true
  | _ => false
theorem swapped_no {t e : Expr} {env : Env} (h : isTupE e = false) : swappedStores [t] e env = pure none := by
  cases e <;> first | (cases h; done) | (cases t <;> rfl)
theorem swapped_noT {t e : Expr} {env : Env} (h : (match t with | .Tuple .. => false | .List .. => false | _ => true) = true) : swappedStores [t] e env = pure none := by
  cases t <;> first | (cases h; done) | rfl
theorem folded_no {e : Expr} {env : Env} (h : (match e with | .Set .. => false | _ => true) = true) : ∀ x, foldedSetIterable e env x = pure x := by
  intro x
  cases e <;> first | rfl | (cases h; done)
def isSl : Expr → Bool
  | .Slice .. => true
  | _ => false
theorem plainIx {b : Expr} (h : isSl b = false) : PlainIx b := by
  intro o i
  cases b <;> first | rfl | (cases h; done)
/-- an expression that as a test is its value's truth -/
def plainT : Expr → Bool
  | .UnaryOp .Not _ _ => false
  | .BoolOp .. => false
  | .IfExp .. => false
  | .Compare .. => false
  | _ => true
theorem test_truth {e : Expr} {env : Env} (h : plainT e = true) : ∀ whole, isTrue e env whole = (do let v ← whole; standAt e.pos; holding [v] (truthy v)) := by
  intro whole
  cases e with
  | UnaryOp op x p => cases op <;> first | rfl | (cases h; done)
  | BoolOp => cases h
  | IfExp => cases h
  | Compare => cases h
  | _ => rfl
theorem assign_cons {t : Expr} {ts : List Expr} {env : Env} (h : isStar t = false) : assignEach (t :: ts) env = (false, assign t env) :: assignEach ts env := by
  cases t <;> first | rfl | (cases h; done) | simp only [assignEach]
theorem assign_len {env : Env} : ∀ {ts : List Expr}, ts.all (fun e => !isStar e) = true → (assignEach ts env).length = ts.length
  | [], _ => rfl
  | t :: ts, h => by
    rw [List.all_cons, Bool.and_eq_true] at h
    have h1 : isStar t = false := by simpa using h.1
    rw [assign_cons h1, List.length_cons, List.length_cons, assign_len h.2]
theorem assign_nost {env : Env} : ∀ {ts : List Expr}, ts.all (fun e => !isStar e) = true → (assignEach ts env).findIdx? (·.1) = none
  | [], _ => rfl
  | t :: ts, h => by
    rw [List.all_cons, Bool.and_eq_true] at h
    have h1 : isStar t = false := by simpa using h.1
    rw [assign_cons h1, List.findIdx?_cons, assign_nost h.2]
    rfl
theorem assign_map {t : Expr} {ts : List Expr} {env : Env} (h : isStar t = false) : (assignEach (t :: ts) env).map (·.2) = assign t env :: (assignEach ts env).map (·.2) := by
  rw [assign_cons h]; rfl
/-- a method call of few arguments on one line -/
theorem meth_tree {o : Expr} {m : Str} {apos pos : Pos} {env : Env} {args : List Expr} (ho : plainO o = true) (hs : args.all (fun e => !isStar e) = true) (hn : args.length < 30) (hl : (apos.endLine == pos.line) = true) :
    eval (.Call (.Attribute o m apos) args [] pos) env = (do
      let ov ← eval o env
      standAt apos.atName
      let (f, first) ← holding [ov] (getMethod ov m (plainOf o env))
      callWith pos f first (backTo pos (starEach args env)) (backToKw pos (keywordEach [] env))) := by
  have hf : methodCallForm (args.length + ([] : List Keyword).length) (backTo pos (starEach args env)) (backToKw pos (keywordEach [] env)) = true := by
    unfold methodCallForm
    rw [noStar_all hs]
    show (true && true && decide (args.length + 0 + 0 < 30)) = true
    rw [decide_eq_true (by omega)]; rfl
  have e : eval (.Call (.Attribute o m apos) args [] pos) env = (do
      let ov ← attributeBase o m env (eval o env)
      standAt apos.atName
      methodCall o m apos pos env ov (args.length + ([] : List Keyword).length) (backTo pos (starEach args env)) (backToKw pos (keywordEach [] env))) := by rw [eval]
  rw [e, attrBase ho]
  have q : ∀ ov, methodCall o m apos pos env ov (args.length + ([] : List Keyword).length) (backTo pos (starEach args env)) (backToKw pos (keywordEach [] env)) = _ := fun ov => mcall_line (ov := ov) hf hl
  simp only [q]
theorem few_ok {cpos : Pos} {env : Env} {args : List Expr} (hs : args.all (fun e => !isStar e) = true) (hn : args.length < 30) :
    ((backTo cpos (starEach args env)).all (fun x => !x.1) && (backToKw cpos (keywordEach [] env)).all (fun x => x.1.isSome)
      && decide (args.length + ([] : List Keyword).length + (if ([] : List Keyword).isEmpty then 0 else 1) < 30)) = true := by
  rw [noStar_all hs]
  show (true && true && decide (args.length + 0 + 0 < 30)) = true
  rw [decide_eq_true (by omega)]; rfl
theorem notInSet {op : CmpOp} {b : Expr} (h : (match b with | .Set .. => false | _ => true) = true) : behindInMarks op b = false := by
  cases b <;> first | rfl | (cases h; done)
end Pv
end

section
set_option autoImplicit false
set_option linter.all false
set_option maxHeartbeats 4000000
set_option maxRecDepth 10000
/-! Pv9: readings by the evaluator; calls. -/
namespace Pv
open PySem L2
/-! ### weaker readings -/
section
variable {X : Cx}
theorem _root_.L2.PE.imp {e : Expr} {t t' : TE} (h : PE X e t) (i : ∀ σ H Q, t' σ H Q → t σ H Q) : PE X e t' := ⟨fun pins s σ H Q I q => h.run pins s σ H Q I (i _ _ _ q)⟩
theorem _root_.L2.PT.imp {e : Expr} {t t' : TT} (h : PT X e t) (i : ∀ σ H Q, t' σ H Q → t σ H Q) : PT X e t' := ⟨fun pins s σ H Q I q => h.run pins s σ H Q I (i _ _ _ q)⟩
theorem _root_.L2.PW.imp {e : Expr} {t t' : TT} (h : PW X e t) (i : ∀ σ H Q, t' σ H Q → t σ H Q) : PW X e t' := ⟨fun wh pins s σ H Q I q => h.run wh pins s σ H Q I (i _ _ _ q)⟩
theorem _root_.L2.PA.imp {es : List Expr} {t t' : TA} (h : PA X es t) (i : ∀ σ H Q, t' σ H Q → t σ H Q) : PA X es t' := ⟨fun pos pins s σ H Q I q => h.run pos pins s σ H Q I (i _ _ _ q)⟩
theorem _root_.L2.PO.imp {e : Option Expr} {t t' : TO} (h : PO X e t) (i : ∀ σ H Q, t' σ H Q → t σ H Q) : PO X e t' := ⟨fun pins s σ H Q I q => h.run pins s σ H Q I (i _ _ _ q)⟩
theorem _root_.L2.PS.imp {st : Stmt} {t t' : TS} (h : PS X st t) (i : ∀ D σ H, t' D σ H → t D σ H) : PS X st t' := ⟨fun pins s σ H D I q => h.run pins s σ H D I (i _ _ _ q)⟩
theorem _root_.L2.PSs.imp {st : List Stmt} {t t' : TS} (h : PSs X st t) (i : ∀ D σ H, t' D σ H → t D σ H) : PSs X st t' := ⟨fun pins s σ H D I q => h.run pins s σ H D I (i _ _ _ q)⟩
theorem _root_.L2.PG.imp {tg : Expr} {t t' : TG} (h : PG X tg t) (i : ∀ v σ H Q, t' v σ H Q → t v σ H Q) : PG X tg t' := ⟨fun pins s σ H v u Q I r q => h.run pins s σ H v u Q I r (i _ _ _ _ q)⟩
theorem _root_.L2.PGs.imp {tg : List Expr} {t t' : TGs} (h : PGs X tg t) (i : ∀ v σ H Q, t' v σ H Q → t v σ H Q) : PGs X tg t' := ⟨fun pins s σ H v u Q I r q => h.run pins s σ H v u Q I r (i _ _ _ _ q)⟩
theorem _root_.L2.PI.imp {tg it : Expr} {t t' : TI} (h : PI X tg it t) (i : ∀ σ H Q, t' σ H Q → t σ H Q) : PI X tg it t' := ⟨fun pins s σ H Q I q => h.run pins s σ H Q I (i _ _ _ q)⟩
theorem _root_.L2.PTs.imp {es : List Expr} {t t' : TT} (h : PTs X es t) (i : ∀ σ H Q, t' σ H Q → t σ H Q) : PTs X es t' := ⟨fun pins s σ H Q I q => h.run pins s σ H Q I (i _ _ _ q)⟩
end
/-! ### the evaluator's readings -/
section
variable (T : Tb) (W : WX)
def tR {α β : Type} (rel : List Addr → Hp → α → β → Prop) (ev : Sl → Sto → R α) : L2.St → Hp → (β → Hp → Prop) → Prop := fun σv H Q => ∃ μ S σ, Sim T μ S H ∧ DenS T μ H σ σv ∧ Post T rel W σv μ H Q (ev σ S)
abbrev tE (ev : Sl → Sto → R D) : TE := tR T W (Den T) ev
abbrev tTs (ev : Sl → Sto → R Bool) : TT := tR T W eqRel ev
abbrev tLs (ev : Sl → Sto → R (List D)) : TA := tR T W (DenL T) ev
abbrev tOs (ev : Sl → Sto → R (Option Int)) : TO := tR T W eqRel ev
/-- what is walked -/
def IsR (μ0 : List Addr) (H0 : Hp) (s : IS) (J : It) : Prop := ∀ μ S H i, Gd μ0 H0 μ H → Sim T μ S H →
  (∀ d, s.at i S = some (some d) → J.go i H ∧ ∀ x H', J.yld i H x H' → Gd μ H μ H' ∧ Sim T μ S H' ∧ Den T μ H' d x) ∧ (s.at i S = some none → J.stop i H)
abbrev tIs (ev : Sl → Sto → R IS) : TI := tR T W (IsR T) ev
/-- slots that are as they were but for some -/
def Keep (ws : List Nat) (σ σ' : L2.St) : Prop := σ'.length = σ.length ∧ ∀ j, j ∉ ws → σ'[j]? = σ[j]?
def PostG (ws : List Nat) (σv : L2.St) (μ : List Addr) (H : Hp) (Q : L2.St → Hp → Prop) : R Sl → Prop
  | .ok σ' S' => ∀ μ' H' σv', Gd μ H μ' H' → Sim T μ' S' H' → DenS T μ' H' σ' σv' → Keep ws σv σv' → Q σv' H'
  | _ => False
def tGd (ws : List Nat) (ev : D → Sl → Sto → R Sl) : TG := fun v σv H Q => ∃ μ S σ d, Sim T μ S H ∧ DenS T μ H σ σv ∧ Den T μ H d v ∧ PostG T ws σv μ H Q (ev d σ S)
def tGsd (ws : List Nat) (ev : List D → Sl → Sto → R Sl) : TGs := fun vs σv H Q => ∃ μ S σ ds, Sim T μ S H ∧ DenS T μ H σ σv ∧ DenL T μ H ds vs ∧ PostG T ws σv μ H Q (ev ds σ S)
def tSs (ev : Sl → Sto → F) : TS := fun D σv H => ∃ μ S σ, Sim T μ S H ∧ DenS T μ H σ σv ∧ PostF T W μ H D (ev σ S)
end
section
variable {T : Tb} {W : WX}
theorem Post.asW {α β : Type} {rel : List Addr → Hp → α → β → Prop} {σv : L2.St} {μ : List Addr} {H : Hp} {Q : β → Hp → Prop} : ∀ {r : R α}, Post T rel W σv μ H Q r → Post T rel (fun c d _ H => W c d σv H) [] μ H Q r
  | .ok _ _, h => h
  | .exc _ _, h => h
  | .bad, h => h
/-- a callee's promise, by the evaluator -/
def spD (T : Tb) (g : List D → Sto → R D) : Sp := fun vs H Q E => ∃ μ S ds, Sim T μ S H ∧ DenL T μ H ds vs ∧ Post T (Den T) (fun c d _ H => E c d H) [] μ H Q (g ds S)
def FnAt (X : Cx) (T : Tb) (k : Nat) (g : Addr) (c : List D → Sto → R D) : Prop := ∃ fd ps, FnOk X.prog X.w X.K X.mg X.base (L2.CX X.prog X.w) k g fd ps (spD T c) ∧ Binds X.K fd ps [] ∧ PySem.W.keepIn X.K (.ref g) = true
section
variable {X : Cx} {k : Nat} {g C : Addr} {x m : Str} {p pos apos : Pos} {o : Expr} {es : List Expr} {c : List D → Sto → R D} {ea : Sl → Sto → R D} {el : Sl → Sto → R (List D)}
/-- the arguments' tree, then the call -/
theorem callWith_any {first : List Value} {f : Value} {t : TA} {pins : List (Addr × Obj)} {s : Shared} {σ : L2.St} {H : Hp} {Q : List V → Hp → Prop} {Q' : Value → Shared → Prop} (hs : es.all (fun e => !isStar e) = true) (hk : PySem.W.keepIn X.K f = true) (ha : PA X es t)
    (hn : es = [] → ∀ σ H Q, t σ H Q → Q [] H) (I : Inv X pins σ H s) (h : t σ H Q)
    (k : ∀ us s1 vs H1, Inv X pins σ H1 s1 → Vals vs us → Q vs H1 → wpAny (model X.prog X.w) X.A (call f (first ++ us)) Q' X.xe s1) :
    wpAny (model X.prog X.w) X.A (callWith pos f first (backTo pos (starEach es X.env)) []) Q' X.xe s := by
  cases es with
  | nil => exact PySem.W.callWith_K0 I.kIn hk (k [] s [] H I .nil (hn rfl _ _ _ h))
  | cons e es =>
    rw [List.all_cons, Bool.and_eq_true] at hs
    have h1 : isStar e = false := by simpa using hs.1
    have hA := thn (ha.run pos pins s σ H _ I h) fun us s1 ⟨vs, H1, I1, r, q⟩ => (⟨I1.kIn, k us s1 vs H1 I1 r q⟩ : X.K.In s1.heap ∧ wpAny (model X.prog X.w) X.A (call f (first ++ us)) Q' X.xe s1)
    exact PySem.W.callWith_K (h₀ := X.base) I.ok.mod.kin hk hA (starEach_cons h1) (noStar_any hs.2)
theorem nilArgs {xs : Sl → Sto → R (List D)} (h : ∀ σ S, xs σ S = .ok [] S) : ∀ σ H Q, tLs T W xs σ H Q → Q [] H := fun σ H Q ⟨μ, S, σ', sim, ds, p⟩ => by
  rw [h] at p
  exact p.now sim rfl
/-- an expression first, then what is asked of its value -/
theorem run_bind {β δ : Type} {rb : List Addr → Hp → β → δ → Prop} {Q : δ → Hp → Prop} {f2 : D → Sto → R β} {R' : Value → Shared → Prop} {pins : List (Addr × Obj)} {s : Shared} {σ : L2.St} {H : Hp} {μ : List Addr} {S : Sto} {σd : Sl} (he : PE X o (tE T W ea)) (I : Inv X pins σ H s)
    (sim : Sim T μ S H) (ds : DenS T μ H σd σ) (post : Post T rb W σ μ H Q ((ea σd S).bind f2))
    (k : ∀ u s1 v H1 d S1 μ1, Inv X pins σ H1 s1 → RelV v u → Gd μ H μ1 H1 → Sim T μ1 S1 H1 → Den T μ1 H1 d v → Post T rb W σ μ1 H1 Q (f2 d S1) → R' u s1) : wpAny (model X.prog X.w) X.A (eval o X.env) R' X.xe s :=
  thn (he.run pins s σ H (fun v H1 => ∃ d S1 μ1, Gd μ H μ1 H1 ∧ Sim T μ1 S1 H1 ∧ Den T μ1 H1 d v ∧ Post T rb W σ μ1 H1 Q (f2 d S1)) I ⟨μ, S, σd, sim, ds, Post.bind post fun d S' μ' H' v g s' r p => ⟨d, S', μ', g, s', r, p⟩⟩)
    fun u s1 ⟨v, H1, I1, rx, d, S1, μ1, g1, sim1, hd, p⟩ => k u s1 v H1 d S1 μ1 I1 rx g1 sim1 hd p
/-- f(..) -/
theorem sE_call {f : Addr} (F : FnAt X T k f c) (hr : Room k X.A) (tk : Takes X W) (hg : Gl X x) (hm : X.mg x = some (.ref f)) (hs : es.all (fun e => !isStar e) = true) (ha : PA X es (tLs T W el)) (hn : es = [] → ∀ σ S, el σ S = .ok [] S) (hdb : (x == ("__debug__" : Str)) = false) :
    PE X (.Call (.Name x p) es [] pos) (tE T W fun σ S => (el σ S).bind fun vs S1 => c vs S1) := by
  obtain ⟨fd, ps, F, hb, hk⟩ := F
  refine ⟨fun pins s σ H Q I ⟨μ, S, σd, sim, ds, post⟩ => ?_⟩
  refine wpAny_Call_Name_kw (ld_glob I hg hm ?_ hdb)
  refine callWith_any (Q := fun vs H1 => spD T c vs H1 Q (WE W σ)) hs hk ha (fun e => nilArgs (hn e)) I ⟨μ, S, σd, sim, ds, Post.bind post fun a S' μ' H' vs g s' r p => ⟨μ', S', a, s', r, p.asW⟩⟩ fun us s1 vs H1 I1 r q => ?_
  exact run_fnS (E := WE W) F hr hb (passAt tk σ) I1 r q
/-- o.m(..), o an instance whose class is told by the store -/
theorem sE_meth {G : Prog} {cl : Nat → List D → Sto → R D} {mi : Nat} (he : PE X o (tE T W ea)) (inj : ∀ i j, T.att i = T.att j → i = j)
    (M : ∀ ci f, G.meth ci mi = some f → Cls X.K (T.cls ci) ∧ ∃ g, Meth X.K (T.cls ci) (T.att mi) g ∧ FnAt X T k g (cl f)) (hr : Room k X.A) (tk : Takes X W) (ho : plainO o = true) (hs : es.all (fun e => !isStar e) = true) (hl : es.length < 30) (hline : (apos.endLine == pos.line) = true)
    (ha : PA X es (tLs T W el)) (hn : es = [] → ∀ σ S, el σ S = .ok [] S) (hmm : m = T.att mi) :
    PE X (.Call (.Attribute o m apos) es [] pos) (tE T W fun σ S => (ea σ S).bind fun x S1 => match x with
      | .ref n => match S1[n]? with
        | some (.ins ci fs) => match G.meth ci mi, lookA mi fs with
          | some f, none => (el σ S1).bind fun vs S2 => cl f (.ref n :: vs) S2
          | _, _ => .bad
        | _ => .bad
      | _ => .bad) := by
  subst hmm
  refine ⟨fun pins s σ H Q I ⟨μ, S, σd, sim, ds, post⟩ => ?_⟩
  refine PySem.W.methodCall_KW (pl := plainOf o X.env) (run_bind he I sim ds post fun u s1 v H1 d S1 μ1 I1 rx g1 sim1 hd p => ?_) (meth_tree ho hs hl hline)
  cases d <;> first | exact False.elim p | skip
  rename_i n
  simp only at p
  cases e1 : S1[n]? with
  | none => simp only [e1] at p; exact False.elim p
  | some ob =>
    cases ob <;> simp only [e1] at p <;> first | exact False.elim p | skip
    rename_i ci fs
    obtain ⟨a, ev, ea'⟩ := hd
    obtain ⟨dx, vs0, eh, hf⟩ := sim1.ob n _ a e1 ea'
    subst ev
    obtain rfl : u = Value.ref a := rx
    cases e2 : G.meth ci mi with
    | none => simp only [e2] at p; exact False.elim p
    | some f =>
      obtain ⟨hcl, gA, hM, F⟩ := M ci f e2
      rcases hf.look (f := mi) inj with ⟨l1, l2⟩ | ⟨_, _, l1, _, _⟩
      · simp only [e2, l1] at p
        obtain ⟨fd, ps, F, hb, hk⟩ := F
        refine getmeth_ok I1 eh hcl hM l2 ?_
        refine callWith_any (first := [.ref a]) (Q := fun vs H2 => spD T (cl f) (.ref a :: vs) H2 Q (WE W σ)) hs hM.kp ha (fun e => nilArgs (hn e)) I1
          ⟨μ1, S1, σd, sim1, ds.mono g1, Post.bind p fun as S' μ' H' vs g s' r p2 => ⟨μ', S', .ref n :: as, s', ⟨.ref a, vs, rfl, ⟨a, rfl, g.at ea'⟩, r⟩, p2.asW⟩⟩ fun us s2 vs H2 I2 r q => ?_
        exact run_fnS (E := WE W) (us := .ref a :: us) (vs := .ref a :: vs) F hr hb (passAt tk σ) I2 (.cons rfl r) q
      · simp only [e2, l1] at p; exact False.elim p
end
end
end Pv
end

section
set_option autoImplicit false
set_option linter.all false
set_option maxHeartbeats 4000000
set_option maxRecDepth 10000
/-! Pv10: instances made, bound calls with a star, attributes, operators, displays, subscripts, tests: one lemma a construct. -/
namespace Pv
open PySem L2
section
variable {T : Tb} {W : WX} {X : Cx} {k : Nat} {g C : Addr} {x m : Str} {p pos apos : Pos} {o a b c : Expr} {es : List Expr} {ea eb ec : Sl → Sto → R D} {el : Sl → Sto → R (List D)}
theorem run_makeS {fd : FuncData} {ps : List Str} {sp : Sp} {E : L2.St → XK} {f : Addr} {pins : List (Addr × Obj)} {σ : L2.St} {H : Hp} {s : Shared} {Q : VK} {us : List Value} {vs : List V} (M : Mk X.K C f) (F : FnOk X.prog X.w X.K X.mg X.base (L2.CX X.prog X.w) k f fd ps sp) (hr : Room (k + 1) X.A)
    (hb : Binds X.K fd ps []) (hx : PassesAt (L2.CX X.prog X.w) X σ (E σ)) (I : Inv X pins σ H s) (r : Vals vs us)
    (h : ∀ x dx, H x = none → H dx = none → dx ≠ x → sp (.ref x :: vs) (upd (upd H dx (.own x)) x (.ins C dx [])) (fun v H2 => v = .non ∧ Q (.ref x) H2) (E σ)) :
    wpAny (model X.prog X.w) X.A (call (.ref C) us) (EP X pins σ Q) X.xe s := by
  have hq := h (s.heap.objs.size + 1) s.heap.objs.size (I.hok.fresh (Nat.le_succ _)) (I.hok.fresh (Nat.le_refl _)) (Nat.ne_of_lt (Nat.lt_succ_self _))
  have I2 := Inv.made (C := C) I
  have r2 : Vals (V.ref (s.heap.objs.size + 1) :: vs) (Value.ref (s.heap.objs.size + 1) :: us) := .cons rfl r
  have hl : (Value.ref (s.heap.objs.size + 1) :: us).length = ps.length := by
    rw [← r2.length]
    exact F.len _ _ _ _ hq
  have b := hb _ (Value.ref (s.heap.objs.size + 1) :: us) I2.kIn (by rw [List.append_nil]; exact hl)
  rw [List.append_nil] at b
  refine wpAny_call (make_map (f := f) I.kIn M.makes M.init (beq_iff_eq.mp M.fn) (codeAny_mono (F.run _ X.stack _ _ ⟨Value.ref (s.heap.objs.size + 1) :: us, []⟩ (Value.ref (s.heap.objs.size + 1) :: us) _ _ (E σ) (hr.make C us [])
    (I2.env0.make C us []) b r2 hq) fun r s' hq' => ?_))
  cases r with
  | error e => exact hx pins _ _ e s' I2 hq'
  | ok fl =>
    cases fl with
    | ret u =>
      obtain ⟨v, H', I3, rv, ev, q3⟩ := I2.after hq'
      subst ev
      exact ⟨rv, ⟨V.ref (s.heap.objs.size + 1), H', I3, rfl, q3⟩⟩
    | next => exact False.elim hq'
    | brk => exact False.elim hq'
    | cont => exact False.elim hq'
/-- C(..) -/
theorem sE_make {mk : Nat → List D → Sto → R D} {ci f : Nat} {fA : Addr} (M : Mk X.K (T.cls ci) fA) (F : FnAt X T k fA (mk f)) (hr : Room (k + 1) X.A) (tk : Takes X W) (hg : Gl X x) (hm : X.mg x = some (.ref (T.cls ci))) (hs : es.all (fun e => !isStar e) = true)
    (ha : PA X es (tLs T W el)) (hn : es = [] → ∀ σ S, el σ S = .ok [] S) (hdb : (x == ("__debug__" : Str)) = false) :
    PE X (.Call (.Name x p) es [] pos) (tE T W fun σ S => (el σ S).bind fun vs S1 => (mk f (.ref S1.length :: vs) (S1 ++ [.ins ci []])).bind fun r S2 => match r with
      | .non => .ok (.ref S1.length) S2
      | _ => .bad) := by
  obtain ⟨fd, ps, F, hb, hk⟩ := F
  refine ⟨fun pins s σ H Q I ⟨μ, S, σd, sim, ds, post⟩ => ?_⟩
  refine wpAny_Call_Name_kw (ld_glob I hg hm ?_ hdb)
  refine callWith_any (Q := fun vs H1 => ∀ x dx, H1 x = none → H1 dx = none → dx ≠ x → spD T (mk f) (.ref x :: vs) (upd (upd H1 dx (.own x)) x (.ins (T.cls ci) dx [])) (fun v H2 => v = .non ∧ Q (.ref x) H2) (WE W σ)) hs M.kp ha (fun e => nilArgs (hn e)) I
    ⟨μ, S, σd, sim, ds, Post.bind post fun as S' μ' H' vs g s' r p => fun x dx hx hdx hne => ?_⟩ fun us s1 vs H1 I1 r q => ?_
  · have h1 : upd H' dx (.own x) x = none := by rw [upd_ne (Ne.symm hne)]; exact hx
    have g1 : Gd μ' H' μ' (upd H' dx (.own x)) := Gd.new hdx
    have s1 : Sim T μ' S' (upd H' dx (.own x)) := s'.aside hdx
    have g2 : Gd μ' (upd H' dx (.own x)) (μ' ++ [x]) (upd (upd H' dx (.own x)) x (.ins (T.cls ci) dx [])) := Gd.snoc h1
    have s2 : Sim T (μ' ++ [x]) (S' ++ [.ins ci []]) (upd (upd H' dx (.own x)) x (.ins (T.cls ci) dx [])) := s1.new h1 ⟨dx, [], upd_same, rfl⟩
    refine ⟨μ' ++ [x], S' ++ [.ins ci []], .ref S'.length :: as, s2, ⟨.ref x, vs, rfl, s1.newRef, r.mono (g1.trans g2)⟩, ?_⟩
    have p2 := Post.go (g1.trans g2) p
    refine Post.asW (W := W) (σv := σ) (Post.bind p2 fun d S2 μ2 H2 v g3 s3 hv p3 => ?_)
    cases d <;> first | exact False.elim p3 | skip
    exact ⟨hv, p3.now s3 (Den.mono g3 _ (s1.newRef (T := T)))⟩
  · exact run_makeS (E := WE W) M F hr hb (passAt tk σ) I1 r q
/-- o.m( *y), y a name -/
theorem sE_methS {G : Prog} {cl : Nat → List D → Sto → R D} {mi i : Nat} {y : Str} {py ps_ : Pos} (he : PE X o (tE T W ea)) (inj : ∀ i j, T.att i = T.att j → i = j)
    (M : ∀ ci f, G.meth ci mi = some f → Cls X.K (T.cls ci) ∧ ∃ g, BMeth X.K (T.cls ci) (T.att mi) g ∧ FnAt X T k g (cl f)) (hr : Room k X.A) (tk : Takes X W) (ho : plainO o = true) (hi : PE X (.Name y py) (tVar i)) (hmm : m = T.att mi) :
    PE X (.Call (.Attribute o m apos) [.Starred (.Name y py) ps_] [] pos) (tE T W fun σ S => (ea σ S).bind fun x S1 => match x with
      | .ref n => match S1[n]? with
        | some (.ins ci fs) => match G.meth ci mi, lookA mi fs with
          | some f, none => match σ[i]? with
            | some (some (.tup ds)) => cl f (.ref n :: ds) S1
            | _ => .bad
          | _, _ => .bad
        | _ => .bad
      | _ => .bad) := by
  subst hmm
  refine ⟨fun pins s σ H Q I ⟨μ, S, σd, sim, ds, post⟩ => ?_⟩
  refine starcall_of (attrBase ho) (run_bind he I sim ds post fun u s1 v H1 d S1 μ1 I1 rx g1 sim1 hd p => ?_)
  cases d <;> first | exact False.elim p | skip
  rename_i n
  simp only at p
  cases e1 : S1[n]? with
  | none => simp only [e1] at p; exact False.elim p
  | some ob =>
    cases ob <;> simp only [e1] at p <;> first | exact False.elim p | skip
    rename_i ci fs
    obtain ⟨a, ev, ea'⟩ := hd
    obtain ⟨dx, vs0, eh, hf⟩ := sim1.ob n _ a e1 ea'
    subst ev
    obtain rfl : u = Value.ref a := rx
    cases e2 : G.meth ci mi with
    | none => simp only [e2] at p; exact False.elim p
    | some f =>
      obtain ⟨hcl, gA, hM, F⟩ := M ci f e2
      rcases hf.look (f := mi) inj with ⟨l1, l2⟩ | ⟨_, _, l1, _, _⟩
      · simp only [e2, l1] at p
        obtain ⟨fd, ps, F, hb, hk⟩ := F
        cases e3 : σd[i]? with
        | none => simp only [e3] at p; exact False.elim p
        | some od =>
          cases od with
          | none => simp only [e3] at p; exact False.elim p
          | some dd =>
            cases dd <;> simp only [e3] at p <;> first | exact False.elim p | skip
            rename_i as
            obtain ⟨z, ez, t, vs, ezt, ht, hvs⟩ := (ds.mono g1).at_ i _ e3
            subst ezt
            refine getbound_ok I1 eh hcl hM l2 fun q1 s2 hq1 I2 => ?_
            refine PySem.W.ks_call (P := PySem.W.MethP X.K q1 gA (.ref a)) rfl (PySem.W.keeps_M hM.fi) (PySem.W.ks_lone ?_)
            have g2 : Gd μ1 H1 μ1 (upd H1 q1 (.met gA a)) := Gd.new hq1
            refine thn (hi.run pins s2 σ _ (fun y H2 => y = .ref t ∧ H2 = upd H1 q1 (.met gA a)) I2 ⟨.ref t, ez, rfl, rfl⟩) fun v s3 ⟨y, H2, I3, ry, ey, eH⟩ => ?_
            subst ey; subst eH
            obtain rfl : v = Value.ref t := ry
            refine star_tup I3 (.of (g2.tup _ _ ht)) fun us s4 I4 rv => ⟨met_P I4 upd_same, ?_⟩
            have sp : spD T (cl f) (.ref a :: vs) (upd H1 q1 (.met gA a)) Q (WE W σ) := ⟨μ1, S1, .ref n :: as, sim1.aside hq1, ⟨.ref a, vs, rfl, ⟨a, rfl, ea'⟩, hvs.mono g2⟩, (Post.go g2 p).asW⟩
            exact wpAny_call (PySem.W.method_call (met_P I4 upd_same).1 (by
              have hl : (Value.ref a :: us).length = ps.length := by
                have z := F.len _ _ _ _ sp
                have z2 := rv.length
                simp at z ⊢
                omega
              have b := hb s4 (Value.ref a :: us) I4.kIn (by rw [List.append_nil]; exact hl)
              rw [List.append_nil] at b
              refine codeAny_mono (F.run X.A X.stack s4 _ ⟨Value.ref a :: us, []⟩ (Value.ref a :: us) (.ref a :: vs) Q (WE W σ) hr I4.env0 b (.cons rfl rv) sp) fun r s' hq => ?_
              cases r with
              | error e => exact passAt tk σ pins _ s4 e s' I4 hq
              | ok fl =>
                cases fl with
                | ret u => exact I4.after hq
                | next => exact False.elim hq
                | brk => exact False.elim hq
                | cont => exact False.elim hq))
      · simp only [e2, l1] at p; exact False.elim p
end
end Pv
end

section
set_option autoImplicit false
set_option linter.all false
set_option maxHeartbeats 4000000
set_option maxRecDepth 10000
/-! Pv11: operators, displays, subscripts, attributes, tests: one lemma a construct. -/
namespace Pv
open PySem L2
section
variable {T : Tb} {W : WX} {X : Cx} {k : Nat} {x m : Str} {p pos apos : Pos} {o a b c : Expr} {es : List Expr} {ea eb ec : Sl → Sto → R D} {el : Sl → Sto → R (List D)} {ta tb tc : Sl → Sto → R Bool}
theorem sE_con {d : D} {v : V} {e : Expr} (h : PE X e (tC v)) (hd : ∀ μ H, Den T μ H d v) : PE X e (tE T W fun _ S => .ok d S) :=
  h.imp fun σ H Q ⟨μ, S, σd, sim, ds, post⟩ => post.now sim (hd μ H)
theorem sE_var {i : Nat} (h : PE X (.Name x p) (tVar i)) : PE X (.Name x p) (tE T W fun σ S => match σ[i]? with
    | some (some d) => .ok d S
    | _ => .bad) :=
  h.imp fun σ H Q ⟨μ, S, σd, sim, ds, post⟩ => by
    cases e : σd[i]? with
    | none => simp only [e] at post; exact False.elim post
    | some od =>
      cases od with
      | none => simp only [e] at post; exact False.elim post
      | some d =>
        simp only [e] at post
        obtain ⟨v, ev, hv⟩ := ds.at_ i d e
        exact ⟨v, ev, post.now sim hv⟩
theorem sE_op2 {e : Expr} {g : D → D → Sto → R D} (h : PE X e (tOp (r2D T g) (tE T W ea) (tE T W eb))) : PE X e (tE T W fun σ S => (ea σ S).bind fun x S1 => (eb σ S1).bind fun y S2 => g x y S2) :=
  h.imp fun σ H Q ⟨μ, S, σd, sim, ds, post⟩ =>
    ⟨μ, S, σd, sim, ds, Post.bind post fun d S1 μ1 H1 v g1 s1 r1 p1 => ⟨μ1, S1, σd, s1, ds.mono g1, Post.bind p1 fun d2 S2 μ2 H2 v2 g2 s2 r2 p2 => ⟨W, σ, μ2, S2, d, d2, s2, r1.mono g2, r2, p2⟩⟩⟩
theorem sE_bin (hK : T.K = X.K) (op : BOp) (ha : PE X a (tE T W ea)) (hb : PE X b (tE T W eb)) : PE X (.BinOp a (toOp op) b pos) (tE T W fun σ S => (ea σ S).bind fun x S1 => (eb σ S1).bind fun y S2 => binop op x y S2) :=
  sE_op2 (pe_op (op_bin hK op) ha hb)
theorem sE_cmp (hK : T.K = X.K) (hu : X.A.units + 64 < cLine) (op : COp) (ha : PE X a (tE T W ea)) (hb : PE X b (tE T W eb)) (hm : behindInMarks (toCmp op) b = false) : PE X (.Compare a [toCmp op] [b] pos) (tE T W fun σ S => (ea σ S).bind fun x S1 => (eb σ S1).bind fun y S2 => cmpop op x y S2) :=
  sE_op2 (pe_cmpR (op_cmp hK hu op) ha hb hm)
theorem sE_chain (hK : T.K = X.K) (hu : X.A.units + 64 < cLine) (o1 o2 : COp) (ha : PE X a (tE T W ea)) (hb : PE X b (tE T W eb)) (hc : PE X c (tE T W ec)) (hm : lastMarks [toCmp o1, toCmp o2] [b, c] = false) : PE X (.Compare a [toCmp o1, toCmp o2] [b, c] pos)
    (tE T W fun σ S => (ea σ S).bind fun x S1 => (eb σ S1).bind fun y S2 => (cmpop o1 x y S2).bind fun z S3 => match z with
      | .bl true => (ec σ S3).bind fun v S4 => cmpop o2 y v S4
      | .bl false => .ok (.bl false) S3
      | _ => .bad) :=
  (pe_chain (op_cmp hK hu o1) (op_cmp hK hu o2) ha hb hc hm).imp fun σ H Q ⟨μ, S, σd, sim, ds, post⟩ =>
    ⟨μ, S, σd, sim, ds, Post.bind post fun d S1 μ1 H1 v g1 s1 r1 p1 => ⟨μ1, S1, σd, s1, ds.mono g1, Post.bind p1 fun d2 S2 μ2 H2 v2 g2 s2 r2 p2 => ⟨W, σ, μ2, S2, d, d2, s2, r1.mono g2, r2, Post.bind p2 fun z S3 μ3 H3 vz g3 s3 rz p3 => by
      cases z <;> first | exact False.elim p3 | skip
      rename_i t
      cases t with
      | true => exact ⟨true, rz, μ3, S3, σd, s3, ((ds.mono g1).mono g2).mono g3, Post.bind p3 fun d4 S4 μ4 H4 v4 g4 s4 r4 p4 => ⟨W, σ, μ4, S4, d2, d4, s4, r2.mono (g3.trans g4), r4, p4⟩⟩
      | false => exact ⟨false, rz, p3.now s3 rfl⟩⟩⟩⟩
/-! ### truth -/
theorem truth_v (hK : T.K = X.K) {μ : List Addr} {H : Hp} {S : Sto} {d : D} {v : V} {t : Bool} (sim : Sim T μ S H) (h : Den T μ H d v) (e : truth S d = some t) : TruV X.K v H t := by
  cases d with
  | non => cases h; cases e; rfl
  | bl b => cases h; cases e; rfl
  | int i => cases h; cases e; rfl
  | str z =>
    cases h
    unfold truth at e
    by_cases c : z.length ≤ sizeLine
    · simp only [if_pos c] at e; cases e; exact ⟨c, rfl⟩
    · simp only [if_neg c] at e; cases e
  | tup xs =>
    obtain ⟨a, vs, ev, ea, hd⟩ := h
    cases e
    subst ev
    refine .inr (.inl ⟨vs, .of ea, ?_⟩)
    cases xs with
    | nil => have z : vs = [] := hd; rw [z]; rfl
    | cons q r => obtain ⟨w, r2, ew, _, _⟩ := hd; rw [ew]; rfl
  | ktup xs =>
    obtain ⟨a, vs, ev, ea, hd⟩ := h
    cases e
    subst ev
    refine .inr (.inl ⟨vs, ktup_sq ea hK, ?_⟩)
    cases xs with
    | nil => have z : vs = [] := hd; rw [z]; rfl
    | cons q r => obtain ⟨w, r2, ew, _, _⟩ := hd; rw [ew]; rfl
  | klst xs => cases e
  | ref n =>
    unfold truth at e
    simp only at e
    cases e1 : S[n]? with
    | none => simp only [e1] at e; cases e
    | some ob =>
      cases ob <;> simp only [e1] at e <;> first | (cases e; done) | skip
      · rename_i xs
        obtain ⟨a, vs, ev, _, ea, hd⟩ := lst_at sim h e1
        cases e
        subst ev
        refine .inl ⟨vs, .of ea, ?_⟩
        cases xs with
        | nil => have z : vs = [] := hd; rw [z]; rfl
        | cons q r => obtain ⟨w, r2, ew, _, _⟩ := hd; rw [ew]; rfl
      · rename_i xs
        obtain ⟨a, vs, ev, ea, hd⟩ := clst_at sim h e1
        cases e
        subst ev
        refine .inl ⟨vs, .inl ea, ?_⟩
        cases xs with
        | nil => have z : vs = [] := hd; rw [z]; rfl
        | cons q r => obtain ⟨w, r2, ew, _, _⟩ := hd; rw [ew]; rfl
      · rename_i xs
        obtain ⟨a, vs, ev, _, ea, hd⟩ := dk_get sim h e1
        cases e
        subst ev
        refine .inr (.inr ⟨vs, ea, ?_⟩)
        cases xs with
        | nil => have z : vs = [] := hd; rw [z]; rfl
        | cons q r => obtain ⟨w, r2, ew, _, _⟩ := hd; rw [ew]; rfl
/-- behind a value's truth -/
theorem post_truth (hK : T.K = X.K) {μ : List Addr} {H : Hp} {σv : L2.St} {Q : Bool → Hp → Prop} {r : R D} (h : Post T eqRel W σv μ H Q r.truth) : Post T (Den T) W σv μ H (fun v H1 => ∃ t, TruV X.K v H1 t ∧ Q t H1) r :=
  Post.bind h fun d S1 μ1 H1 v g1 s1 r1 p1 => by
    cases e : truth S1 d with
    | none => rw [e] at p1; exact False.elim p1
    | some t => rw [e] at p1; exact ⟨t, truth_v hK s1 r1 e, p1.now s1 rfl⟩
theorem sT_truth (hK : T.K = X.K) (ha : PE X a (tE T W ea)) (ht : plainT a = true) : PT X a (tTs T W fun σ S => (ea σ S).truth) :=
  (pt_truth ha (test_truth ht)).imp fun σ H Q ⟨μ, S, σd, sim, ds, post⟩ => ⟨μ, S, σd, sim, ds, post_truth hK post⟩
theorem sE_not (hK : T.K = X.K) (ha : PE X a (tE T W ea)) : PE X (.UnaryOp .Not a pos) (tE T W fun σ S => (ea σ S).truth.bind fun b S1 => .ok (.bl (!b)) S1) :=
  (pe_notT ha).imp fun σ H Q ⟨μ, S, σd, sim, ds, post⟩ => ⟨μ, S, σd, sim, ds, (post_truth hK (Post.bind post (ra := eqRel) fun t S1 μ1 H1 t' g1 s1 r1 p1 => by
    cases r1
    exact (show (fun (t : Bool) (H1 : Hp) => Q (.bl (!t)) H1) t H1 from p1.now s1 rfl)))⟩
theorem sE_and (hK : T.K = X.K) {b : Expr} {rest : List Expr} (ha : PE X a (tE T W ea)) (hb : PE X (.BoolOp .And (b :: rest) pos) (tE T W eb)) : PE X (.BoolOp .And (a :: b :: rest) pos) (tE T W fun σ S => (ea σ S).bind fun x S1 => match truth S1 x with
    | some true => eb σ S1
    | some false => .ok x S1
    | none => .bad) :=
  (pe_andT ha hb).imp fun σ H Q ⟨μ, S, σd, sim, ds, post⟩ => ⟨μ, S, σd, sim, ds, Post.bind post fun d S1 μ1 H1 v g1 s1 r1 p1 => by
    cases e : truth S1 d with
    | none => rw [e] at p1; exact False.elim p1
    | some t =>
      rw [e] at p1
      refine ⟨t, truth_v hK s1 r1 e, ?_⟩
      cases t with
      | true => exact iteT ⟨μ1, S1, σd, s1, ds.mono g1, p1⟩
      | false => exact iteF (p1.now s1 r1)⟩
theorem sE_or (hK : T.K = X.K) {b : Expr} {rest : List Expr} (ha : PE X a (tE T W ea)) (hb : PE X (.BoolOp .Or (b :: rest) pos) (tE T W eb)) : PE X (.BoolOp .Or (a :: b :: rest) pos) (tE T W fun σ S => (ea σ S).bind fun x S1 => match truth S1 x with
    | some false => eb σ S1
    | some true => .ok x S1
    | none => .bad) :=
  (pe_orT ha hb).imp fun σ H Q ⟨μ, S, σd, sim, ds, post⟩ => ⟨μ, S, σd, sim, ds, Post.bind post fun d S1 μ1 H1 v g1 s1 r1 p1 => by
    cases e : truth S1 d with
    | none => rw [e] at p1; exact False.elim p1
    | some t =>
      rw [e] at p1
      refine ⟨t, truth_v hK s1 r1 e, ?_⟩
      cases t with
      | true => exact iteT (p1.now s1 r1)
      | false => exact iteF ⟨μ1, S1, σd, s1, ds.mono g1, p1⟩⟩
theorem sE_ite (hc : PT X c (tTs T W tc)) (ha : PE X a (tE T W ea)) (hb : PE X b (tE T W eb)) : PE X (.IfExp c a b pos) (tE T W fun σ S => (tc σ S).bind fun t S1 => if t = true then ea σ S1 else eb σ S1) :=
  (pe_ifExp hc ha hb).imp fun σ H Q ⟨μ, S, σd, sim, ds, post⟩ => ⟨μ, S, σd, sim, ds, Post.bind post fun t S1 μ1 H1 t' g1 s1 r1 p1 => by
    cases r1
    cases t with
    | true => exact iteT ⟨μ1, S1, σd, s1, ds.mono g1, p1⟩
    | false => exact iteF ⟨μ1, S1, σd, s1, ds.mono g1, p1⟩⟩
/-! ### tests -/
theorem sT_not (ha : PT X a (tTs T W ta)) : PT X (.UnaryOp .Not a pos) (tTs T W fun σ S => (ta σ S).bind fun b S1 => .ok (!b) S1) :=
  (pt_not ha).imp fun σ H Q ⟨μ, S, σd, sim, ds, post⟩ => ⟨μ, S, σd, sim, ds, Post.bind post fun t S1 μ1 H1 t' g1 s1 r1 p1 => by
    cases r1
    exact p1.now s1 rfl⟩
theorem sT_and1 (ha : PT X a (tTs T W ta)) : PW X (.BoolOp .And [a] pos) (tTs T W ta) := pw_and1 ha
theorem sT_or1 (ha : PT X a (tTs T W ta)) : PW X (.BoolOp .Or [a] pos) (tTs T W ta) := pw_or1 ha
theorem sT_and {b : Expr} {rest : List Expr} (ha : PT X a (tTs T W ta)) (hb : PW X (.BoolOp .And (b :: rest) pos) (tTs T W tb)) : PW X (.BoolOp .And (a :: b :: rest) pos) (tTs T W fun σ S => (ta σ S).bind fun x S1 => if x = true then tb σ S1 else .ok false S1) :=
  (pw_and ha hb).imp fun σ H Q ⟨μ, S, σd, sim, ds, post⟩ => ⟨μ, S, σd, sim, ds, Post.bind post fun t S1 μ1 H1 t' g1 s1 r1 p1 => by
    cases r1
    cases t with
    | true => exact iteT ⟨μ1, S1, σd, s1, ds.mono g1, p1⟩
    | false => exact iteF (p1.now s1 rfl)⟩
theorem sT_or {b : Expr} {rest : List Expr} (ha : PT X a (tTs T W ta)) (hb : PW X (.BoolOp .Or (b :: rest) pos) (tTs T W tb)) : PW X (.BoolOp .Or (a :: b :: rest) pos) (tTs T W fun σ S => (ta σ S).bind fun x S1 => if x = true then .ok true S1 else tb σ S1) :=
  (pw_or ha hb).imp fun σ H Q ⟨μ, S, σd, sim, ds, post⟩ => ⟨μ, S, σd, sim, ds, Post.bind post fun t S1 μ1 H1 t' g1 s1 r1 p1 => by
    cases r1
    cases t with
    | true => exact iteT (p1.now s1 rfl)
    | false => exact iteF ⟨μ1, S1, σd, s1, ds.mono g1, p1⟩⟩
theorem ofOpt_bl {o : Option Bool} {S S' : Sto} {d : D} (e : ofOpt o S = .ok d S') : ∃ b, d = .bl b := by
  cases o with
  | none => cases e
  | some b => cases e; exact ⟨b, rfl⟩
theorem cmpop_bl {op : COp} {x y : D} {S S' : Sto} {d : D} (e : cmpop op x y S = .ok d S') : ∃ b, d = .bl b := by
  cases op with
  | eq => exact ofOpt_bl e
  | ne => exact ofOpt_bl e
  | isin => exact ofOpt_bl e
  | notin => exact ofOpt_bl e
  | lt => cases x <;> cases y <;> first | (cases e; done) | (cases e; exact ⟨_, rfl⟩) | exact ofOpt_bl (show ofOpt (ltT _ _) S = R.ok d S' from e)
  | le => cases x <;> cases y <;> first | (cases e; done) | (cases e; exact ⟨_, rfl⟩)
  | gt => cases x <;> cases y <;> first | (cases e; done) | (cases e; exact ⟨_, rfl⟩)
  | ge => cases x <;> cases y <;> first | (cases e; done) | (cases e; exact ⟨_, rfl⟩)
  | isN => cases y <;> first | (cases e; done) | (cases e; exact ⟨_, rfl⟩)
  | notN => cases y <;> first | (cases e; done) | (cases e; exact ⟨_, rfl⟩)
/-- a bool's truth is the bool -/
theorem post_bl {μ : List Addr} {H : Hp} {σv : L2.St} {Q : Bool → Hp → Prop} {r : R D} (hb : ∀ d S', r = .ok d S' → ∃ b, d = .bl b) (h : Post T eqRel W σv μ H Q r.truth) : Post T (Den T) W σv μ H (fun v H1 => ∃ t, v = .bl t ∧ Q t H1) r := by
  cases r with
  | ok d S' =>
    obtain ⟨b, rfl⟩ := hb d S' rfl
    intro μ1 H1 v g1 s1 r1
    cases r1
    exact ⟨b, rfl, h μ1 H1 b g1 s1 rfl⟩
  | exc x S' => exact h
  | bad => exact h
theorem R.bind_truth {α : Type} (r : R α) (f : α → Sto → R D) : (r.bind f).truth = r.bind fun a S => (f a S).truth := by cases r <;> rfl
theorem sT_cmp (hK : T.K = X.K) (hu : X.A.units + 64 < cLine) (op : COp) (ha : PE X a (tE T W ea)) (hb : PE X b (tE T W eb)) (hm : behindInMarks (toCmp op) b = false) : PT X (.Compare a [toCmp op] [b] pos) (tTs T W fun σ S => ((ea σ S).bind fun x S1 => (eb σ S1).bind fun y S2 => cmpop op x y S2).truth) :=
  (pt_cmpR (op_cmp hK hu op) ha hb hm).imp fun σ H Q ⟨μ, S, σd, sim, ds, post⟩ => by
    simp only [R.bind_truth] at post
    refine ⟨μ, S, σd, sim, ds, Post.bind post fun d S1 μ1 H1 v g1 s1 r1 p1 => ?_⟩
    try simp only [R.bind_truth] at p1
    exact ⟨μ1, S1, σd, s1, ds.mono g1, Post.bind p1 fun d2 S2 μ2 H2 v2 g2 s2 r2 p2 => ⟨W, σ, μ2, S2, d, d2, s2, r1.mono g2, r2, post_bl (fun _ _ e => cmpop_bl e) p2⟩⟩
theorem sT_chain (hK : T.K = X.K) (hu : X.A.units + 64 < cLine) (o1 o2 : COp) (ha : PE X a (tE T W ea)) (hb : PE X b (tE T W eb)) (hc : PE X c (tE T W ec)) (hm : lastMarks [toCmp o1, toCmp o2] [b, c] = false) : PT X (.Compare a [toCmp o1, toCmp o2] [b, c] pos)
    (tTs T W fun σ S => ((ea σ S).bind fun x S1 => (eb σ S1).bind fun y S2 => (cmpop o1 x y S2).bind fun z S3 => match z with
      | .bl true => (ec σ S3).bind fun v S4 => cmpop o2 y v S4
      | .bl false => .ok (.bl false) S3
      | _ => .bad).truth) :=
  (pt_chain (op_cmp hK hu o1) (op_cmp hK hu o2) ha hb hc hm).imp fun σ H Q ⟨μ, S, σd, sim, ds, post⟩ => by
    simp only [R.bind_truth] at post
    refine ⟨μ, S, σd, sim, ds, Post.bind post fun d S1 μ1 H1 v g1 s1 r1 p1 => ?_⟩
    try simp only [R.bind_truth] at p1
    refine ⟨μ1, S1, σd, s1, ds.mono g1, Post.bind p1 fun d2 S2 μ2 H2 v2 g2 s2 r2 p2 => ?_⟩
    try simp only [R.bind_truth] at p2
    refine ⟨W, σ, μ2, S2, d, d2, s2, r1.mono g2, r2, Post.bind p2 fun z S3 μ3 H3 vz g3 s3 rz p3 => ?_⟩
    cases z <;> first | exact False.elim p3 | skip
    rename_i t
    cases t with
    | true =>
      have p3' : Post T eqRel W σ μ3 H3 Q (((ec σd S3).bind fun v S4 => cmpop o2 d2 v S4).truth) := p3
      rw [R.bind_truth] at p3'
      exact ⟨true, rz, μ3, S3, σd, s3, ((ds.mono g1).mono g2).mono g3, Post.bind p3' fun d4 S4 μ4 H4 v4 g4 s4 r4 p4 => ⟨W, σ, μ4, S4, d2, d4, s4, r2.mono (g3.trans g4), r4, post_bl (fun _ _ e => cmpop_bl e) p4⟩⟩
    | false => exact ⟨false, rz, false, rfl, Post.now (rel := eqRel) p3 s3 rfl⟩
end
end Pv
end

section
set_option autoImplicit false
set_option linter.all false
set_option maxHeartbeats 4000000
set_option maxRecDepth 10000
/-! Pv12: lists of expressions, displays, subscripts, attributes, built-ins. -/
namespace Pv
open PySem L2
section
variable {T : Tb} {W : WX} {X : Cx} {k : Nat} {x m : Str} {p pos apos : Pos} {o a b c e : Expr} {es : List Expr} {ea eb ec : Sl → Sto → R D} {el : Sl → Sto → R (List D)}
/-! ### lists -/
theorem sL_nil : PA X [] (tLs T W fun _ S => .ok [] S) := pa_nil.imp fun σ H Q ⟨μ, S, σd, sim, ds, post⟩ => post.now sim rfl
theorem sL_cons (ha : PE X a (tE T W ea)) (hr : PA X es (tLs T W el)) (hs : isStar a = false) : PA X (a :: es) (tLs T W fun σ S => (ea σ S).bind fun x S1 => (el σ S1).bind fun xs S2 => .ok (x :: xs) S2) :=
  (pa_cons ha hr (starEach_cons hs)).imp fun σ H Q ⟨μ, S, σd, sim, ds, post⟩ => ⟨μ, S, σd, sim, ds, Post.bind post fun d S1 μ1 H1 v g1 s1 r1 p1 =>
    ⟨μ1, S1, σd, s1, ds.mono g1, Post.bind p1 fun l S2 μ2 H2 vs g2 s2 r2 p2 => p2.now s2 ⟨v, vs, rfl, r1.mono g2, r2⟩⟩⟩
theorem asSeq_sq (hK : T.K = X.K) {μ : List Addr} {H : Hp} {S : Sto} {d : D} {ds : List D} {v : V} (sim : Sim T μ S H) (h : Den T μ H d v) (e : asSeq S d = some ds) : ∃ p xs, v = .ref p ∧ (SqT X.K H p xs ∨ SqL X.K H p xs) ∧ DenL T μ H ds xs := by
  unfold asSeq at e
  cases e1 : asTup d with
  | some ys =>
    rw [e1] at e
    cases e
    obtain ⟨q, xs, ev, hq, hd⟩ := tup_sq hK h e1
    exact ⟨q, xs, ev, .inl hq, hd⟩
  | none =>
    rw [e1] at e
    simp only at e
    cases d <;> first | (cases e; done) | skip
    rename_i n
    unfold asLst at e
    simp only at e
    cases e2 : S[n]? with
    | none => simp only [e2] at e; cases e
    | some ob =>
      cases ob <;> simp only [e2] at e <;> first | (cases e; done) | skip
      · cases e
        obtain ⟨q, xs, ev, _, hq, hd⟩ := lst_at sim h e2
        exact ⟨q, xs, ev, .inr (.of hq), hd⟩
      · cases e
        obtain ⟨q, xs, ev, hq, hd⟩ := clst_at sim h e2
        exact ⟨q, xs, ev, .inr (.inl hq), hd⟩
theorem sL_star (hK : T.K = X.K) (ha : PE X a (tE T W ea)) (hr : PA X es (tLs T W el)) : PA X (.Starred a p :: es) (tLs T W fun σ S => (ea σ S).bind fun x S1 => match asSeq S1 x with
    | some ys => (el σ S1).bind fun xs S2 => .ok (ys ++ xs) S2
    | none => .bad) :=
  (StX.pa_star ha hr).imp fun σ H Q ⟨μ, S, σd, sim, ds, post⟩ => ⟨μ, S, σd, sim, ds, Post.bind post fun d S1 μ1 H1 v g1 s1 r1 p1 => by
    cases e1 : asSeq S1 d with
    | none => rw [e1] at p1; exact False.elim p1
    | some ys =>
      rw [e1] at p1
      obtain ⟨q, xs, ev, hq, hd⟩ := asSeq_sq hK s1 r1 e1
      exact ⟨q, xs, ev, hq, μ1, S1, σd, s1, ds.mono g1, Post.bind p1 fun l S2 μ2 H2 vs g2 s2 r2 p2 => p2.now s2 ((hd.mono g2).append r2)⟩⟩
/-! ### displays -/
theorem sE_tup {x1 : Nat} (h : PA X es (tLs T W el)) : PE X (.Tuple es x1 pos) (tE T W fun σ S => (el σ S).bind fun vs S1 => newTup vs S1) :=
  (pe_tup h).imp fun σ H Q ⟨μ, S, σd, sim, ds, post⟩ => ⟨μ, S, σd, sim, ds, Post.bind post fun l S1 μ1 H1 vs g1 s1 r1 p1 => by
    unfold newTup at p1
    by_cases c : l.length ≤ sizeLine
    · rw [if_pos c] at p1
      exact ⟨by rw [r1.length]; exact c, post_tup s1 p1 r1⟩
    · rw [if_neg c] at p1; exact False.elim p1⟩
theorem sE_lst (h : PA X es (tLs T W el)) : PE X (.List es pos) (tE T W fun σ S => (el σ S).bind fun vs S1 => newLst vs S1) :=
  (pe_lst h).imp fun σ H Q ⟨μ, S, σd, sim, ds, post⟩ => ⟨μ, S, σd, sim, ds, Post.bind post fun l S1 μ1 H1 vs g1 s1 r1 p1 => by
    unfold newLst at p1
    by_cases c : l.length ≤ sizeLine
    · rw [if_pos c] at p1
      exact ⟨by rw [r1.length]; exact c, post_lst s1 p1 r1⟩
    · rw [if_neg c] at p1; exact False.elim p1⟩
theorem sE_dictK : PE X (.Dict [] [] pos) (tE T W fun _ S => alloc (.dK []) S) :=
  pe_dnewK.imp fun σ H Q ⟨μ, S, σd, sim, ds, post⟩ => fun q hq => Post.at (rel := Den T) post (Gd.snoc hq) (sim.new hq ⟨[], upd_same, rfl⟩) sim.newRef
theorem sE_dictT : PE X (.Dict [] [] pos) (tE T W fun _ S => alloc (.dT []) S) :=
  pe_dnewT.imp fun σ H Q ⟨μ, S, σd, sim, ds, post⟩ => fun q hq => Post.at (rel := Den T) post (Gd.snoc hq) (sim.new hq ⟨[], upd_same, rfl⟩) sim.newRef
/-! ### subscripts, slices -/
theorem sE_sub (hK : T.K = X.K) (hu : X.A.units + 1 < cLine) (ha : PE X a (tE T W ea)) (hb : PE X b (tE T W eb)) (hs : isSl b = false) : PE X (.Subscript a b pos) (tE T W fun σ S => (ea σ S).bind fun x S1 => (eb σ S1).bind fun y S2 => subscr x y S2) :=
  sE_op2 (pe_ix (ix_D hK hu) ha hb (plainIx hs))
theorem sO_nil : PO X none (tOs T W fun _ S => .ok none S) := po_none.imp fun σ H Q ⟨μ, S, σd, sim, ds, post⟩ => post.now sim rfl
theorem sO_some (ha : PE X a (tE T W ea)) : PO X (some a) (tOs T W fun σ S => (ea σ S).bind fun x S1 => match x with
    | .int i => .ok (some i) S1
    | _ => .bad) :=
  (po_some ha).imp fun σ H Q ⟨μ, S, σd, sim, ds, post⟩ => ⟨μ, S, σd, sim, ds, Post.bind post fun d S1 μ1 H1 v g1 s1 r1 p1 => by
    cases d <;> first | exact False.elim p1 | skip
    exact ⟨_, r1, p1.now s1 rfl⟩⟩
theorem sE_slice (hK : T.K = X.K) {lo hi : Option Expr} {p2 : Pos} {ol oh : Sl → Sto → R (Option Int)} (ha : PE X a (tE T W ea)) (hl : PO X lo (tOs T W ol)) (hh : PO X hi (tOs T W oh)) : PE X (.Subscript a (.Slice lo hi none p2) pos)
    (tE T W fun σ S => (ea σ S).bind fun x S1 => (ol σ S1).bind fun l S2 => (oh σ S2).bind fun h S3 => sliced x l h S3) :=
  (pe_slice (sl_D hK) ha hl hh).imp fun σ H Q ⟨μ, S, σd, sim, ds, post⟩ => ⟨μ, S, σd, sim, ds, Post.bind post fun d S1 μ1 H1 v g1 s1 r1 p1 => ⟨μ1, S1, σd, s1, ds.mono g1, Post.bind p1 fun l S2 μ2 H2 l' g2 s2 r2 p2 => ⟨μ2, S2, σd, s2, (ds.mono g1).mono g2, Post.bind p2 fun h S3 μ3 H3 h' g3 s3 r3 p3 => by
    cases r2; cases r3
    exact ⟨W, σ, μ3, S3, d, s3, r1.mono (g2.trans g3), p3⟩⟩⟩⟩
theorem sE_rev {k : Nat} {p1 p2 p3 : Pos} (ha : PE X a (tE T W ea)) : PE X (.Subscript a (.Slice none none (some (.UnaryOp .USub (.Constant (.int 1) k p1) p2)) p3) pos) (tE T W fun σ S => (ea σ S).bind fun x S1 => reversed x S1) :=
  (pe_revL ha).imp fun σ H Q ⟨μ, S, σd, sim, ds, post⟩ => ⟨μ, S, σd, sim, ds, Post.bind post fun d S1 μ1 H1 v g1 s1 r1 p1 => by
    cases d <;> first | exact False.elim p1 | skip
    rename_i n
    unfold reversed at p1
    simp only at p1
    cases e1 : S1[n]? with
    | none => simp only [e1] at p1; exact False.elim p1
    | some ob =>
      cases ob <;> simp only [e1] at p1 <;> first | exact False.elim p1 | skip
      obtain ⟨q, vs, ev, _, hq, hd⟩ := lst_at s1 r1 e1
      exact ⟨q, vs, ev, .of hq, post_lst s1 p1 hd.reverse⟩⟩
theorem sE_neg (ha : PE X a (tE T W ea)) : PE X (.UnaryOp .USub a pos) (tE T W fun σ S => (ea σ S).bind fun x S1 => match x with
    | .int i => .ok (.int (-i)) S1
    | _ => .bad) :=
  (pe_un un_neg ha).imp fun σ H Q ⟨μ, S, σd, sim, ds, post⟩ => ⟨μ, S, σd, sim, ds, Post.bind post fun d S1 μ1 H1 v g1 s1 r1 p1 => by
    cases d <;> first | exact False.elim p1 | skip
    exact ⟨_, r1, p1.now s1 rfl⟩⟩
/-! ### attributes -/
theorem sE_attr {G : Prog} {f : Nat} (inj : ∀ i j, T.att i = T.att j → i = j) (hf : ∀ c f, G.flds c f = true → Cls X.K (T.cls c) ∧ NoAttr X.K (T.cls c) (T.att f)) (ha : PE X a (tE T W ea)) (ho : plainO a = true) (hm : m = T.att f) :
    PE X (.Attribute a m pos) (tE T W fun σ S => (ea σ S).bind fun x S1 => getattr G x f S1) := by
  subst hm
  exact (pe_fld ha (attrBase ho)).imp fun σ H Q ⟨μ, S, σd, sim, ds, post⟩ => ⟨μ, S, σd, sim, ds, Post.bind post fun d S1 μ1 H1 v g1 s1 r1 p1 => by
    cases d <;> first | exact False.elim p1 | skip
    rename_i n
    unfold getattr at p1
    simp only at p1
    cases e1 : S1[n]? with
    | none => simp only [e1] at p1; exact False.elim p1
    | some ob =>
      cases ob <;> simp only [e1] at p1 <;> first | exact False.elim p1 | skip
      rename_i c fs
      obtain ⟨q, ev, eq⟩ := r1
      obtain ⟨dx, vs, eh, hfd⟩ := s1.ob n _ q e1 eq
      cases e2 : G.flds c f with
      | false => simp only [e2] at p1; exact False.elim p1
      | true =>
        obtain ⟨h1, h2⟩ := hf c f e2
        rcases hfd.look (f := f) inj with ⟨l1, _⟩ | ⟨d2, v2, l1, l2, l3⟩
        · simp only [e2, l1] at p1; exact False.elim p1
        · simp only [e2, l1] at p1
          exact ⟨q, T.cls c, dx, vs, v2, ev, eh, h1, h2, l2, p1.now s1 l3⟩⟩
/-! ### built-ins -/
theorem biVal_boot (b : BI) : bootBuiltins (Str.ofString (biName b)) = some (biVal b) := by cases b <;> decide +kernel
theorem sE_bi (hK : T.K = X.K) (hc : X.calm = true) (b : BI) (hg : Gl X x) (hm : X.mg x = none) (hx : x = Str.ofString (biName b)) (hn : x ≠ "__name__") (hdb : (x == ("__debug__" : Str)) = false) (hs : isStar a = false) (ha : PA X [a] (tLs T W el)) : PE X (.Call (.Name x p) [a] [] pos) (tE T W fun σ S => (el σ S).bind fun vs S1 => builtin b vs S1) := by
  have hv : bootBuiltins x = some (biVal b) := by rw [hx]; exact biVal_boot b
  have hc' := call_D (T := T) hK hc b
  have i : ∀ σ H Q, tE T W (fun σ S => (el σ S).bind fun vs S1 => builtin b vs S1) σ H Q → tCB (rLD T (builtin b)) (tLs T W el) σ H Q := fun σ H Q ⟨μ, S, σd, sim, ds, post⟩ =>
    ⟨μ, S, σd, sim, ds, Post.bind post fun l S1 μ1 H1 vs g1 s1 r1 p1 => ⟨W, σ, μ1, S1, l, s1, r1, p1⟩⟩
  unfold biVal at hv hc'
  by_cases q : biTy b = true
  · rw [if_pos q] at hv hc'
    exact (pe_callTy hc' hg hm hv ha hn hdb (starEach_cons hs)).imp i
  · rw [if_neg q] at hv hc'
    exact (pe_callB hc' hg hm hv ha hn hdb (starEach_cons hs)).imp i
def bmAtt : BM → String
  | .append => "append" | .pop => "pop" | .extend => "extend" | .reverse => "reverse" | .get => "get"
theorem sE_bm (hu : X.A.units + 1 < cLine) (bmm : BM) (ho : PE X o (tE T W ea)) (hpo : plainO o = true) (hs : es.all (fun e => !isStar e) = true) (hl : es.length < 30) (hline : (apos.endLine == pos.line) = true) (ha : PA X es (tLs T W el)) (hn : es = [] → ∀ σ S, el σ S = .ok [] S) (hm : m = Str.ofString (bmAtt bmm)) :
    PE X (.Call (.Attribute o m apos) es [] pos) (tE T W fun σ S => (ea σ S).bind fun x S1 => if bmRecv bmm x S1 = true then (el σ S1).bind fun vs S2 => bmethod bmm x vs S2 else .bad) := by
  have hM := mt_D (T := T) (X := X) hu bmm
  have i1 : ∀ σ H Q, tE T W (fun σ S => (ea σ S).bind fun x S1 => if bmRecv bmm x S1 = true then (el σ S1).bind fun vs S2 => bmethod bmm x vs S2 else .bad) σ H Q →
      tE T W ea σ H fun v H1 => tyV X.K (bmTy bmm) v H1 ∧ ∃ d μ1 S1 σd, Sim T μ1 S1 H1 ∧ DenS T μ1 H1 σd σ ∧ Den T μ1 H1 d v ∧ Post T (Den T) W σ μ1 H1 Q ((el σd S1).bind fun vs S2 => bmethod bmm d vs S2) := fun σ H Q ⟨μ, S, σd, sim, ds, post⟩ =>
    ⟨μ, S, σd, sim, ds, Post.bind post fun d S1 μ1 H1 v g1 s1 r1 p1 => by
      by_cases c : bmRecv bmm d S1 = true
      · rw [if_pos c] at p1
        exact ⟨recv_ty s1 r1 c, d, μ1, S1, σd, s1, ds.mono g1, r1, p1⟩
      · rw [if_neg c] at p1; exact False.elim p1⟩
  subst hm
  cases es with
  | nil =>
    have e0 : ∀ σ S, el σ S = .ok [] S := hn rfl
    have fin : ∀ σ H Q, tE T W (fun σ S => (ea σ S).bind fun x S1 => if bmRecv bmm x S1 = true then (el σ S1).bind fun vs S2 => bmethod bmm x vs S2 else .bad) σ H Q → tBM0 X.K (bmTy bmm) (rMD T (bmethod bmm)) (tE T W ea) σ H Q := fun σ H Q h => by
      obtain ⟨μ, S, σd, sim, ds, post⟩ := i1 σ H Q h
      refine ⟨μ, S, σd, sim, ds, post.imp fun v H1 ⟨ty, d, μ1, S1, σ1, s1, ds1, r1, p1⟩ => ⟨ty, W, σ, μ1, S1, d, [], s1, r1, rfl, ?_⟩⟩
      rw [e0] at p1
      exact p1
    cases bmm with
    | append => exact (pe_bm0 PySem.F.plainAttrs_list PySem.F.slot_list_append PySem.F.type_list_append hM ho (attrBase hpo) hline).imp fin
    | pop => exact (pe_bm0 PySem.F.plainAttrs_list PySem.F.slot_list_pop PySem.F.type_list_pop hM ho (attrBase hpo) hline).imp fin
    | extend => exact (pe_bm0 PySem.F.plainAttrs_list PySem.F.slot_list_extend PySem.F.type_list_extend hM ho (attrBase hpo) hline).imp fin
    | reverse => exact (pe_bm0 PySem.F.plainAttrs_list PySem.F.slot_list_reverse PySem.F.type_list_reverse hM ho (attrBase hpo) hline).imp fin
    | get => exact (pe_bm0 PySem.F.plainAttrs_dict PySem.F.slot_dict_get PySem.F.type_dict_get hM ho (attrBase hpo) hline).imp fin
  | cons e0 es =>
    have hs' := hs
    rw [List.all_cons, Bool.and_eq_true] at hs'
    have h1 : isStar e0 = false := by simpa using hs'.1
    have fin : ∀ σ H Q, tE T W (fun σ S => (ea σ S).bind fun x S1 => if bmRecv bmm x S1 = true then (el σ S1).bind fun vs S2 => bmethod bmm x vs S2 else .bad) σ H Q → tBM X.K (bmTy bmm) (rMD T (bmethod bmm)) (tE T W ea) (tLs T W el) σ H Q := fun σ H Q h => by
      obtain ⟨μ, S, σd, sim, ds, post⟩ := i1 σ H Q h
      exact ⟨μ, S, σd, sim, ds, post.imp fun v H1 ⟨ty, d, μ1, S1, σ1, s1, ds1, r1, p1⟩ => ⟨ty, μ1, S1, σ1, s1, ds1, Post.bind p1 fun l S2 μ2 H2 vs g2 s2 r2 p2 => ⟨W, σ, μ2, S2, d, l, s2, r1.mono g2, r2, p2⟩⟩⟩
    cases bmm with
    | append => exact (pe_bm PySem.F.plainAttrs_list PySem.F.slot_list_append PySem.F.type_list_append hM ho ha (attrBase hpo) (few_ok hs hl) hline (starEach_cons h1) (noStar_any hs'.2)).imp fin
    | pop => exact (pe_bm PySem.F.plainAttrs_list PySem.F.slot_list_pop PySem.F.type_list_pop hM ho ha (attrBase hpo) (few_ok hs hl) hline (starEach_cons h1) (noStar_any hs'.2)).imp fin
    | extend => exact (pe_bm PySem.F.plainAttrs_list PySem.F.slot_list_extend PySem.F.type_list_extend hM ho ha (attrBase hpo) (few_ok hs hl) hline (starEach_cons h1) (noStar_any hs'.2)).imp fin
    | reverse => exact (pe_bm PySem.F.plainAttrs_list PySem.F.slot_list_reverse PySem.F.type_list_reverse hM ho ha (attrBase hpo) (few_ok hs hl) hline (starEach_cons h1) (noStar_any hs'.2)).imp fin
    | get => exact (pe_bm PySem.F.plainAttrs_dict PySem.F.slot_dict_get PySem.F.type_dict_get hM ho ha (attrBase hpo) (few_ok hs hl) hline (starEach_cons h1) (noStar_any hs'.2)).imp fin
end
end Pv
end

section
set_option autoImplicit false
set_option linter.all false
set_option maxHeartbeats 4000000
set_option maxRecDepth 10000
/-! Pv13: isinstance, what is walked, targets. -/
namespace Pv
open PySem L2
section
variable {T : Tb} {W : WX} {X : Cx} {k : Nat} {x m : Str} {p pos apos : Pos} {o a b c e : Expr} {es : List Expr} {ea eb ec : Sl → Sto → R D} {el : Sl → Sto → R (List D)}
def tyName : Ty → String
  | .int => "int" | .bool => "bool" | .str => "str" | .tuple => "tuple" | .list => "list" | .dict => "dict"
theorem ty_boot (t : Ty) : bootBuiltins (Str.ofString (tyName t)) = some (.type (tyName t)) := by cases t <;> decide +kernel
theorem tyIs_ok {μ : List Addr} {H : Hp} {S : Sto} {d : D} {v : V} {t : Ty} {r : Bool} (sim : Sim T μ S H) (h : Den T μ H d v) (e : tyIs S d t = some r) : ∃ u, TyX X.K H v u ∧ PySem.W.kitOne X.K u (.type (tyName t)) = some r := by
  cases d with
  | non => cases h; cases e; exact ⟨_, .base .non, kit_ty (by cases t <;> decide +kernel)⟩
  | bl b => cases h; cases e; exact ⟨_, .base (.bl b), kit_ty (by cases t <;> decide +kernel)⟩
  | int i => cases h; cases e; exact ⟨_, .base (.int i), kit_ty (by cases t <;> decide +kernel)⟩
  | str z => cases h; cases e; exact ⟨_, .base (.str z), kit_ty (by cases t <;> decide +kernel)⟩
  | tup xs =>
    obtain ⟨q, vs, ev, hq, _⟩ := h
    subst ev
    cases e
    exact ⟨_, .base (.tup hq), kit_ty (by cases t <;> decide +kernel)⟩
  | ktup xs => cases e
  | klst xs => cases e
  | ref n =>
    unfold tyIs at e
    simp only at e
    cases e1 : S[n]? with
    | none => simp only [e1] at e; cases e
    | some ob =>
      cases ob <;> simp only [e1] at e <;> first | (cases e; done) | skip
      · obtain ⟨q, vs, ev, _, hq, _⟩ := lst_at sim h e1
        subst ev
        cases e
        exact ⟨_, .base (.lst hq), kit_ty (by cases t <;> decide +kernel)⟩
      · obtain ⟨q, vs, ev, _, hq, _⟩ := dk_get sim h e1
        subst ev
        cases e
        exact ⟨_, .base (.dK hq), kit_ty (by cases t <;> decide +kernel)⟩
      · obtain ⟨q, vs, ev, _, hq, _⟩ := dt_get sim h e1
        subst ev
        cases e
        exact ⟨_, .base (.dT hq), kit_ty (by cases t <;> decide +kernel)⟩
theorem sE_isi {y : Str} {py : Pos} (t : Ty) (ha : PE X a (tE T W ea)) (hs : isStar a = false) (hg : Gl X "isinstance") (hm : X.mg "isinstance" = none) (hgy : Gl X y) (hmy : X.mg y = none) (hy : y = Str.ofString (tyName t)) (hn : y ≠ "__name__") (hd : (y == ("__debug__" : Str)) = false) :
    PE X (.Call (.Name "isinstance" p) [a, .Name y py] [] pos) (tE T W fun σ S => (ea σ S).bind fun x S1 => ofOpt (tyIs S1 x t) S1) := by
  have hv : bootBuiltins y = some (.type (tyName t)) := by rw [hy]; exact ty_boot t
  have hc : PE X (.Name y py) (tC (.ty (tyName t))) := pe_bltn hgy hmy hv rfl hn hd
  refine (pe_callB call_isi hg hm PyProof.Rows.boot_isinstance (pa_cons ha (pa_cons hc pa_nil) (starEach_cons hs)) (by decide) (by decide) (starEach_cons hs) rfl).imp fun σ H Q ⟨μ, S, σd, sim, ds, post⟩ => ?_
  refine ⟨μ, S, σd, sim, ds, Post.bind post fun d S1 μ1 H1 v g1 s1 r1 p1 => ?_⟩
  obtain ⟨r, er, q⟩ := ofOpt_ok s1 p1
  obtain ⟨u, ty, hk⟩ := tyIs_ok (X := X) s1 r1 er
  exact ⟨v, .ty (tyName t), u, _, r, rfl, .ty _, ty, hk, q⟩
/-! ### what is walked -/
theorem later {μ μ' : List Addr} {H H' : Hp} {S' : Sto} {n : Nat} {a : Addr} {xs : List D} (g : Gd μ H μ' H') (e : μ[n]? = some a) (s : Sim T μ' S' H') (eS : S'[n]? = some (.lst xs)) : ∃ vs, H' a = some (.lst vs) ∧ DenL T μ' H' xs vs := by
  obtain ⟨vs, h, d⟩ := s.ob n _ a eS (g.at e)
  exact ⟨vs, h, d⟩
theorem at_none {s : IS} {i : Nat} {S : Sto} {A : D → Prop} {B : Prop} (h : s.at i S = none) : (∀ d, s.at i S = some (some d) → A d) ∧ (s.at i S = some none → B) := by
  rw [h]
  exact ⟨fun d q => (nomatch q), fun q => (nomatch q)⟩
theorem isR_lst {μ : List Addr} {H : Hp} {n : Nat} {a : Addr} (e : μ[n]? = some a) : IsR T μ H (.lst n) (Itl X.K a) := fun μ1 S1 H1 i g s => by
  have at_eq : ∀ o, S1[n]? = o → (IS.lst n).at i S1 = match o with
    | some (.lst xs) => some xs[i]?
    | some (.clst xs) => some xs[i]?
    | _ => none := fun o ho => by subst ho; rfl
  cases e1 : S1[n]? with
  | none => exact at_none (at_eq _ e1)
  | some ob =>
    have at_eq := at_eq _ e1
    cases ob <;> first | exact at_none at_eq | skip
    · rename_i xs
      rw [at_eq]
      obtain ⟨vs, h, d⟩ := later g e s e1
      refine ⟨fun y q => ?_, fun q => ?_⟩
      · have q' : xs[i]? = some y := Option.some.inj q
        obtain ⟨v, ev, hv⟩ := d.get q'
        refine ⟨⟨vs, v, .of h, ev⟩, fun x H' ⟨eH, hx⟩ => ?_⟩
        subst eH
        have e2 := hx vs (.of h)
        rw [ev] at e2
        cases e2
        exact ⟨Gd.refl _ _, s, hv⟩
      · have q' : xs[i]? = none := Option.some.inj q
        exact ⟨vs, .of h, by rw [d.length]; exact List.getElem?_eq_none_iff.mp q'⟩
    · rename_i xs
      rw [at_eq]
      obtain ⟨vs, h, d⟩ := s.ob n _ a e1 (g.at e)
      refine ⟨fun y q => ?_, fun q => ?_⟩
      · have q' : xs[i]? = some y := Option.some.inj q
        obtain ⟨v, ev, hv⟩ := d.get q'
        refine ⟨⟨vs, v, .inl h, ev⟩, fun x H' ⟨eH, hx⟩ => ?_⟩
        subst eH
        have e2 := hx vs (.inl h)
        rw [ev] at e2
        cases e2
        exact ⟨Gd.refl _ _, s, hv⟩
      · have q' : xs[i]? = none := Option.some.inj q
        exact ⟨vs, .inl h, by rw [d.length]; exact List.getElem?_eq_none_iff.mp q'⟩
/-- a tuple that stands -/
def StT (K : PySem.W.Frag) (H : Hp) (a : Addr) (vs : List V) : Prop := H a = some (.tup vs) ∨ KTup K a vs
theorem isR_tup (hK : T.K = X.K) {μ : List Addr} {H : Hp} {a : Addr} {xs : List D} {vs : List V} (h : StT T.K H a vs) (d : DenL T μ H xs vs) : IsR T μ H (.fix xs) (Itt X.K a) := fun μ1 S1 H1 i g s => by
  have h1 : SqT X.K H1 a vs := by
    rcases h with h | h
    · exact .of (g.tup _ _ h)
    · exact ktup_sq h hK
  refine ⟨fun y q => ?_, fun q => ?_⟩
  · have q' : xs[i]? = some y := Option.some.inj q
    obtain ⟨v, ev, hv⟩ := d.get q'
    refine ⟨⟨vs, v, h1, ev⟩, fun x H' ⟨eH, hx⟩ => ?_⟩
    subst eH
    have e2 := hx vs h1
    rw [ev] at e2
    cases e2
    exact ⟨Gd.refl _ _, s, hv.mono g⟩
  · have q' : xs[i]? = none := Option.some.inj q
    exact ⟨vs, h1, by rw [d.length]; exact List.getElem?_eq_none_iff.mp q'⟩
theorem isR_rng {μ : List Addr} {H : Hp} {lo st : Int} {n : Nat} {J : It} (hg : ∀ i H, i < n → J.go i H) (hs : ∀ i H, n ≤ i → J.stop i H) (hy : ∀ i H x H', J.yld i H x H' → H' = H ∧ x = .int (lo + (i : Nat) * st)) : IsR T μ H (.rng lo st n) J := fun μ1 S1 H1 i g s => by
  have at_eq : (IS.rng lo st n).at i S1 = if i < n then some (some (.int (lo + (i : Int) * st))) else some none := rfl
  rw [at_eq]
  by_cases c : i < n
  · rw [if_pos c]
    refine ⟨fun y q => ?_, fun q => by simp at q⟩
    have q' : D.int (lo + (i : Int) * st) = y := Option.some.inj (Option.some.inj q)
    refine ⟨hg i H1 c, fun x H' z => ?_⟩
    obtain ⟨eH, ex⟩ := hy i H1 x H' z
    subst eH; subst q'; subst ex
    exact ⟨Gd.refl _ _, s, rfl⟩
  · rw [if_neg c]
    exact ⟨fun y q => by simp at q, fun q => hs i H1 (by omega)⟩
/-- e, a list or a tuple -/
theorem sI_walk (hK : T.K = X.K) {tg : Expr} (ha : PE X a (tE T W ea)) : PI X tg a (tIs T W fun σ S => (ea σ S).bind fun d S1 => walkOf d S1) := by
  refine ⟨fun pins s σ H R I h => ?_⟩
  obtain ⟨μ, S, σd, sim, ds, post⟩ := h
  refine run_bind ha I sim ds post fun u s1 v H1 d S1 μ1 I1 rx g1 sim1 hd p => ?_
  have fin : (∃ a, v = .ref a ∧ (∃ xs, SqL X.K H1 a xs) ∧ R (Itl X.K a) H1) ∨ (∃ a, v = .ref a ∧ (∃ xs, SqT X.K H1 a xs) ∧ R (Itt X.K a) H1) := by
    cases d <;> first | exact False.elim p | skip
    · obtain ⟨q, vs, ev, hq, dl⟩ := hd
      exact .inr ⟨q, ev, ⟨vs, .of hq⟩, Post.now (rel := IsR T) p sim1 (isR_tup hK (.inl hq) dl)⟩
    · obtain ⟨q, vs, ev, hq, dl⟩ := hd
      exact .inr ⟨q, ev, ⟨vs, ktup_sq hq hK⟩, Post.now (rel := IsR T) p sim1 (isR_tup hK (.inr hq) dl)⟩
    · rename_i n
      unfold walkOf at p
      simp only at p
      cases e1 : S1[n]? with
      | none => simp only [e1] at p; exact False.elim p
      | some ob =>
        cases ob <;> simp only [e1] at p <;> first | exact False.elim p | skip
        · obtain ⟨q, vs, ev, eq, hq, dl⟩ := lst_at sim1 hd e1
          exact .inl ⟨q, ev, ⟨vs, .of hq⟩, Post.now (rel := IsR T) p sim1 (isR_lst eq)⟩
        · obtain ⟨q, ev, eq⟩ := hd
          obtain ⟨vs, hq, dl⟩ := sim1.ob n _ q e1 eq
          exact .inl ⟨q, ev, ⟨vs, .inl hq⟩, Post.now (rel := IsR T) p sim1 (isR_lst eq)⟩
  rcases fin with ⟨q, ev, ⟨vs, hq⟩, r⟩ | ⟨q, ev, ⟨vs, hq⟩, r⟩
  · subst ev
    obtain rfl : u = Value.ref q := rx
    obtain ⟨its, rv, pl, hz⟩ := I1.list hq
    refine wpAny_pyIter_list pl.isList ?_
    refine ⟨s1.heap.objs.size, [s1.heap.objs.size], _, _, H1, rfl, I1.kept (t' := s1.toks) fun b o e => Heap.get?_push_of_some _ e, turn_list q _, ⟨_, Heap.get?_push_size _ rfl, rfl, rfl⟩, fun b hb => ?_, r⟩
    have e : b = s1.heap.objs.size := by simpa using hb
    subst e
    exact I1.fpOk (Nat.le_refl _) (I1.hok.fresh (Nat.le_refl _))
  · subst ev
    obtain rfl : u = Value.ref q := rx
    obtain ⟨its, rv, pl, hz⟩ := I1.tuple hq
    refine wpAny_pyIter_tuple (show s1.heap.IsTuple q its.toArray from pl) ?_
    refine ⟨s1.heap.objs.size, [s1.heap.objs.size], _, _, H1, rfl, I1.kept (t' := s1.toks) fun b o e => Heap.get?_push_of_some _ e, turn_tuple q _, ⟨_, Heap.get?_push_size _ rfl, rfl, rfl⟩, fun b hb => ?_, r⟩
    have e : b = s1.heap.objs.size := by simpa using hb
    subst e
    exact I1.fpOk (Nat.le_refl _) (I1.hok.fresh (Nat.le_refl _))
end
end Pv
end

section
set_option autoImplicit false
set_option linter.all false
set_option maxHeartbeats 4000000
set_option maxRecDepth 100000
/-! Pv14: enumerate(tuple), and the other things that are walked. -/
namespace Pv
open PySem PySem.Spec PyProof.Rows L2
theorem meets_enum1 {v : Value} {o : Obj} {H : Heap → Prop} (B : Begins v o H) :
    Meets (Builtin.«enumerate.__new__» ⟨[.type "enumerate", v], []⟩) (fun _ R s => H s.heap ∧
      R (.ok (.ret (.ref (s.heap.push o).objs.size))) { s with heap := (s.heap.push o).push { cls := .type "enumerate", data := .fields #[.none, .bool false, .ref s.heap.objs.size, rawInt 0, .none, .none] } }) :=
  .of_wp fun prog w A R s h => by
    obtain ⟨hp, g, d, tk, os⟩ := s
    obtain ⟨h1, h⟩ := h
    have hsub := sub_enumerate
    have q1 : ∀ {A' : Around} {E : Value → Shared → Prop} {Q : Value → Shared → Prop}, Q (.ref hp.objs.size) ⟨hp.push o, g, d, tk, os⟩ → wpAny (model prog w) A' (pyIter v) Q E ⟨hp, g, d, tk, os⟩ :=
      fun q => B.iter prog w _ _ ⟨hp, g, d, tk, os⟩ _ h1 q
    wp_walk using q1
    refine wpAny_stack_any fun st => wpAny_pure ?_
    split
    · rename_i c _ _ _ _ _
      cases (c == Value.type "enumerate")
      · wp_walk using q1
        exact ⟨_, rfl, h⟩
      · wp_walk using q1
        exact ⟨_, rfl, h⟩
    · wp_walk using q1
      exact ⟨_, rfl, h⟩
section
variable {prog : Program} {w : World} {A : Around} {E : Value → Shared → Prop} {s : Shared}
theorem call_enum1 {v : Value} {o : Obj} {H : Heap → Prop} {Q : Value → Shared → Prop} (B : Begins v o H) (h1 : H s.heap)
    (h : ∀ h', IsEnum h' (s.heap.objs.size + 1) s.heap.objs.size 0 .none → h'.get? s.heap.objs.size = some o → (∀ b o, s.heap.get? b = some o → h'.get? b = some o) → Q (.ref (s.heap.objs.size + 1)) { s with heap := h' }) :
    wpAny (model prog w) A (call (.type "enumerate") [v]) Q E s := by
  refine callType_new F.called_enumerate (by decide) (F.typeCall_enumerate_1 _) (F.newCall_enumerate_1 _) (fun obj => F.args_object_init_2 obj _) F.entry_enumerate_new
    (meets_enum1 B) ⟨h1, ?_⟩
  have hz : (s.heap.push o).objs.size = s.heap.objs.size + 1 := Heap.size_push ..
  show _ ∧ _
  rw [hz]
  have he : IsEnum ((s.heap.push o).push { cls := .type "enumerate", data := .fields #[.none, .bool false, .ref s.heap.objs.size, rawInt 0, .none, .none] }) (s.heap.objs.size + 1) s.heap.objs.size 0 .none := by
    have := Heap.get?_push_size (s.heap.push o) (o := { cls := .type "enumerate", data := .fields #[.none, .bool false, .ref s.heap.objs.size, rawInt 0, .none, .none] }) rfl
    rw [hz] at this
    exact this
  exact ⟨⟨_, he, rfl⟩, h _ he (Heap.get?_push_of_some _ (Heap.get?_push_size _ B.free)) fun b o x => Heap.get?_push_of_some _ (Heap.get?_push_of_some _ x)⟩
end
/-- the tuple at a, of n items, each in a new pair -/
def IteT (K : PySem.W.Frag) (a : Addr) (n : Nat) : It :=
  ⟨fun i H => i < n ∧ ∃ (xs : List V) (x : V), SqT K H a xs ∧ xs.length = n ∧ xs[i]? = some x,
   fun i H v H' => ∃ T x, v = .ref T ∧ H T = none ∧ H' = upd H T (.tup [.int (i : Nat), x]) ∧ ∀ xs, SqT K H a xs → xs[i]? = some x,
   fun i H => n ≤ i ∧ ∃ xs : List V, SqT K H a xs ∧ xs.length = n⟩
theorem turn_enumT {P : Program} {w : World} {K : PySem.W.Frag} {elts : List Expr} {kk : Nat} {tpos : Pos} (a e it : Addr) (n : Nat) :
    Turn P w K (.Tuple elts kk tpos) (IteT K a n) [e, it] e (fun i h => (∃ old, IsEnum h e it ((i : Nat) : Int) old) ∧ h.IsTupleIter it a i ∧ e ≠ it ∧ e ≠ a ∧ a ≠ it ∧ i ≤ n) where
  mem := by simp
  obj := fun i h st b hb => by
    obtain ⟨⟨old, he⟩, ⟨o, ho, hc, hd⟩, _⟩ := st
    have e' : b = e ∨ b = it := by simpa using hb
    rcases e' with z | z
    · rw [z]; exact ⟨_, he, fun v q => nomatch q⟩
    · rw [z]; exact ⟨o, ho, fun v q => by rw [hd] at q; cases q⟩
  keep := fun i h h' st k => let ⟨⟨old, he⟩, hi, hne⟩ := st; ⟨⟨old, k e (by simp) _ he⟩, hi.at fun o q => k it (by simp) o q, hne⟩
  item := by
    intro X hP hw hK hc i pins s σ H E I hf st hg
    subst hP hw hK
    obtain ⟨⟨old, he⟩, hit, hne, hea, hai, _⟩ := st
    obtain ⟨hin, xs, x, hq, hz, hx⟩ := hg
    obtain ⟨its, rv, p, _⟩ := I.tuple hq
    obtain ⟨u, hu, ru⟩ := rv.get hx
    have hl := rv.length
    have p' : s.heap.IsTuple a its.toArray := p
    have hel : e < s.heap.objs.size := Heap.lt_size he
    have hil : it < s.heap.objs.size := by obtain ⟨_, q, _⟩ := hit; exact Heap.lt_size q
    refine wpAny_pyNext_enum_itemD (Draws.tuple (A := X.A.in1) (I.ok.hd hc) it a hai its.toArray) he ⟨hit, p'⟩ (by simp only [List.size_toArray]; omega) hne (by simp [hne, hea]) fun x' h' tk hP' ho hit' hT hsz hk => ?_
    have hx' : its.toArray[i]? = some x' := hP'
    have eu : x' = u := by
      have q : its.toArray[i]? = some u := by simpa using hu
      rw [hx'] at q
      exact Option.some.inj q
    subst eu
    refine ⟨_, rfl, wpAny_letOwnedTupleGo_enum (s := { s with heap := h', toks := tk + 1 }) ho fun h'' he' sb => ?_⟩
    have hT2 : h''.get? s.heap.objs.size = some { cls := .type "tuple", data := .seq #[.int i tk, x'] } := (sb.2 _ (Nat.ne_of_gt hel)).trans hT
    have new : ObjOk X.prog X.w (upd H s.heap.objs.size (.tup [.int (i : Nat), x])) h'' s.heap.objs.size (.tup [.int (i : Nat), x]) :=
      ⟨by show 2 ≤ sizeLine; decide, [.int i tk, x'], .cons ⟨_, rfl⟩ (.cons ru .nil), ⟨_, hT2, rfl, _, rfl⟩⟩
    have I1 : Inv X pins σ (upd H s.heap.objs.size (.tup [.int (i : Nat), x])) { s with heap := h'', toks := tk + 1 } :=
      I.turnedNew (ch := [e, it]) (fun b ob hb q => (sb.2 b (fun z => hb (by simp [z]))).trans (hk b ob (fun z => hb (by simp [z])) (fun z => hb (by simp [z])) q)) hf (Nat.le_refl _) new
    refine ⟨.ref s.heap.objs.size, _, I1, rfl, ⟨_, x, rfl, I.hok.fresh (Nat.le_refl _), rfl, fun ys hy => by rw [I.tuple_inj hy hq]; exact hx⟩, ⟨⟨x', ?_⟩, hit'.1.at fun o q => (sb.2 it (Ne.symm hne)).trans q, hne, hea, hai, hin⟩, fun b hb => ?_⟩
    · have e1 : ((i + 1 : Nat) : Int) = (i : Int) + 1 := by omega
      rw [e1]
      exact he'
    · have hb' : b < s.heap.objs.size := by
        have e' : b = e ∨ b = it := by simpa using hb
        rcases e' with z | z
        · rw [z]; exact hel
        · rw [z]; exact hil
      rw [upd_ne (Nat.ne_of_lt hb')]
      exact (hf b hb).1
  done := by
    intro X hP hw hK hc i pins s σ H E I hf st hg
    subst hP hw hK
    obtain ⟨⟨old, he⟩, hit, hne, hea, hai, hle⟩ := st
    obtain ⟨hge, xs, hq, hz⟩ := hg
    obtain ⟨its, rv, p, _⟩ := I.tuple hq
    have p' : s.heap.IsTuple a its.toArray := p
    obtain ⟨f0, f1, f2, f3, f4, f5⟩ := hf it (by simp)
    have hl := rv.length
    have hi : i = its.toArray.size := by simp only [List.size_toArray]; omega
    exact wpAny_pyNext_enum_endD (Draws.tuple (A := X.A.in1) (I.ok.hd hc) it a hai its.toArray) he (hi ▸ ⟨hit, p'⟩) fun h' eb => ⟨rfl, I.turned (t' := s.toks) (fun b o hb e => eb b o hb e) f0 f1 f3 f4 f5⟩
  self := fun A i s Q E st h => let ⟨⟨_, he⟩, _⟩ := st; wpAny_pyIter_enum he h
def iEnumA (K : PySem.W.Frag) (te : TE) : TI := fun σ H R => te σ H fun v H1 => ∃ (a : Addr) (xs : List V), v = .ref a ∧ ((SqL K H1 a xs ∧ R (Ite K a) H1) ∨ (SqT K H1 a xs ∧ R (IteT K a xs.length) H1))
section
variable {X : Cx} {e : Expr} {te : TE} {p pos tpos : Pos} {elts : List Expr} {kk : Nat}
theorem pi_enumA (hg : Gl X "enumerate") (hm : X.mg "enumerate" = none) (he : PE X e te) (hs : starEach [e] X.env = (false, eval e X.env) :: starEach [] X.env := by rfl) :
    PI X (.Tuple elts kk tpos) (.Call (.Name "enumerate" p) [e] [] pos) (iEnumA X.K te) := by
  refine ⟨fun pins s σ H R I h => ?_⟩
  refine Call_ (ld_blt I hg hm boot_enumerate (PyProof.Rows.callWith_type1 (args_cons (thn (he.run pins s σ H _ I h) fun u s1 ⟨v, H1, I1, r1, q1⟩ => args_nil ?_) hs) hs rfl))
  obtain ⟨a, xs, ev, q⟩ := q1
  subst ev
  obtain rfl : u = Value.ref a := r1
  have fpk : ∀ b ∈ [s1.heap.objs.size + 1, s1.heap.objs.size], s1.heap.objs.size ≤ b := fun b hb => by
    have e' : b = s1.heap.objs.size + 1 ∨ b = s1.heap.objs.size := by simpa using hb
    rcases e' with z | z
    · rw [z]; exact Nat.le_add_right _ _
    · rw [z]; exact Nat.le_refl _
  rcases q with ⟨hq, q⟩ | ⟨hq, q⟩
  · obtain ⟨its, rv, p', hz⟩ := I1.list hq
    refine call_enumerate_list p'.isList fun h' he hit hsz hk => wpAny_pyIter_enum he ?_
    have I2 : Inv X pins σ H1 { s1 with heap := h' } := I1.kept (t' := s1.toks) hk
    exact ⟨s1.heap.objs.size + 1, [s1.heap.objs.size + 1, s1.heap.objs.size], _, _, H1, rfl, I2, turn_enum a (s1.heap.objs.size + 1) s1.heap.objs.size, ⟨⟨.none, he⟩, hit, Nat.succ_ne_self _⟩, fun b hb => I1.fpOk (fpk b hb) (I1.hok.fresh (fpk b hb)), q⟩
  · obtain ⟨its, rv, p', hz⟩ := I1.tuple hq
    have p2 : s1.heap.IsTuple a its.toArray := p'
    have hal : a < s1.heap.objs.size := by obtain ⟨_, z, _⟩ := p2; exact Heap.lt_size z
    refine call_enum1 (begins_tuple a its.toArray) p2 fun h' he hit hk => wpAny_pyIter_enum he ?_
    have I2 : Inv X pins σ H1 { s1 with heap := h' } := I1.kept (t' := s1.toks) hk
    exact ⟨s1.heap.objs.size + 1, [s1.heap.objs.size + 1, s1.heap.objs.size], _, _, H1, rfl, I2, turn_enumT a (s1.heap.objs.size + 1) s1.heap.objs.size xs.length, ⟨⟨.none, he⟩, ⟨_, hit, rfl, rfl⟩, Nat.succ_ne_self _, Ne.symm (Nat.ne_of_lt (Nat.lt_succ_of_lt hal)), Nat.ne_of_lt hal, Nat.zero_le _⟩, fun b hb => I1.fpOk (fpk b hb) (I1.hok.fresh (fpk b hb)), q⟩
end
end Pv
end

section
set_option autoImplicit false
set_option linter.all false
set_option maxHeartbeats 4000000
set_option maxRecDepth 10000
/-! Pv15: range, enumerate, reversed; targets. -/
namespace Pv
open PySem L2
section
variable {T : Tb} {W : WX} {X : Cx} {k : Nat} {x m : Str} {p pos apos tpos : Pos} {o a b c e tg : Expr} {es : List Expr} {ea eb ec : Sl → Sto → R D} {el : Sl → Sto → R (List D)}
theorem Post.bindE {α β γ δ : Type} {ra : List Addr → Hp → α → γ → Prop} {rb : List Addr → Hp → β → δ → Prop} {σv : L2.St} {μ : List Addr} {H : Hp} {Q : δ → Hp → Prop} {QA : γ → Hp → Prop} {r : R α} {f : α → Sto → R β}
    (h : Post T rb W σv μ H Q (r.bind f)) (k : ∀ a S' μ' H' c, r = .ok a S' → Gd μ H μ' H' → Sim T μ' S' H' → ra μ' H' a c → Post T rb W σv μ' H' Q (f a S') → QA c H') : Post T ra W σv μ H QA r := by
  cases r with
  | ok a S' => exact fun μ' H' c g s ra' => k a S' μ' H' c rfl g s ra' (Post.go g h)
  | exc x S' => exact h
  | bad => exact h
/-- so many values -/
def LenR (n : Nat) (f : Sl → Sto → R (List D)) : Prop := ∀ σ S l S', f σ S = .ok l S' → l.length = n
theorem sI_range1 (hg : Gl X "range") (hm : X.mg "range" = none) (hs : isStar a = false) (ha : PA X [a] (tLs T W el)) (hl : LenR 1 el) :
    PI X tg (.Call (.Name "range" p) [a] [] pos) (tIs T W fun σ S => (el σ S).bind fun vs S1 => rangeOf vs S1) :=
  (pi_range1 hg hm ha (starEach_cons hs)).imp fun σ H Q ⟨μ, S, σd, sim, ds, post⟩ => ⟨μ, S, σd, sim, ds, Post.bindE post fun l S1 μ1 H1 vs e1 g1 s1 r1 p1 => by
    have h1 := hl _ _ _ _ e1
    match l, h1, r1, p1 with
    | [d], h2, r1, p1 =>
      obtain ⟨v, q, ev, hv, eq⟩ := r1
      have eq : q = [] := eq
      subst ev; subst eq
      cases d <;> first | exact False.elim p1 | skip
      rename_i j
      have ev : v = .int j := hv
      subst ev
      unfold rangeOf at p1
      simp only at p1
      by_cases c : inRange62 j = true
      · rw [if_pos c] at p1
        unfold inRange62 at c
        simp only [Bool.and_eq_true, decide_eq_true_eq] at c
        exact ⟨j, rfl, c.1, c.2, Post.now (rel := IsR T) p1 s1 (isR_rng (fun i H h => h) (fun i H h => h) fun i H x H' y => ⟨y.1, by rw [y.2, Int.mul_one]⟩)⟩
      · rw [if_neg c] at p1; exact False.elim p1⟩
theorem sI_range2 (hg : Gl X "range") (hm : X.mg "range" = none) (hs : isStar a = false) (hs2 : isStar b = false) (ha : PA X [a, b] (tLs T W el)) (hl : LenR 2 el) :
    PI X tg (.Call (.Name "range" p) [a, b] [] pos) (tIs T W fun σ S => (el σ S).bind fun vs S1 => rangeOf vs S1) :=
  (pi_range2 hg hm ha (by rw [starEach_cons hs, starEach_cons hs2]; rfl) (by rw [starEach_cons hs2]; rfl)).imp fun σ H Q ⟨μ, S, σd, sim, ds, post⟩ => ⟨μ, S, σd, sim, ds, Post.bindE post fun l S1 μ1 H1 vs e1 g1 s1 r1 p1 => by
    have h1 := hl _ _ _ _ e1
    match l, h1, r1, p1 with
    | [d, d2], h2, r1, p1 =>
      obtain ⟨v, q, ev, hv, v2, q2, ev2, hv2, eq⟩ := r1
      have eq : q2 = [] := eq
      subst ev; subst ev2; subst eq
      cases d <;> first | exact False.elim p1 | skip
      cases d2 <;> first | exact False.elim p1 | skip
      rename_i i j
      have ev : v = .int i := hv
      have ev2 : v2 = .int j := hv2
      subst ev; subst ev2
      unfold rangeOf at p1
      simp only at p1
      by_cases c : (inRange62 i && inRange62 j) = true
      · rw [if_pos c] at p1
        unfold inRange62 at c
        simp only [Bool.and_eq_true, decide_eq_true_eq] at c
        exact ⟨i, j, rfl, ⟨c.1.1, c.1.2, c.2.1, c.2.2⟩, Post.now (rel := IsR T) p1 s1 (isR_rng (fun i H h => h) (fun i H h => h) fun i H x H' y => ⟨y.1, by rw [y.2, Int.mul_one]⟩)⟩
      · rw [if_neg c] at p1; exact False.elim p1⟩
theorem sI_range3 (hg : Gl X "range") (hm : X.mg "range" = none) (hs : isStar a = false) (hs2 : isStar b = false) (hs3 : isStar c = false) (ha : PA X [a, b, c] (tLs T W el)) (hl : LenR 3 el) :
    PI X tg (.Call (.Name "range" p) [a, b, c] [] pos) (tIs T W fun σ S => (el σ S).bind fun vs S1 => rangeOf vs S1) :=
  (pi_range3 hg hm ha (starEach_cons hs) (noStar_any (by simp [hs2, hs3]))).imp fun σ H Q ⟨μ, S, σd, sim, ds, post⟩ => ⟨μ, S, σd, sim, ds, Post.bindE post fun l S1 μ1 H1 vs e1 g1 s1 r1 p1 => by
    have h1 := hl _ _ _ _ e1
    match l, h1, r1, p1 with
    | [d, d2, d3], h2, r1, p1 =>
      obtain ⟨v, q, ev, hv, v2, q2, ev2, hv2, v3, q3, ev3, hv3, eq⟩ := r1
      have eq : q3 = [] := eq
      subst ev; subst ev2; subst ev3; subst eq
      cases d <;> first | exact False.elim p1 | skip
      cases d2 <;> first | exact False.elim p1 | skip
      cases d3 <;> first | exact False.elim p1 | skip
      rename_i i j st
      have ev : v = .int i := hv
      have ev2 : v2 = .int j := hv2
      have ev3 : v3 = .int st := hv3
      subst ev; subst ev2; subst ev3
      unfold rangeOf at p1
      simp only at p1
      by_cases c : (inRange62 i && inRange62 j) = true ∧ st = -1
      · rw [if_pos c] at p1
        obtain ⟨c, est⟩ := c
        subst est
        unfold inRange62 at c
        simp only [Bool.and_eq_true, decide_eq_true_eq] at c
        exact ⟨i, j, -1, (i - j).toNat, rfl, RgC.neg c.1.1 c.1.2 c.2.1 c.2.2, Post.now (rel := IsR T) p1 s1 (isR_rng (fun i H h => h) (fun i H h => h) fun i H x H' y => ⟨y.1, y.2⟩)⟩
      · rw [if_neg c] at p1; exact False.elim p1⟩
/-! ### enumerate -/
theorem isR_enumL {μ : List Addr} {H : Hp} {n : Nat} {a : Addr} (e : μ[n]? = some a) : IsR T μ H (.enumL n) (Ite X.K a) := fun μ1 S1 H1 i g s => by
  have at_eq : ∀ o, S1[n]? = o → (IS.enumL n).at i S1 = match o with
    | some (.lst xs) => some (xs[i]?.map fun x => D.tup [.int i, x])
    | _ => none := fun o ho => by subst ho; rfl
  cases e1 : S1[n]? with
  | none => exact at_none (at_eq _ e1)
  | some ob =>
    have at_eq := at_eq _ e1
    cases ob <;> first | exact at_none at_eq | skip
    rename_i xs
    rw [at_eq]
    obtain ⟨vs, h, d⟩ := later g e s e1
    refine ⟨fun y q => ?_, fun q => ?_⟩
    · have q := Option.some.inj q
      cases e2 : xs[i]? with
      | none => rw [e2] at q; cases q
      | some z =>
        rw [e2] at q
        have q : D.tup [.int i, z] = y := Option.some.inj q
        subst q
        obtain ⟨v, ev, hv⟩ := d.get e2
        refine ⟨⟨vs, v, .of h, ev⟩, fun x H' ⟨P, v', ex, hP, eH, hx⟩ => ?_⟩
        subst ex; subst eH
        have e3 := hx vs (.of h)
        rw [ev] at e3
        cases e3
        exact ⟨Gd.new hP, s.aside hP, ⟨P, _, rfl, upd_same, .int (i : Nat), [v], rfl, rfl, v, [], rfl, hv.mono (Gd.new hP), rfl⟩⟩
    · have q : xs[i]?.map (fun x => D.tup [.int i, x]) = none := Option.some.inj q
      have q' : xs[i]? = none := by
        cases e2 : xs[i]? with
        | none => rfl
        | some z => rw [e2] at q; cases q
      exact ⟨vs, .of h, by rw [d.length]; exact List.getElem?_eq_none_iff.mp q'⟩
theorem isR_enumT {μ : List Addr} {H : Hp} {a : Addr} {xs : List D} {vs : List V} (h : H a = some (.tup vs)) (d : DenL T μ H xs vs) : IsR T μ H (.enumT xs) (IteT X.K a vs.length) := fun μ1 S1 H1 i g s => by
  have at_eq : (IS.enumT xs).at i S1 = some (xs[i]?.map fun x => D.tup [.int i, x]) := rfl
  have h1 : SqT X.K H1 a vs := .of (g.tup _ _ h)
  rw [at_eq]
  refine ⟨fun y q => ?_, fun q => ?_⟩
  · have q := Option.some.inj q
    cases e2 : xs[i]? with
    | none => rw [e2] at q; cases q
    | some z =>
      rw [e2] at q
      have q : D.tup [.int i, z] = y := Option.some.inj q
      subst q
      obtain ⟨v, ev, hv⟩ := d.get e2
      have hlt : i < vs.length := by
        rcases Nat.lt_or_ge i vs.length with z | z
        · exact z
        · rw [List.getElem?_eq_none_iff.mpr z] at ev; cases ev
      refine ⟨⟨hlt, vs, v, h1, rfl, ev⟩, fun x H' ⟨P, v', ex, hP, eH, hx⟩ => ?_⟩
      subst ex; subst eH
      have e3 := hx vs h1
      rw [ev] at e3
      cases e3
      exact ⟨Gd.new hP, s.aside hP, ⟨P, _, rfl, upd_same, .int (i : Nat), [v], rfl, rfl, v, [], rfl, (hv.mono g).mono (Gd.new hP), rfl⟩⟩
  · have q : xs[i]?.map (fun x => D.tup [.int i, x]) = none := Option.some.inj q
    have q' : xs[i]? = none := by
      cases e2 : xs[i]? with
      | none => rfl
      | some z => rw [e2] at q; cases q
    exact ⟨by rw [d.length]; exact List.getElem?_eq_none_iff.mp q', vs, h1, rfl⟩
theorem sI_enum {elts : List Expr} {kk : Nat} (hg : Gl X "enumerate") (hm : X.mg "enumerate" = none) (hs : isStar a = false) (ha : PE X a (tE T W ea)) :
    PI X (.Tuple elts kk tpos) (.Call (.Name "enumerate" p) [a] [] pos) (tIs T W fun σ S => (ea σ S).bind fun d S1 => enumOf d S1) :=
  (pi_enumA hg hm ha (starEach_cons hs)).imp fun σ H Q ⟨μ, S, σd, sim, ds, post⟩ => ⟨μ, S, σd, sim, ds, Post.bind post fun d S1 μ1 H1 v g1 s1 r1 p1 => by
    cases d <;> first | exact False.elim p1 | skip
    · obtain ⟨q, vs, ev, hq, dl⟩ := r1
      exact ⟨q, vs, ev, .inr ⟨.of hq, Post.now (rel := IsR T) p1 s1 (isR_enumT hq dl)⟩⟩
    · rename_i n
      unfold enumOf at p1
      simp only at p1
      cases e1 : S1[n]? with
      | none => simp only [e1] at p1; exact False.elim p1
      | some ob =>
        cases ob <;> simp only [e1] at p1 <;> first | exact False.elim p1 | skip
        obtain ⟨q, vs, ev, eq, hq, dl⟩ := lst_at s1 r1 e1
        exact ⟨q, vs, ev, .inl ⟨.of hq, Post.now (rel := IsR T) p1 s1 (isR_enumL eq)⟩⟩⟩
/-! ### reversed(tuple) -/
theorem isR_rev {μ : List Addr} {H : Hp} {a : Addr} {xs : List D} {vs : List V} (h : H a = some (.tup vs)) (d : DenL T μ H xs vs) : IsR T μ H (.fix xs.reverse) (RT.ItvT X.K a vs.length) := fun μ1 S1 H1 i g s => by
  have h1 : SqT X.K H1 a vs := .of (g.tup _ _ h)
  have hl := d.length
  have at_eq : (IS.fix xs.reverse).at i S1 = some xs.reverse[i]? := rfl
  rw [at_eq]
  refine ⟨fun y q => ?_, fun q => ?_⟩
  · have q' : xs.reverse[i]? = some y := Option.some.inj q
    have hlt : i < xs.length := by
      rcases Nat.lt_or_ge i xs.length with z | z
      · exact z
      · rw [List.getElem?_eq_none_iff.mpr (by rw [List.length_reverse]; exact z)] at q'; cases q'
    rw [List.getElem?_reverse hlt] at q'
    obtain ⟨v, ev, hv⟩ := d.get q'
    rw [← hl] at ev
    refine ⟨⟨by omega, vs, v, h1, ev⟩, fun x H' ⟨eH, hx⟩ => ?_⟩
    subst eH
    have e2 := hx vs h1
    rw [ev] at e2
    cases e2
    exact ⟨Gd.refl _ _, s, hv.mono g⟩
  · have q' : xs.reverse[i]? = none := Option.some.inj q
    have z := List.getElem?_eq_none_iff.mp q'
    rw [List.length_reverse] at z
    show vs.length ≤ i
    omega
theorem sI_revd (hg : Gl X "reversed") (hm : X.mg "reversed" = none) (hs : isStar a = false) (ha : PE X a (tE T W ea)) :
    PI X tg (.Call (.Name "reversed" p) [a] [] pos) (tIs T W fun σ S => (ea σ S).bind fun d S1 => revdOf d S1) :=
  (RT.pi_revA hg hm ha (starEach_cons hs)).imp fun σ H Q ⟨μ, S, σd, sim, ds, post⟩ => ⟨μ, S, σd, sim, ds, Post.bind post fun d S1 μ1 H1 v g1 s1 r1 p1 => by
    cases d <;> first | exact False.elim p1 | skip
    obtain ⟨q, vs, ev, hq, dl⟩ := r1
    exact ⟨q, vs, ev, .inr ⟨.of hq, Post.now (rel := IsR T) p1 s1 (isR_rev hq dl)⟩⟩⟩
end
end Pv
end

section
set_option autoImplicit false
set_option linter.all false
set_option maxHeartbeats 4000000
set_option maxRecDepth 10000
/-! Pv16: targets. -/
namespace Pv
open PySem L2 PyProof.Rows
section
variable {T : Tb} {W : WX} {X : Cx} {k : Nat} {x m : Str} {p pos apos tpos : Pos} {o a b c e tg : Expr} {es : List Expr} {ea eb ec : Sl → Sto → R D} {el : Sl → Sto → R (List D)} {ws : List Nat}
theorem Keep.refl {ws : List Nat} (σ : L2.St) : Keep ws σ σ := ⟨rfl, fun _ _ => rfl⟩
theorem Keep.trans {ws : List Nat} {σ σ1 σ2 : L2.St} (h : Keep ws σ σ1) (h2 : Keep ws σ1 σ2) : Keep ws σ σ2 := ⟨h2.1.trans h.1, fun j hj => (h2.2 j hj).trans (h.2 j hj)⟩
theorem Keep.set {ws : List Nat} {i : Nat} (hi : i ∈ ws) (σ : L2.St) (v : Option V) : Keep ws σ (σ.set i v) := ⟨List.length_set, fun j hj => by
  by_cases e : j = i
  · subst e; exact absurd hi hj
  · rw [List.getElem?_set_ne (Ne.symm e)]⟩
theorem PostG.go {σv σv' : L2.St} {μ μ' : List Addr} {H H' : Hp} {Q : L2.St → Hp → Prop} (g : Gd μ H μ' H') (kp : Keep ws σv σv') : ∀ {r : R Sl}, PostG T ws σv μ H Q r → PostG T ws σv' μ' H' Q r
  | .ok _ _, h => fun μ2 H2 s g2 sim ds k2 => h μ2 H2 s (g.trans g2) sim ds (kp.trans k2)
  | .exc _ _, h => h
  | .bad, h => h
theorem PostG.bind0 {α γ : Type} {ra : List Addr → Hp → α → γ → Prop} {σv : L2.St} {μ : List Addr} {H : Hp} {Q : L2.St → Hp → Prop} {QA : γ → Hp → Prop} {r : R α} {f : α → Sto → R Sl}
    (h : PostG T ws σv μ H Q (r.bind0 f)) (kk : ∀ d S' μ' H' c, Gd μ H μ' H' → Sim T μ' S' H' → ra μ' H' d c → PostG T ws σv μ' H' Q (f d S') → QA c H') : Post T ra W σv μ H QA r := by
  cases r with
  | ok d S' => exact fun μ' H' c g s rr => kk d S' μ' H' c g s rr (PostG.go g (Keep.refl _) h)
  | exc x S' => exact False.elim h
  | bad => exact h
theorem PostG.seq {σv : L2.St} {μ : List Addr} {H : Hp} {Q Q' : L2.St → Hp → Prop} {r : R Sl} {f : Sl → Sto → R Sl}
    (h : PostG T ws σv μ H Q (r.bind0 f)) (kk : ∀ σ' S' μ' H' σv', Gd μ H μ' H' → Sim T μ' S' H' → DenS T μ' H' σ' σv' → PostG T ws σv' μ' H' Q (f σ' S') → Q' σv' H') : PostG T ws σv μ H Q' r := by
  cases r with
  | ok σ' S' => exact fun μ' H' σv' g s ds kp => kk σ' S' μ' H' σv' g s ds (PostG.go g kp h)
  | exc x S' => exact False.elim h
  | bad => exact h
theorem sG_var {i : Nat} (hN : X.N.Nodup) (hi : X.N[i]? = some x) (hx : Loc X.env.scope x) (hf : X.fn x = true ∨ X.env.scope.names.lookup x = some .local) (hw : i ∈ ws) :
    PG X (.Name x p) (tGd T ws fun d σ S => .ok (σ.set i (some d)) S) :=
  (pg_name hN hi hx hf).imp fun v σv H Q ⟨μ, S, σ, d, sim, ds, hd, post⟩ => post μ H _ (Gd.refl _ _) sim (ds.set i hd) (Keep.set hw _ _)
theorem assign_Sub {i : Expr} {env : Env} (hs : isSl i = false) (v : Value) : assign (.Subscript o i pos) env v = (do
      let ov ← holding [v] (eval o env)
      let iv ← holding [v, ov] (eval i env)
      standAt pos
      holding [v, ov, iv] (setItem ov iv v)
      release [v, ov, iv] []) := by
  rw [arm_assign_Subscript]
  cases i <;> first | rfl | cases hs
theorem sG_sub (hu : X.A.units + 1 < cLine) (ha : PE X a (tE T W ea)) (hb : PE X b (tE T W eb)) (hs : isSl b = false) :
    PG X (.Subscript a b pos) (tGd T ws fun d σ S => (ea σ S).bind0 fun x S1 => (eb σ S1).bind0 fun y S2 => stored σ (setitem x y d S2)) :=
  (pg_sub ha hb (set_D (T := T) hu) (assign_Sub hs)).imp fun v σv H Q ⟨μ, S, σ, d, sim, ds, hd, post⟩ =>
    ⟨μ, S, σ, sim, ds, PostG.bind0 post fun x S1 μ1 H1 xv g1 s1 r1 p1 => ⟨μ1, S1, σ, s1, ds.mono g1, PostG.bind0 p1 fun y S2 μ2 H2 yv g2 s2 r2 p2 => by
      cases e : setitem x y d S2 with
      | none => rw [e] at p2; exact False.elim p2
      | some S' =>
        rw [e] at p2
        exact ⟨μ2, S2, S', x, y, d, s2, r1.mono g2, r2, (hd.mono g1).mono g2, e, fun μ3 H3 g3 s3 => p2 μ3 H3 σv g3 s3 (((ds.mono g1).mono g2).mono g3) (Keep.refl _)⟩⟩⟩
theorem sG_attr {G : Prog} {f : Nat} (inj : ∀ i j, T.att i = T.att j → i = j) (hf : ∀ c f, G.flds c f = true → Cls X.K (T.cls c) ∧ NoAttr X.K (T.cls c) (T.att f)) (ha : PE X a (tE T W ea)) (hm : m = T.att f) :
    PG X (.Attribute a m pos) (tGd T ws fun d σ S => (ea σ S).bind0 fun x S1 => stored σ (setattr G x f d S1)) := by
  subst hm
  refine ⟨fun pins s σv H v u Q I r ⟨μ, S, σ, d, sim, ds, hd, post⟩ => ?_⟩
  rw [PySem.assign_Attribute]
  refine wpAny_bind (wpAny_holding (thn (ha.run pins s σv H (fun xv H1 => ∃ x S1 μ1, Gd μ H μ1 H1 ∧ Sim T μ1 S1 H1 ∧ Den T μ1 H1 x xv ∧ PostG T ws σv μ1 H1 Q (stored σ (setattr G x f d S1))) I
    ⟨μ, S, σ, sim, ds, PostG.bind0 post fun x S1 μ1 H1 xv g1 s1 r1 p1 => ⟨x, S1, μ1, g1, s1, r1, p1⟩⟩) fun ov s1 ⟨xv, H1, I1, r1, x, S1, μ1, g1, sim1, hx, p1⟩ => ?_))
  refine wpAny_bind (wpAny_standAt (wpAny_bind (wpAny_holding ?_)))
  cases x <;> first | exact False.elim p1 | skip
  rename_i n
  unfold setattr at p1
  simp only at p1
  cases e1 : S1[n]? with
  | none => simp only [e1] at p1; exact False.elim p1
  | some ob =>
    cases ob <;> simp only [e1] at p1 <;> first | exact False.elim p1 | skip
    rename_i cI fs
    obtain ⟨q, ev, eq⟩ := hx
    obtain ⟨dx, vs, eh, hfd⟩ := sim1.ob n _ q e1 eq
    subst ev
    obtain rfl : ov = Value.ref q := r1
    by_cases cc : G.flds cI f = true ∧ fs.length < 1000
    · rw [if_pos cc] at p1
      obtain ⟨h1, h2⟩ := hf cI f cc.1
      have nt : NoTup H1 q := noTup_ins eh
      refine setattr_ok I1 eh h1 h2 (by rw [hfd.length]; exact cc.2) r fun s2 I2 => wpAny_release ⟨σv, _, I2, ?_⟩
      refine p1 μ1 _ σv (Gd.upd nt) (sim1.upd eq nt ⟨dx, _, upd_same, ?_⟩) ((ds.mono g1).mono (Gd.upd nt)) (Keep.refl _)
      exact FD.put inj ((hd.mono g1).mono (Gd.upd nt)) (hfd.mono (Gd.upd nt))
    · rw [if_neg cc] at p1; exact False.elim p1
/-! ### several -/
theorem sGs_nil {eg : List D → Sl → Sto → R Sl} (h : ∀ ds σ S, eg ds σ S = match ds with | [] => .ok σ S | _ => .bad) : PGs X [] (tGsd T ws eg) :=
  pgs_nil.imp fun vs σv H Q ⟨μ, S, σ, ds, sim, hs, hd, post⟩ => by
    rw [h] at post
    cases ds with
    | nil => exact ⟨hd, post μ H σv (Gd.refl _ _) sim hs (Keep.refl _)⟩
    | cons d r => exact False.elim post
theorem sGs_cons {e1 : D → Sl → Sto → R Sl} {eg er : List D → Sl → Sto → R Sl} (h : ∀ ds σ S, eg ds σ S = match ds with | d :: r => (e1 d σ S).bind0 fun σ1 S1 => er r σ1 S1 | _ => .bad)
    (ht : PG X tg (tGd T ws e1)) (hr : PGs X es (tGsd T ws er)) (hs : isStar tg = false) : PGs X (tg :: es) (tGsd T ws eg) :=
  (pgs_cons ht hr (assign_map hs)).imp fun vs σv H Q ⟨μ, S, σ, ds, sim, hs, hd, post⟩ => by
    rw [h] at post
    cases ds with
    | nil => exact False.elim post
    | cons d r =>
      obtain ⟨v, q, ev, hv, hq⟩ := hd
      exact ⟨v, q, ev, μ, S, σ, d, sim, hs, hv, PostG.seq post fun σ1 S1 μ1 H1 σv1 g1 s1 ds1 p1 => ⟨μ1, S1, σ1, r, s1, ds1, hq.mono g1, p1⟩⟩
theorem sG_tup {kt : Nat} {eg : List D → Sl → Sto → R Sl} (hK : T.K = X.K) (hc : X.calm = true) (h : PGs X es (tGsd T ws eg)) (hs : es.all (fun e => !isStar e) = true) (hl : ∀ ds σ S, ds.length ≠ es.length → eg ds σ S = .bad) :
    PG X (.Tuple es kt pos) (tGd T ws fun d σ S => match asSeq S d with
      | some ds => eg ds σ S
      | none => .bad) := by
  refine ⟨fun pins s σv H v u Q I r ⟨μ, S, σ, d, sim, hds, hd, post⟩ => ?_⟩
  cases e : asSeq S d with
  | none => simp only [e] at post; exact False.elim post
  | some ds =>
    simp only [e] at post
    obtain ⟨q, xs, ev, hq, hx⟩ := asSeq_sq hK sim hd e
    have hlen : xs.length = es.length := by
      rw [hx.length]
      rcases Nat.decEq ds.length es.length with z | z
      · rw [hl _ _ _ z] at post; exact False.elim post
      · exact z
    have go : tGsd T ws eg xs σv H Q := ⟨μ, S, σ, ds, sim, hds, hx, post⟩
    rcases hq with hq | hq
    · exact (pg_tup (pos := pos) (k := kt) hc h (assign_len hs) (assign_nost hs)).run pins s σv H v u Q I r ⟨q, xs, ev, hq, hlen, go⟩
    · exact (pg_unl (pos := pos) (k := kt) hc h (assign_len hs) (assign_nost hs)).run pins s σv H v u Q I r ⟨q, xs, ev, hq, hlen, go⟩
end
end Pv
end

section
set_option autoImplicit false
set_option linter.all false
set_option maxHeartbeats 4000000
set_option maxRecDepth 10000
/-! Pv17: list comprehensions; displays of dicts. -/
namespace Pv
open PySem L2 PyProof.Rows
section
variable {T : Tb} {W : WX} {X : Cx} {k : Nat} {x m : Str} {p pos apos tpos : Pos} {o a b c e tg elt iter : Expr} {es ifs : List Expr} {ea eb ec : Sl → Sto → R D} {el : Sl → Sto → R (List D)} {vs : List Nat}
/-- no display of a set -/
def notSetE : Expr → Bool
  | .Set .. => false
  | _ => true
theorem folded_of {e : Expr} {env : Env} (h : notSetE e = true) : ∀ x, foldedSetIterable e env x = pure x := folded_no (by cases e <;> first | rfl | cases h)
theorem wipe_at (σ : L2.St) (j : Nat) : ∀ vs : List Nat, (wipe σ vs)[j]? = if j ∈ vs then (if j < σ.length then some none else none) else σ[j]?
  | [] => by simp [wipe]
  | v :: vs => by
    unfold wipe
    have ih := wipe_at σ j vs
    by_cases e : j = v
    · subst e
      rw [if_pos List.mem_cons_self]
      by_cases h : j < σ.length
      · rw [if_pos h, List.getElem?_set_self (by rw [wipe_length]; exact h)]
      · rw [if_neg h, List.getElem?_eq_none_iff]
        rw [List.length_set, wipe_length]
        omega
    · rw [List.getElem?_set_ne (Ne.symm e), ih]
      by_cases h : j ∈ vs
      · rw [if_pos h, if_pos (List.mem_cons_of_mem _ h)]
      · rw [if_neg h, if_neg (by simp [e, h])]
theorem wipe_keep {σ σ' : L2.St} (h : Keep vs (wipe σ vs) σ') : wipe σ' vs = wipe σ vs := by
  have hl : σ'.length = σ.length := by rw [h.1, wipe_length]
  apply List.ext_getElem?
  intro j
  rw [wipe_at, wipe_at]
  by_cases c : j ∈ vs
  · rw [if_pos c, if_pos c, hl]
  · rw [if_neg c, if_neg c, h.2 j c, wipe_at, if_neg c]
/-- nothing may be raised -/
abbrev W0 : WX := fun _ _ _ _ => False
theorem sK_nil : PTs X [] (tTs T W fun _ S => .ok true S) := ⟨fun pins s σ H Q I h => by
  obtain ⟨μ, S, σd, sim, ds, post⟩ := h
  exact pts_nil.run pins s σ H Q I (Post.now (rel := eqRel) post sim rfl)⟩
theorem sK_one {tt : Sl → Sto → R Bool} (h : PT X c (tTs T W tt)) : PTs X [c] (tTs T W tt) := pts_one h
def turnC (eg : D → Sl → Sto → R Sl) (ek : Sl → Sto → R Bool) (ee : Sl → Sto → R D) (σ : Sl) (vs : List Nat) : D → Sto → R (Option D) := fun d S2 => match eg d (wipeD σ vs) S2 with
        | .ok σ2 S3 => match ek σ2 S3 with
          | .ok true S4 => match ee σ2 S4 with
            | .ok y S5 => .ok (some y) S5
            | _ => .bad
          | .ok false S4 => .ok none S4
          | _ => .bad
        | _ => .bad
theorem sE_compT {w : Nat} (h0 : T.hold = []) {ei : Sl → Sto → R IS} {eg : D → Sl → Sto → R Sl} {ek : Sl → Sto → R Bool} {ee : Sl → Sto → R D} {σv : L2.St} {H : Hp} {Q : VK}
    (h : tE T W (fun σ S => (ei σ S).bind fun src S1 => loopC src S1.length (turnC eg ek ee σ vs) w 0 (S1 ++ [.lst []])) σv H Q) :
    tLc (tIs T W ei) (tGd T vs eg) (tTs T W0 ek) (tE T W0 ee) vs σv H Q := by
  obtain ⟨μ, S, σ, sim, ds, post⟩ := h
  refine ⟨μ, S, σ, sim, ds, Post.bind post fun src S1 μ1 H1 J g1 s1 isr p1 => fun Da hD => ?_⟩
  have ds1 := ds.mono g1
  have gN : Gd μ1 H1 (μ1 ++ [Da]) (L2.upd H1 Da (.lst [])) := Gd.snoc hD
  have sN : Sim T (μ1 ++ [Da]) (S1 ++ [.lst []]) (L2.upd H1 Da (.lst [])) := s1.new hD ⟨[], upd_same, rfl⟩
  have eN : (μ1 ++ [Da])[S1.length]? = some Da := by
    rw [← s1.len]
    exact List.getElem?_concat_length
  refine ⟨fun i m H' => ∃ μ' S', Gd (μ1 ++ [Da]) (L2.upd H1 Da (.lst [])) μ' H' ∧ Sim T μ' S' H' ∧ Post T (Den T) W σv μ' H' Q (loopC src S1.length (turnC eg ek ee σ vs) m i S'), ⟨w, μ1 ++ [Da], S1 ++ [.lst []], Gd.refl _ _, sN, Post.go gN p1⟩, ?_⟩
  rintro i m H2 ⟨μ2, S2, g2, s2, p2⟩
  cases m with
  | zero => exact False.elim p2
  | succ m =>
    obtain ⟨c1, c2⟩ := isr μ2 S2 H2 i (gN.trans g2) s2
    unfold loopC at p2
    cases e1 : src.at i S2 with
    | none => simp only [e1] at p2; exact False.elim p2
    | some od =>
      cases od with
      | none =>
        simp only [e1] at p2
        exact .inl ⟨c2 e1, Post.now (rel := Den T) p2 s2 ⟨Da, rfl, g2.at eN⟩⟩
      | some d =>
        simp only [e1] at p2
        obtain ⟨go, yl⟩ := c1 d e1
        refine .inr ⟨go, fun H' => ∃ μ' S', Gd (μ1 ++ [Da]) (L2.upd H1 Da (.lst [])) μ' H' ∧ Sim T μ' S' H' ∧ Post T (Den T) W σv μ' H' Q (loopC src S1.length (turnC eg ek ee σ vs) m (i + 1) S'), fun H' hN => ⟨m, Nat.lt_succ_self m, hN⟩, fun x H3 hy => ?_⟩
        obtain ⟨g3, s3, hd⟩ := yl x H3 hy
        have p3 := Post.go g3 p2
        have gA := g2.trans g3
        unfold turnC at p3
        refine ⟨μ2, S2, wipeD σ vs, d, s3, ((ds1.mono gN).mono gA).wipe h0 vs, hd, ?_⟩
        cases e2 : eg d (wipeD σ vs) S2 with
        | exc x S => simp only [e2] at p3; exact False.elim p3
        | bad => simp only [e2] at p3; exact False.elim p3
        | ok σ4 S4 =>
          simp only [e2] at p3
          refine fun μ4 H4 σv4 g4 s4 ds4 kp => ⟨wipe_keep kp, μ4, S4, σ4, s4, ds4, ?_⟩
          have p4 := Post.go g4 p3
          cases e3 : ek σ4 S4 with
          | exc x S => simp only [e3] at p4; exact False.elim p4
          | bad => simp only [e3] at p4; exact False.elim p4
          | ok t S5 =>
            intro μ5 H5 b g5 s5 eb
            have p5 := Post.go g5 p4
            have eb : b = t := eb
            subst eb
            cases b with
            | false =>
              simp only [e3] at p5
              exact ⟨μ5, S5, (gA.trans g4).trans g5, s5, p5⟩
            | true =>
              simp only [e3] at p5
              refine ⟨μ5, S5, σ4, s5, ds4.mono g5, ?_⟩
              cases e4 : ee σ4 S5 with
              | exc x S => simp only [e4] at p5; exact False.elim p5
              | bad => simp only [e4] at p5; exact False.elim p5
              | ok y S6 =>
                intro μ6 H6 yv g6 s6 hy6
                have p6 := Post.go g6 p5
                simp only [e4] at p6
                have gB := (((gA.trans g4).trans g5).trans g6)
                have eq : μ6[S1.length]? = some Da := gB.at eN
                cases e5 : S6[S1.length]? with
                | none => simp only [e5] at p6; exact False.elim p6
                | some ob =>
                  cases ob <;> simp only [e5] at p6 <;> first | exact False.elim p6 | skip
                  rename_i acc
                  by_cases cc : acc.length < sizeLine
                  · rw [if_pos cc] at p6
                    obtain ⟨xs, hx, hdl⟩ := s6.ob _ _ _ e5 eq
                    refine ⟨xs, hx, by rw [hdl.length]; exact cc, μ6, _, gB.trans (Gd.upd (noTup_lst hx)), s6.upd (ob := .lst (acc ++ [y])) eq (noTup_lst hx) ⟨_, upd_same, (hdl.snoc hy6).mono (Gd.upd (noTup_lst hx))⟩, Post.go (Gd.upd (noTup_lst hx)) p6⟩
                  · rw [if_neg cc] at p6; exact False.elim p6
  
theorem sE_comp (h0 : T.hold = []) {w : Nat} {scope : Scope} {own : List (Str × Nat)} {ei : Sl → Sto → R IS} {eg : D → Sl → Sto → R Sl} {ek : Sl → Sto → R Bool} {ee : Sl → Sto → R D} (hc : X.calm = true) (hN : X.N.Nodup)
    (hi : PI X tg iter (tIs T W ei)) (ok : BlkOk X.N X.env.scope scope own)
    (hg : ∀ (s : Shared) (H : Hp) (C : Addr) (cl : List (Str × Addr)) (fp : List Addr), PG (X.blk s H scope (compEnvC scope cl C X.env) fp) tg (tGd T (own.map (·.2)) eg))
    (ht : ∀ (s : Shared) (H : Hp) (C : Addr) (cl : List (Str × Addr)) (fp : List Addr), PTs (X.blk s H scope (compEnvC scope cl C X.env) fp) ifs (tTs T W0 ek))
    (he : ∀ (s : Shared) (H : Hp) (C : Addr) (cl : List (Str × Addr)) (fp : List Addr), PE (X.blk s H scope (compEnvC scope cl C X.env) fp) elt (tE T W0 ee)) (hf : notSetE iter = true) :
    PE X (.ListComp elt [⟨tg, iter, ifs, 0⟩] scope pos) (tE T W fun σ S => (ei σ S).bind fun src S1 => loopC src S1.length (turnC eg ek ee σ (own.map (·.2))) w 0 (S1 ++ [.lst []])) :=
  (pe_lc hc hN hi ok hg ht he (folded_of hf)).imp fun σ H Q h => sE_compT h0 h
/-! ### displays of dicts -/
def PPd (T : Tb) (W : WX) (X : Cx) (pos : Pos) (keys : List (Option Expr)) (values : List Expr) (ed : Nat → List (Key × D) → Sl → Sto → R D) : Prop :=
  ∃ trs, PPs X pos keys values trs ∧ ∀ (n : Nat) (acc : List (Key × D)) (accv : List (Key × V)) (q : Addr) (σv : L2.St) (μ : List Addr) (S : Sto) (H : Hp) (σ : Sl) (Q : VK), Sim T μ S H → DenS T μ H σ σv → μ[n]? = some q → KD T μ H acc accv →
    Post T (Den T) W σv μ H Q (ed n acc σ S) → ∀ Qp : List (V × V) → Hp → Prop, (∀ ps H2, (H2 q = some (.dK []) ∧ ∃ kvs : List (Key × V), ps = kvs.map (fun kv => (kV kv.1, kv.2)) ∧ (accv ++ kvs).length ≤ 15 ∧ Q (.ref q) (upd H2 q (.dK (mergeK [] (accv ++ kvs))))) → Qp ps H2) → tPairs trs σv H Qp
theorem KD.foldP {μ : List Addr} {H : Hp} : ∀ {l : List (Key × D)} {vs : List (Key × V)} {l0 : List (Key × D)} {v0 : List (Key × V)}, KD T μ H l vs → KD T μ H l0 v0 → KD T μ H (l.foldl (fun a p => putA p.1 p.2 a) l0) (mergeK v0 vs)
  | [], vs, l0, v0, h, h0 => by
    have h : vs = [] := h
    subst h
    exact h0
  | p :: r, vs, l0, v0, h, h0 => by
    obtain ⟨v, q, ev, hv, hr⟩ := h
    subst ev
    exact KD.foldP (l := r) (vs := q) hr (KD.put hv h0)
theorem sP_nil : PPd T W X pos [] [] fun n acc _ S => match S[n]? with
    | some (.dK []) => if acc.length ≤ 15 then .ok (.ref n) (S.set n (.dK (acc.foldl (fun a p => putA p.1 p.2 a) []))) else .bad
    | _ => .bad :=
  ⟨[], pps_nil, fun n acc accv q σv μ S H σ Q sim ds eq hk post Qp imp => by
    cases e : S[n]? with
    | none => simp only [e] at post; exact False.elim post
    | some ob =>
      cases ob <;> simp only [e] at post <;> first | exact False.elim post | skip
      rename_i kvs
      cases kvs with
      | cons _ _ => exact False.elim post
      | nil =>
        by_cases c : acc.length ≤ 15
        · have post : Post T (Den T) W σv μ H Q (.ok (.ref n) (S.set n (.dK (acc.foldl (fun a p => putA p.1 p.2 a) [])))) := by
            simpa only [if_pos c] using post
          obtain ⟨vs, hv, hkd⟩ := sim.ob n _ q e eq
          have hkd : vs = [] := hkd
          subst hkd
          refine imp _ _ ⟨hv, [], rfl, by rw [List.append_nil, hk.length]; exact c, ?_⟩
          rw [List.append_nil]
          have g := Gd.upd (μ := μ) (o := .dK (mergeK [] accv)) (noTup_dK hv)
          exact Post.at (rel := Den T) post g (sim.upd eq (noTup_dK hv) ⟨_, upd_same, KD.foldP (hk.mono g) rfl⟩) ⟨q, rfl, eq⟩
        · simp only [if_neg c] at post; exact False.elim post⟩
theorem sP_cons {keys : List (Option Expr)} {values : List Expr} {ed : Nat → List (Key × D) → Sl → Sto → R D} (ha : PE X a (tE T W ea)) (hb : PE X b (tE T W eb)) (hr : PPd T W X pos keys values ed) :
    PPd T W X pos (some a :: keys) (b :: values) fun n acc σ S => (ea σ S).bind fun x S1 => (eb σ S1).bind fun y S2 => match keyOf x with
      | some key => ed n (acc ++ [(key, y)]) σ S2
      | none => .bad := by
  obtain ⟨trs, hp, hk⟩ := hr
  refine ⟨(tE T W ea, tE T W eb) :: trs, pps_cons ha hb hp, fun n acc accv q σv μ S H σ Q sim ds eq hacc post Qp imp => ?_⟩
  refine ⟨μ, S, σ, sim, ds, Post.bind post fun x S1 μ1 H1 xv g1 s1 r1 p1 => ⟨μ1, S1, σ, s1, ds.mono g1, Post.bind p1 fun y S2 μ2 H2 yv g2 s2 r2 p2 => ?_⟩⟩
  cases e : keyOf x with
  | none => simp only [e] at p2; exact False.elim p2
  | some key =>
    simp only [e] at p2
    have ex : xv = kV key := keyOf_den r1 e
    subst ex
    refine hk n (acc ++ [(key, y)]) (accv ++ [(key, yv)]) q σv μ2 S2 H2 σ Q s2 ((ds.mono g1).mono g2) ((g1.trans g2).at eq) (KD.snoc r2 (hacc.mono (g1.trans g2))) p2 _ ?_
    rintro ps H3 ⟨h1, kvs, eps, hl, hq⟩
    refine imp _ _ ⟨h1, (key, yv) :: kvs, by rw [eps]; rfl, ?_, ?_⟩
    · rw [List.append_assoc] at hl; exact hl
    · rw [List.append_assoc] at hq; exact hq
theorem sE_disp {keys : List (Option Expr)} {values : List Expr} {ed : Nat → List (Key × D) → Sl → Sto → R D} (h : PPd T W X pos keys values ed) (hall : keys.all (·.isSome) = true) (hl : keys.length = values.length) (h0 : keys ≠ []) (h15 : keys.length ≤ 15) :
    PE X (.Dict keys values pos) (tE T W fun σ S => ed S.length [] σ (S ++ [.dK []])) := by
  obtain ⟨trs, hp, hk⟩ := h
  refine (pe_disp hp hall hl h0 h15).imp fun σv H Q ⟨μ, S, σ, sim, ds, post⟩ => fun q hq => ?_
  have g : Gd μ H (μ ++ [q]) (L2.upd H q (.dK [])) := Gd.snoc hq
  have s1 : Sim T (μ ++ [q]) (S ++ [.dK []]) (L2.upd H q (.dK [])) := sim.new hq ⟨[], upd_same, rfl⟩
  refine hk S.length [] [] q σv (μ ++ [q]) _ _ σ Q s1 (ds.mono g) (by rw [← sim.len]; exact List.getElem?_concat_length) rfl (Post.go g post) _ ?_
  rintro ps H2 ⟨h1, kvs, eps, h2, h3⟩
  exact ⟨h1, kvs, eps, h2, h3⟩
end
end Pv
end

section
set_option autoImplicit false
set_option linter.all false
set_option maxHeartbeats 4000000
set_option maxRecDepth 10000
/-! Pv18: statements. -/
namespace Pv
open PySem L2 PySem.Spec PyProof.Rows
section
variable {T : Tb} {W : WX} {X : Cx} {k : Nat} {x m : Str} {p pos apos tpos : Pos} {o a b c e tg elt iter : Expr} {es ifs : List Expr} {ea eb ec : Sl → Sto → R D} {el : Sl → Sto → R (List D)} {ws : List Nat} {st : Stmt} {sts sts2 : List Stmt} {fa fb : Sl → Sto → F} {eg : D → Sl → Sto → R Sl} {et : Sl → Sto → R Bool}
/-! ### blocks -/
theorem sB_nil : PSs X [] (tSs T W fun σ S => .nx σ S) :=
  pss_nil.imp fun D σv H ⟨μ, S, σ, sim, ds, post⟩ => post μ H σv (Gd.refl _ _) sim ds
theorem sB_cons (h1 : PS X st (tSs T W fa)) (h2 : PSs X sts (tSs T W fb)) : PSs X (st :: sts) (tSs T W fun σ S => (fa σ S).seq fb) :=
  (pss_cons h1 h2).imp fun D σv H ⟨μ, S, σ, sim, ds, post⟩ => ⟨μ, S, σ, sim, ds, PostF.seq post fun σ1 S1 μ1 H1 σv1 g1 s1 ds1 p1 => ⟨μ1, S1, σ1, s1, ds1, p1⟩⟩
theorem sS_pass : PS X (.Pass pos) (tSs T W fun σ S => .nx σ S) :=
  ps_pass.imp fun D σv H ⟨μ, S, σ, sim, ds, post⟩ => post μ H σv (Gd.refl _ _) sim ds
theorem sS_brk : PS X (.Break pos) (tSs T W fun σ S => .bk σ S) :=
  ps_break.imp fun D σv H ⟨μ, S, σ, sim, ds, post⟩ => post μ H σv (Gd.refl _ _) sim ds
theorem sS_cont : PS X (.Continue pos) (tSs T W fun σ S => .ct σ S) :=
  ps_continue.imp fun D σv H ⟨μ, S, σ, sim, ds, post⟩ => post μ H σv (Gd.refl _ _) sim ds
theorem sS_never (h : ∀ σ S, fa σ S = .bad) : PS X st (tSs T W fa) :=
  ps_never.imp fun D σv H ⟨μ, S, σ, sim, ds, post⟩ => by rw [h] at post; exact post
theorem sS_ret (he : PE X e (tE T W ea)) : PS X (.Return (some e) pos) (tSs T W fun σ S => (ea σ S).thn σ fun d S1 => .rt d S1) :=
  (ps_ret he).imp fun D σv H ⟨μ, S, σ, sim, ds, post⟩ => ⟨μ, S, σ, sim, ds, PostF.thn ds post fun d S1 μ1 H1 v g1 s1 r1 p1 => p1 μ1 H1 v (Gd.refl _ _) s1 r1⟩
theorem sS_ex (he : PE X e (tE T W ea)) (hc : isComp e = false) : PS X (.Expr e pos) (tSs T W fun σ S => (ea σ S).thn σ fun _ S1 => .nx σ S1) :=
  (ps_expr he (swaps_no hc)).imp fun D σv H ⟨μ, S, σ, sim, ds, post⟩ => ⟨μ, S, σ, sim, ds, PostF.thn ds post fun d S1 μ1 H1 v g1 s1 r1 p1 => p1 μ1 H1 σv (Gd.refl _ _) s1 (ds.mono g1)⟩
theorem sS_if (hc : PT X c (tTs T W et)) (h1 : PSs X sts (tSs T W fa)) (h2 : PSs X sts2 (tSs T W fb)) : PS X (.If c sts sts2 pos) (tSs T W fun σ S => (et σ S).thn σ fun t S1 => if t = true then fa σ S1 else fb σ S1) :=
  (ps_if hc h1 h2).imp fun D σv H ⟨μ, S, σ, sim, ds, post⟩ => ⟨μ, S, σ, sim, ds, PostF.thn ds post fun t S1 μ1 H1 v g1 s1 r1 p1 => by
    have r1 : v = t := r1
    subst r1
    cases v with
    | true => exact ⟨μ1, S1, σ, s1, ds.mono g1, p1⟩
    | false => exact ⟨μ1, S1, σ, s1, ds.mono g1, p1⟩⟩
/-! ### assignments -/
theorem PostF.nxG {μ : List Addr} {H : Hp} {D : Ends} {r : R Sl} {σv : L2.St} (h : PostF T W μ H D r.nx) : PostG T ws σv μ H D.nx r := by
  cases r with
  | ok σ S => exact fun μ' H' σv' g s ds _ => h μ' H' σv' g s ds
  | exc x S => exact h
  | bad => exact h
def isNameE : Expr → Bool
  | .Name .. => true
  | _ => false
theorem sole_no {t : Expr} {l : Nat} {env : Env} (h : isComp e = false ∨ isNameE t = false) : swapsWithSole [t] e l env = pure false := by
  show swapsWith e (some t) l env = pure false
  rcases h with h | h
  · exact swaps_no h
  · refine swaps_other ?_
    cases t <;> first | rfl | cases h
theorem asg_imp (D : Ends) (σv : L2.St) (H : Hp) (h : tSs T W (fun σ S => (ea σ S).thn σ fun d S1 => (eg d σ S1).nx) D σv H) : tAsg (tE T W ea) (tGd T ws eg) D σv H := by
  obtain ⟨μ, S, σ, sim, ds, post⟩ := h
  exact ⟨μ, S, σ, sim, ds, PostF.thn ds post fun d S1 μ1 H1 v g1 s1 r1 p1 => ⟨μ1, S1, σ, d, s1, ds.mono g1, r1, PostF.nxG p1⟩⟩
theorem sS_asgS (he : PE X e (tE T W ea)) (hg : PG X tg (tGd T ws eg)) (hs : swapsWithSole [tg] e pos.line X.env = pure false) (hw : swappedStores [tg] e X.env = pure none) (ht : isStar tg = false) :
    PS X (.Assign [tg] e pos) (tSs T W fun σ S => (ea σ S).thn σ fun d S1 => (eg d σ S1).nx) :=
  (ps_asg he hg hs hw (by rw [assign_map ht]; rfl)).imp asg_imp
/-- name = [..], the name a local, on one line -/
theorem sS_setC (h0 : T.hold = []) {w : Nat} {i : Nat} {scope : Scope} {own : List (Str × Nat)} {spos : Pos} {ei : Sl → Sto → R IS} {ek : Sl → Sto → R Bool} {ee : Sl → Sto → R D} (hc : X.calm = true) (hN : X.N.Nodup) (hy : X.N[i]? = some x) (hyl : X.env.scope.names.lookup x = some .local) (hk : X.env.scope.kind = .function)
    (hline : (p.line == pos.line) = true) (hna : (scope.names.any fun (n, k) => n == x && (k == .local || k == .cell)) = false)
    (hi : PI X tg iter (tIs T W ei)) (ok : BlkOk X.N X.env.scope scope own)
    (hg : ∀ (s : Shared) (H : Hp) (C : Addr) (cl : List (Str × Addr)) (fp : List Addr), PG (X.blk s H scope (compEnvC scope cl C X.env) fp) tg (tGd T (own.map (·.2)) eg))
    (ht : ∀ (s : Shared) (H : Hp) (C : Addr) (cl : List (Str × Addr)) (fp : List Addr), PTs (X.blk s H scope (compEnvC scope cl C X.env) fp) ifs (tTs T W0 ek))
    (he : ∀ (s : Shared) (H : Hp) (C : Addr) (cl : List (Str × Addr)) (fp : List Addr), PE (X.blk s H scope (compEnvC scope cl C X.env) fp) elt (tE T W0 ee)) (hf : notSetE iter = true) :
    PS X (.Assign [.Name x p] (.ListComp elt [⟨tg, iter, ifs, 0⟩] scope pos) spos) (tSs T W fun σ S => ((ei σ S).bind fun src S1 => loopC src S1.length (turnC eg ek ee σ (own.map (·.2))) w 0 (S1 ++ [.lst []])).thn σ fun d S1 => R.nx (.ok (σ.set i (some d)) S1)) :=
  (ps_setLc hc hN hy hyl (sw_true hk hyl hline hna) hi ok hg ht he (folded_of hf)).imp fun D σv H ⟨μ, S, σ, sim, ds, post⟩ => by
    refine sE_compT (w := w) h0 ⟨μ, S, σ, sim, ds, PostF.thn ds post fun d S1 μ1 H1 v g1 s1 r1 p1 => ?_⟩
    exact p1 μ1 H1 _ (Gd.refl _ _) s1 ((ds.mono g1).set i r1)
theorem sS_par {i j : Nat} {y : Str} {px py pt : Pos} {kt k2 : Nat} {pt2 : Pos} (hc : X.calm = true) (hN : X.N.Nodup) (hi : X.N[i]? = some x) (hj : X.N[j]? = some y) (hij : i ≠ j)
    (hx : X.env.scope.names.lookup x = some .local) (hy : X.env.scope.names.lookup y = some .local) (ha : PE X a (tE T W ea)) (hb : PE X b (tE T W eb)) (hsa : isStar a = false) (hsb : isStar b = false)
    (hw : swappedStores [.Tuple [.Name x px, .Name y py] kt pt] (.Tuple [a, b] k2 pt2) X.env = pure (some [x, y])) :
    PS X (.Assign [.Tuple [.Name x px, .Name y py] kt pt] (.Tuple [a, b] k2 pt2) pos) (tSs T W fun σ S => (ea σ S).thn σ fun x S1 => (eb σ S1).thn σ fun y S2 => .nx ((σ.set i (some x)).set j (some y)) S2) :=
  (ps_par hc hN hi hj hij hx hy (pa_cons ha (pa_cons hb pa_nil (starEach_cons hsb)) (starEach_cons hsa)) hw rfl).imp fun D σv H ⟨μ, S, σ, sim, ds, post⟩ =>
    ⟨μ, S, σ, sim, ds, PostF.thn ds post fun d S1 μ1 H1 v g1 s1 r1 p1 => ⟨μ1, S1, σ, s1, ds.mono g1, PostF.thn (ds.mono g1) p1 fun d2 S2 μ2 H2 v2 g2 s2 r2 p2 =>
      ⟨v, v2, rfl, p2 μ2 H2 _ (Gd.refl _ _) s2 ((((ds.mono g1).mono g2).set i (r1.mono g2)).set j r2)⟩⟩⟩
end
end Pv
end

section
set_option autoImplicit false
set_option linter.all false
set_option maxHeartbeats 4000000
set_option maxRecDepth 10000
/-! Pv19: loops, raise, try. -/
namespace Pv
open PySem L2 PySem.Spec PyProof.Rows
section
variable {T : Tb} {W : WX} {X : Cx} {k : Nat} {x m : Str} {p pos apos tpos : Pos} {o a b c e tg elt iter : Expr} {es ifs : List Expr} {ea eb ec : Sl → Sto → R D} {el : Sl → Sto → R (List D)} {ws : List Nat} {st : Stmt} {sts sts2 : List Stmt} {fa fb : Sl → Sto → F} {eg : D → Sl → Sto → R Sl} {et : Sl → Sto → R Bool}
theorem sS_aug {i : Nat} (op : BOp) (hop : op = .add ∨ op = .sub) (hN : X.N.Nodup) (hi : X.N[i]? = some x) (hx : Loc X.env.scope x) (hf : X.fn x = true ∨ X.env.scope.names.lookup x = some .local) (he : PE X e (tE T W ea)) :
    PS X (.AugAssign (.Name x p) (toOp op) e pos) (tSs T W fun σ S => match σ[i]? with
      | some (some (.int x)) => (ea σ S).thn σ fun y S1 => augF op x y i σ S1
      | _ => .bad) := by
  have key : ∀ (f : Int → Int → Int) (hp : PIp X (toOp op) (ipI f)), (∀ x y σ S, augF op x y i σ S = match y with
      | .int z => F.nx (σ.set i (some (.int (f x z)))) S
      | _ => .bad) → PS X (.AugAssign (.Name x p) (toOp op) e pos) (tSs T W fun σ S => match σ[i]? with
      | some (some (.int x)) => (ea σ S).thn σ fun y S1 => augF op x y i σ S1
      | _ => .bad) := fun f hp hg =>
    (ps_aug hN hi hx he hp hf).imp fun D σv H ⟨μ, S, σ, sim, ds, post⟩ => by
      cases e1 : σ[i]? with
      | none => simp only [e1] at post; exact False.elim post
      | some od =>
        cases od with
        | none => simp only [e1] at post; exact False.elim post
        | some d =>
          cases d <;> simp only [e1] at post <;> first | exact False.elim post | skip
          rename_i n
          obtain ⟨v, ev, hv⟩ := ds.at_ i _ e1
          have hv : v = .int n := hv
          subst hv
          refine ⟨_, ev, μ, S, σ, sim, ds, PostF.thn ds post fun d S1 μ1 H1 v1 g1 s1 r1 p1 => ?_⟩
          rw [hg] at p1
          cases d <;> first | exact False.elim p1 | skip
          exact ⟨n, _, rfl, r1, p1 μ1 H1 _ (Gd.refl _ _) s1 ((ds.mono g1).set i rfl)⟩
  rcases hop with h | h
  · subst h
    exact key _ ip_add fun x y σ S => by cases y <;> rfl
  · subst h
    exact key _ ip_sub fun x y σ S => by cases y <;> rfl
/-! ### loops -/
theorem sS_whl {w : Nat} (hp : PassesOwn (model X.prog X.w) X.A X.env X.xe) (hc : PT X c (tTs T W et)) (hb : PSs X sts (tSs T W fb)) : PS X (.While c sts [] pos) (tSs T W fun σ S => loopW et fb w σ S) :=
  (ps_while hp hc hb).imp fun D σv H ⟨μ, S, σ, sim, ds, post⟩ => by
    refine ⟨fun m σv1 H1 => ∃ μ1 S1 σ1, Sim T μ1 S1 H1 ∧ DenS T μ1 H1 σ1 σv1 ∧ PostF T W μ1 H1 D (loopW et fb m σ1 S1), ⟨w, μ, S, σ, sim, ds, post⟩, ?_⟩
    rintro m σv1 H1 ⟨μ1, S1, σ1, s1, ds1, p1⟩
    cases m with
    | zero => exact False.elim p1
    | succ m =>
      refine ⟨μ1, S1, σ1, s1, ds1, ?_⟩
      unfold loopW at p1
      cases e1 : et σ1 S1 with
      | bad => simp only [e1] at p1; exact False.elim p1
      | exc x S2 =>
        simp only [e1] at p1
        exact fun μ2 H2 cls dd g2 s2 er => p1 μ2 H2 σv1 cls dd g2 s2 (ds1.mono g2) er
      | ok t S2 =>
        simp only [e1] at p1
        intro μ2 H2 b' g2 s2 eb
        have eb : b' = t := eb
        subst eb
        cases b' with
        | false => exact p1 μ2 H2 σv1 g2 s2 (ds1.mono g2)
        | true =>
          simp only at p1
          refine ⟨fun σ' H' => ∃ μ1 S1 σ1, Sim T μ1 S1 H' ∧ DenS T μ1 H' σ1 σ' ∧ PostF T W μ1 H' D (loopW et fb m σ1 S1), fun σ' H' h => ⟨m, Nat.lt_succ_self m, h⟩, μ2, S2, σ1, s2, ds1.mono g2, ?_⟩
          have p2 := PostF.go g2 p1
          cases e2 : fb σ1 S2 with
          | bad => simp only [e2] at p2; exact False.elim p2
          | exc σ' x S' => simp only [e2] at p2; exact p2
          | rt d S' => simp only [e2] at p2; exact p2
          | nx σ' S' =>
            simp only [e2] at p2
            exact fun μ3 H3 σv3 g3 s3 ds3 => ⟨μ3, S', σ', s3, ds3, PostF.go g3 p2⟩
          | ct σ' S' =>
            simp only [e2] at p2
            exact fun μ3 H3 σv3 g3 s3 ds3 => ⟨μ3, S', σ', s3, ds3, PostF.go g3 p2⟩
          | bk σ' S' =>
            simp only [e2] at p2
            exact fun μ3 H3 σv3 g3 s3 ds3 => p2 μ3 H3 σv3 g3 s3 ds3
theorem sS_for {w : Nat} {ei : Sl → Sto → R IS} (hf : notSetE iter = true) (hp : PassesOwn (model X.prog X.w) X.A X.env X.xe) (hc : X.calm = true) (hi : PI X tg iter (tIs T W ei)) (hg : PG X tg (tGd T ws eg)) (hb : PSs X sts (tSs T W fb)) :
    PS X (.For tg iter sts [] pos) (tSs T W fun σ S => (ei σ S).thn σ fun src S1 => loopF src (fun d σ1 S2 => (eg d σ1 S2).nx.seq fb) w 0 σ S1) :=
  (ps_for hp hc hi hg hb (folded_of hf)).imp fun D σv H ⟨μ, S, σ, sim, ds, post⟩ => by
    refine ⟨μ, S, σ, sim, ds, PostF.thn ds post fun src S1 μ1 H1 J g1 s1 isr p1 => ?_⟩
    refine ⟨fun i m σv2 H2 => ∃ μ2 S2 σ2, Gd μ1 H1 μ2 H2 ∧ Sim T μ2 S2 H2 ∧ DenS T μ2 H2 σ2 σv2 ∧ PostF T W μ2 H2 D (loopF src (fun d σ1 S2 => (eg d σ1 S2).nx.seq fb) m i σ2 S2), ⟨w, μ1, S1, σ, Gd.refl _ _, s1, ds.mono g1, p1⟩, ?_⟩
    rintro i m σv2 H2 ⟨μ2, S2, σ2, g2, s2, ds2, p2⟩
    cases m with
    | zero => exact False.elim p2
    | succ m =>
      obtain ⟨c1, c2⟩ := isr μ2 S2 H2 i g2 s2
      unfold loopF at p2
      cases e1 : src.at i S2 with
      | none => simp only [e1] at p2; exact False.elim p2
      | some od =>
        cases od with
        | none =>
          simp only [e1] at p2
          exact .inl ⟨c2 e1, p2 μ2 H2 σv2 (Gd.refl _ _) s2 ds2⟩
        | some d =>
          simp only [e1] at p2
          obtain ⟨go, yl⟩ := c1 d e1
          refine .inr ⟨go, fun σ' H' => ∃ μ3 S3 σ3, Gd μ1 H1 μ3 H' ∧ Sim T μ3 S3 H' ∧ DenS T μ3 H' σ3 σ' ∧ PostF T W μ3 H' D (loopF src (fun d σ1 S2 => (eg d σ1 S2).nx.seq fb) m (i + 1) σ3 S3), fun σ' H' h => ⟨m, Nat.lt_succ_self m, h⟩, fun y H3 hy => ?_⟩
          obtain ⟨g3, s3, hd⟩ := yl y H3 hy
          have p3 := PostF.go g3 p2
          refine ⟨μ2, S2, σ2, d, s3, ds2.mono g3, hd, ?_⟩
          cases e2 : eg d σ2 S2 with
          | bad => simp only [e2] at p3; exact False.elim p3
          | exc x S' => simp only [e2] at p3; exact False.elim p3
          | ok σ4 S4 =>
            intro μ4 H4 σv4 g4 s4 ds4 _
            have p4 := PostF.go g4 p3
            have gA := (g2.trans g3).trans g4
            refine ⟨μ4, S4, σ4, s4, ds4, ?_⟩
            simp only [e2, R.nx, F.seq] at p4
            cases e3 : fb σ4 S4 with
            | bad => simp only [e3] at p4; exact False.elim p4
            | exc σ' x S' => simp only [e3] at p4; exact p4
            | rt d S' => simp only [e3] at p4; exact p4
            | nx σ' S' =>
              simp only [e3] at p4
              exact fun μ5 H5 σv5 g5 s5 ds5 => ⟨μ5, S', σ', gA.trans g5, s5, ds5, PostF.go g5 p4⟩
            | ct σ' S' =>
              simp only [e3] at p4
              exact fun μ5 H5 σv5 g5 s5 ds5 => ⟨μ5, S', σ', gA.trans g5, s5, ds5, PostF.go g5 p4⟩
            | bk σ' S' =>
              simp only [e3] at p4
              exact fun μ5 H5 σv5 g5 s5 ds5 => p4 μ5 H5 σv5 g5 s5 ds5
/-! ### raise -/
/-- an own exception class without own __init__ -/
structure ExcF (K : PySem.W.Frag) (C : Addr) : Prop where
  base : ∃ B newId initId bmB, ExcBaseFacts B newId initId bmB ∧ PySem.W.excIn K C bmB newId = true
  kp : PySem.W.keepIn K (.ref C) = true
  sub : PySem.W.subIn K (.ref C) (.type "BaseException") = some true
  ty : PySem.W.typeIn K (.ref C) = some (.type "type")
theorem pmk_own0 {C : Addr} (F : ExcF X.K C) (gC : X.mg x = some (.ref C)) (hg : Gl X x) (hdb : (x == ("__debug__" : Str)) = false) : PMk X (.Call (.Name x p) [] [] pos) (fun _ H Q => Q (.ref C) none H) := by
  obtain ⟨⟨B, newId, initId, bmB, F, q⟩, kC, h1, h2⟩ := F
  intro pins s σ H Q I h
  refine wpAny_Call_Name_kw (ld_glob I hg gC ?_ hdb)
  refine PySem.W.callWith_K0 I.kIn kC ?_
  show wpAny _ _ (call (.ref C) []) _ _ _
  obtain ⟨bm, N, nm, qn, bs, hdct, sn, sub, ab, col, dd, k0, k1, k2, k3, k5, mN, hC, hN, hni, T⟩ := exc_obj I.kIn q
  refine wpAny_call_exc_subT F T hC hN hni (fun h' e hm => ?_) (by show 0 ≤ sizeLine; exact Nat.zero_le _)
  exact mk_of I hm (raises_own h1 h2) h (I.hok.gone hm.new)
theorem sS_raise {ci : Nat} (F : ExcF X.K (T.cls ci)) (hc : X.calm = true) (tk : Takes X W) (gC : X.mg x = some (.ref (T.cls ci))) (hg : Gl X x) (hdb : (x == ("__debug__" : Str)) = false) :
    PS X (.Raise (some (.Call (.Name x p) [] [] apos)) none pos) (tSs T W fun σ S => .exc σ ⟨ci, []⟩ S) :=
  (ps_raise hc tk (pmk_own0 F gC hg hdb)).imp fun D σv H ⟨μ, S, σ, sim, ds, post⟩ => post μ H σv _ _ (Gd.refl _ _) sim ds ⟨rfl, .inl ⟨rfl, rfl⟩⟩
/-! ### try -/
theorem sS_tryN {h0 : ExceptHandler} {hs : List ExceptHandler} (hb : PSs X.nox sts (tSs T W0 fb)) : PS X (.Try sts (h0 :: hs) [] [] pos) (tSs T W fun σ S => match fb σ S with
    | .exc _ _ _ => .bad
    | r => r) :=
  (ps_try_thru0 hb).imp fun D σv H ⟨μ, S, σ, sim, ds, post⟩ => ⟨μ, S, σ, sim, ds, by
    cases e : fb σ S <;> simp only [e] at post <;> first | exact post | exact False.elim post⟩
theorem holds_nil {l : List (Nat × Addr)} (h0 : T.hold = []) : (T.holds l).holds [] = T := by
  obtain ⟨a, b, c, d⟩ := T
  have h0 : d = [] := h0
  subst h0
  rfl
theorem PostF.holds {μ : List Addr} {H : Hp} {D : Ends} {σv : L2.St} (h0 : T.hold = []) (i : Nat) (l : List (Nat × Addr)) : ∀ {r : F}, PostF T W μ H D (r.wipe i) → PostF (T.holds l) W0 μ H { nx := fun σ' H' => D.nx (σ'.set i none) H', rt := D.rt, bk := fun σ' H' => D.bk (σ'.set i none) H', ct := fun σ' H' => D.ct (σ'.set i none) H' } r := by
  have back : ∀ {μ : List Addr} {H : Hp} {σ : Sl} {σv : L2.St}, DenS (T.holds l) μ H σ σv → DenS T μ H (σ.set i none) (σv.set i none) := fun {μ H σ σv} d => by
    have z := d.hide i none [] (fun _ q => nomatch q)
    have e : (T.holds l).holds [] = T := holds_nil h0
    rwa [e] at z
  intro r h
  cases r with
  | bad => exact h
  | exc σ2 x2 S2 => exact False.elim h
  | rt d S2 => exact fun μ2 H2 v g2 s2 hd => h μ2 H2 v g2 ((Sim.holds l).mp s2) (by rwa [Den_holds] at hd)
  | nx σ2 S2 => exact fun μ2 H2 σv2 g2 s2 ds2 => h μ2 H2 _ g2 ((Sim.holds l).mp s2) (back ds2)
  | bk σ2 S2 => exact fun μ2 H2 σv2 g2 s2 ds2 => h μ2 H2 _ g2 ((Sim.holds l).mp s2) (back ds2)
  | ct σ2 S2 => exact fun μ2 H2 σv2 g2 s2 ds2 => h μ2 H2 _ g2 ((Sim.holds l).mp s2) (back ds2)
theorem sS_tryE (h0 : T.hold = []) {n : Str} {i ci : Nat} {suite : List Stmt} {b₀ : Stmt} {np pos' : Pos} {fx : Exc → Sl → Sto → F} {ok : Nat → Prop} (hs : X.stack = X.env :: X.outer) (hf : X.env.frame = some X.env.locals) (hN : X.N.Nodup) (hi : X.N[i]? = some n) (hln : X.env.kindOf n = some .local)
    (hc : Names X x (.ref (T.cls ci))) (tk : Takes X W) (hbad : ∀ x σ S, (x.fs ≠ [] ∨ ¬ ok x.c) → fx x σ S = .bad) (hex : ∀ c', ok c' → PySem.W.exmOne X.K (.ref (T.cls c')) (.ref (T.cls ci)) = some true)
    (hb : ∀ (W : WX) (pn : List (Addr × Obj)) (xe : Value → Shared → Prop), Takes (X.tr pn xe) W → PassesOwn (model X.prog X.w) X.A X.env xe → PSs (X.tr pn xe) sts (tSs T W fb))
    (hsu : ∀ c', ok c' → ∀ (a : Addr) (oe : Obj) (pn : List (Addr × Obj)), Zc (.ref (T.cls c')) none oe → (∃ vs, oe.data = .fields vs) → PSs (X.suite a ((a, oe) :: pn)) (b₀ :: suite) (tSs (T.holds [(i, a)]) W0 fun σ S => fx ⟨c', []⟩ σ S)) :
    PS X (.Try sts [.ExceptHandler (some (.Name x np)) (some n) (b₀ :: suite) pos'] [] [] pos) (tSs T W fun σ S => match fb σ S with
      | .exc σ1 x S1 => (fx x (σ1.set i none) S1).wipe i
      | r => r) := by
  refine (ps_try_as (tb := fun W => tSs T W fb) (ts := fun a cls d D σ H => ∃ c', ok c' ∧ cls = .ref (T.cls c') ∧ d = none ∧ tSs (T.holds [(i, a)]) W0 (fun σ S => fx ⟨c', []⟩ σ S) D σ H) hs hf hN hi hln hc tk hb ?_).imp ?_
  · intro a oe cls d pn hz hd
    refine ⟨fun pins s σ H D I ⟨c', hok, e1, e2, h⟩ => ?_⟩
    subst e1; subst e2
    exact (hsu c' hok a oe pn hz hd).run pins s σ H D I h
  · intro D σv H ⟨μ, S, σ, sim, ds, post⟩
    refine ⟨μ, S, σ, sim, ds, ?_⟩
    cases e : fb σ S with
    | bad => simp only [e] at post; exact post
    | nx σ' S' => simp only [e] at post; exact post
    | rt d S' => simp only [e] at post; exact post
    | bk σ' S' => simp only [e] at post; exact post
    | ct σ' S' => simp only [e] at post; exact post
    | exc σ1 xx S1 =>
      simp only [e] at post
      intro μ1 H1 σv1 cls dd g1 s1 ds1 ⟨ec, hx⟩
      have post := PostF.go g1 post
      by_cases hok : ok xx.c ∧ xx.fs = []
      · rcases hx with ⟨_, hdd⟩ | ⟨z, _⟩
        · subst hdd; subst ec
          refine ⟨true, hex _ hok.1, fun _ a ha => ⟨xx.c, hok.1, rfl, rfl, μ1, S1, σ1.set i none, (Sim.holds _).mpr s1, ds1.hide i _ _ (fun q hq => ?_), ?_⟩, fun z => absurd z (by decide)⟩
          · have e : q = (i, a) := by simpa using hq
            subst e
            exact ⟨rfl, rfl⟩
          · have ex : xx = ⟨xx.c, []⟩ := by
              cases xx
              simp only at hok
              rw [hok.2]
            rw [ex] at post
            exact PostF.holds (σv := σv) h0 i _ post
        · exact absurd hok.2 z
      · rw [hbad] at post
        · exact False.elim post
        · by_cases h1 : xx.fs = []
          · exact .inr fun h2 => hok ⟨h2, h1⟩
          · exact .inl h1
/-- isinstance(error, C) in a suite -/
theorem sE_isExc {a' : Addr} {oe : Obj} {ci cj i : Nat} {pn : List (Addr × Obj)} {t : Bool} {n y : Str} {pn' py : Pos} (C : L2.ExcC X.K (T.cls ci)) (hz : Zc (.ref (T.cls ci)) none oe) (hf : ∃ vs, oe.data = .fields vs)
    (hT : (i, a') ∈ T.hold) (hn : PE (X.suite a' ((a', oe) :: pn)) (.Name n pn') (tVar i)) (hg : Gl X "isinstance") (hm : X.mg "isinstance" = none) (hgy : Gl X y) (hmy : X.mg y = some (.ref (T.cls cj))) (hdy : (y == ("__debug__" : Str)) = false)
    (hk : PySem.W.kitOne X.K (.ref (T.cls ci)) (.ref (T.cls cj)) = some t) :
    PE (X.suite a' ((a', oe) :: pn)) (.Call (.Name "isinstance" p) [.Name n pn', .Name y py] [] pos) (tE T W fun σ S => match σ[i]? with
      | some none => .ok (.bl t) S
      | _ => .bad) := by
  have hc : PE (X.suite a' ((a', oe) :: pn)) (.Name y py) (tC (.ref (T.cls cj))) := pe_glob hgy hmy rfl hdy
  refine (pe_callB (X := X.suite a' ((a', oe) :: pn)) (call_isE (X := X) (pn := pn) C hz hf) hg hm boot_isinstance (pa_cons hn (pa_cons hc pa_nil (starEach_cons rfl)) (starEach_cons rfl)) (by decide) (by decide) (starEach_cons rfl) rfl).imp fun σv H Q ⟨μ, S, σ, sim, ds, post⟩ => ?_
  cases e1 : σ[i]? with
  | none => simp only [e1] at post; exact False.elim post
  | some od =>
    cases od with
    | some d => simp only [e1] at post; exact False.elim post
    | none =>
      simp only [e1] at post
      exact ⟨_, ds.hold_ _ hT e1, .ref (T.cls cj), .ref (T.cls cj), t, rfl, fun u r => r, hk, post.now sim rfl⟩
end
end Pv
end

section
set_option autoImplicit false
set_option linter.all false
set_option maxHeartbeats 4000000
set_option maxRecDepth 10000
/-! Pv20: the checker: a core text is the translation of a piece of syntax. -/
namespace Pv
open PySem L2
/-- the program's names -/
structure Nm where
  glob : Nat → Option Str
  cname : Nat → Option Str
  att : Nat → Str
  /-- built-in names that no module binds -/
  free : List Str
  /-- the modules' ints -/
  konstI : List (Str × Int)
  /-- methods called with a star -/
  stars : List Nat
/-- where a text stands -/
structure Cc where
  N : List Str
  sc : Scope
  fn : Str → Bool
  calm : Bool
  top : Bool
  err : Option (Nat × Nat)
def okName (x : Str) : Bool := !(x == ("__debug__" : Str)) && !(x == ("__classdict__" : Str))
def visK : Option NameKind → Bool
  | some .local => true
  | some .cell => true
  | some .free => true
  | _ => false
def locK : Option NameKind → Bool
  | some .local => true
  | some .cell => true
  | _ => false
def isLocalK : Option NameKind → Bool
  | some .local => true
  | _ => false
def isGlK : Option NameKind → Bool
  | some .globalImplicit => true
  | _ => false
def Cc.isVar (c : Cc) (i : Nat) (x : Str) : Bool := decide (c.N[i]? = some x) && visK (c.sc.names.lookup x) && okName x
def Cc.isGl (c : Cc) (x : Str) : Bool := isGlK (c.sc.names.lookup x) && okName x
def Cc.isSet (c : Cc) (i : Nat) (x : Str) : Bool := decide (c.N[i]? = some x) && locK (c.sc.names.lookup x) && (c.fn x || isLocalK (c.sc.names.lookup x))
/-- a built-in name -/
def Cc.isB (c : Cc) (M : Nm) (x : Str) (b : String) : Bool := decide (x = Str.ofString b) && c.isGl x && M.free.contains x && !(x == ("__name__" : Str))
def isTupT : Expr → Bool
  | .Tuple .. => true
  | .List .. => true
  | _ => false
def noStars (es : List Expr) : Bool := es.all fun e => !isStar e
def Cc.isCon (c : Cc) (M : Nm) : D → Expr → Bool
  | .non, .Constant .none _ _ => true
  | .bl b, .Constant (.bool b') _ _ => b == b'
  | .int i, .Constant (.int j) _ _ => decide (i = j)
  | .str x, .Constant (.str y) _ _ => decide (x = y)
  | .int i, .Name x _ => c.isGl x && M.konstI.any fun q => decide (q.1 = x) && decide (q.2 = i)
  | _, _ => false
def isAndC : C → Bool
  | .and _ _ => true
  | _ => false
def isOrC : C → Bool
  | .or _ _ => true
  | _ => false
def ownOf (N : List Str) (vs : List Nat) : List (Str × Nat) := vs.map fun i => ((N[i]?).getD "", i)
def isNilC : C → Bool
  | .nil => true
  | _ => false
section
variable (G : Prog) (M : Nm)
mutual
/-- t: as a test -/
def chkE (t : Bool) : C → Cc → Expr → Bool
  | .con d, c, e => c.isCon M d e
  | .var i, c, e => match e with
    | .Name x _ => c.isVar i x
    | _ => false
  | .bin op a b, c, e => match e with
    | .BinOp x o y _ => decide (o = toOp op) && chkE false a c x && chkE false b c y
    | _ => false
  | .neg a, c, e => match e with
    | .UnaryOp .USub x _ => chkE false a c x
    | _ => false
  | .not a, c, e => match e with
    | .UnaryOp .Not x _ => chkE t a c x
    | _ => false
  | .and a b, c, e => match e with
    | .BoolOp .And [x, y] _ => chkE t a c x && chkE t b c y
    | .BoolOp .And (x :: y :: z :: r) p => chkE t a c x && isAndC b && chkE t b c (.BoolOp .And (y :: z :: r) p)
    | _ => false
  | .or a b, c, e => match e with
    | .BoolOp .Or [x, y] _ => chkE t a c x && chkE t b c y
    | .BoolOp .Or (x :: y :: z :: r) p => chkE t a c x && isOrC b && chkE t b c (.BoolOp .Or (y :: z :: r) p)
    | _ => false
  | .cmp op a b, c, e => match e with
    | .Compare x [o] [y] _ => decide (o = toCmp op) && chkE false a c x && chkE false b c y && notSetE y
    | _ => false
  | .chain o1 o2 a b d, c, e => match e with
    | .Compare x [p1, p2] [y, z] _ => decide (p1 = toCmp o1) && decide (p2 = toCmp o2) && chkE false a c x && chkE false b c y && chkE false d c z && !(lastMarks [p1, p2] [y, z])
    | _ => false
  | .ite u a b, c, e => match e with
    | .IfExp x y z _ => !t && chkE true u c x && chkE false a c y && chkE false b c z
    | _ => false
  | .tup xs, c, e => match e with
    | .Tuple es _ _ => chkL xs c es
    | _ => false
  | .lst xs, c, e => match e with
    | .List es _ => chkL xs c es
    | _ => false
  | .dict b xs, c, e => match e with
    | .Dict ks vs _ => match xs with
      | .nil => ks.isEmpty && vs.isEmpty
      | _ => !b && chkP xs c ks vs && ks.all (·.isSome) && decide (ks.length = vs.length) && !ks.isEmpty && decide (ks.length ≤ 15)
    | _ => false
  | .sub a i, c, e => match e with
    | .Subscript x y _ => chkE false a c x && chkE false i c y && !isSl y
    | _ => false
  | .slice a lo hi, c, e => match e with
    | .Subscript x (.Slice l h none _) _ => chkE false a c x && chkO lo c l && chkO hi c h
    | _ => false
  | .rev a, c, e => match e with
    | .Subscript x (.Slice none none (some (.UnaryOp .USub (.Constant (.int n) _ _) _)) _) _ => decide (n = 1) && chkE false a c x
    | _ => false
  | .attr a f, c, e => match e with
    | .Attribute x m _ => chkE false a c x && decide (m = M.att f) && plainO x
    | _ => false
  | .call f xs, c, e => match e with
    | .Call (.Name x _) es [] _ => c.calm && decide (M.glob f = some x) && c.isGl x && noStars es && chkL xs c es
    | _ => false
  | .make k xs, c, e => match e with
    | .Call (.Name x _) es [] _ => c.calm && decide (M.cname k = some x) && (G.init k).isSome && c.isGl x && noStars es && chkL xs c es
    | _ => false
  | .meth a m xs, c, e => match e with
    | .Call (.Attribute o y apos) es [] pos => c.calm && chkE false a c o && decide (y = M.att m) && plainO o && noStars es && decide (es.length < 30) && (apos.endLine == pos.line) && chkL xs c es
    | _ => false
  | .methS a m i, c, e => match e with
    | .Call (.Attribute o y apos) [.Starred (.Name z _) _] [] _ => c.calm && chkE false a c o && decide (y = M.att m) && plainO o && M.stars.contains m && c.isVar i z
    | _ => false
  | .bi b xs, c, e => match e with
    | .Call (.Name x _) [y] [] _ => c.calm && c.isB M x (biName b) && !isStar y && chkL xs c [y]
    | _ => false
  | .bm a m xs, c, e => match e with
    | .Call (.Attribute o y apos) es [] pos => chkE false a c o && decide (y = Str.ofString (bmAtt m)) && plainO o && noStars es && decide (es.length < 30) && (apos.endLine == pos.line) && chkL xs c es
    | _ => false
  | .isi a ty, c, e => match e with
    | .Call (.Name x _) [y, .Name z _] [] _ => c.isB M x "isinstance" && chkE false a c y && !isStar y && c.isB M z (tyName ty)
    | _ => false
  | .isx i cj u, c, e => match e with
    | .Call (.Name x _) [.Name y _, .Name z _] [] _ => c.isB M x "isinstance" && c.isVar i y && c.isGl z && decide (M.cname cj = some z) && (match c.err with
      | some (j, ci) => decide (j = i) && decide (G.sub ci cj = some u)
      | none => false)
    | _ => false
  | .comp elt tg it cond vs, c, e => match e with
    | .ListComp y [⟨tg', it', ifs, 0⟩] scope _ => c.calm && chkI it c tg' it' && notSetE it' && blkC c.N c.sc scope (ownOf c.N vs) &&
        chkG tg { c with sc := relS scope c.sc, fn := fun x => scope.names.lookup x == some .cell, top := false } vs tg' &&
        chkK cond { c with sc := relS scope c.sc, fn := fun x => scope.names.lookup x == some .cell, top := false } ifs &&
        chkE false elt { c with sc := relS scope c.sc, fn := fun x => scope.names.lookup x == some .cell, top := false } y
    | _ => false
  | _, _, _ => false
def chkL : C → Cc → List Expr → Bool
  | .nil, _, es => es.isEmpty
  | .cons a r, c, es => match es with
    | e :: es => !isStar e && chkE false a c e && chkL r c es
    | [] => false
  | .star a r, c, es => match es with
    | .Starred e _ :: es => chkE false a c e && chkL r c es
    | _ => false
  | _, _, _ => false
def chkK : C → Cc → List Expr → Bool
  | .nil, _, es => es.isEmpty
  | .cons a _, c, es => match es with
    | [e] => chkE true a c e
    | _ => false
  | _, _, _ => false
def chkO : C → Cc → Option Expr → Bool
  | .nil, _, e => e.isNone
  | .cons a _, c, e => match e with
    | some e => chkE false a c e
    | none => false
  | _, _, _ => false
def chkP : C → Cc → List (Option Expr) → List Expr → Bool
  | .nil, _, ks, vs => ks.isEmpty && vs.isEmpty
  | .cons k (.cons v r), c, ks, vs => match ks, vs with
    | some x :: ks, y :: vs => chkE false k c x && chkE false v c y && chkP r c ks vs
    | _, _ => false
  | _, _, _, _ => false
def chkI : C → Cc → Expr → Expr → Bool
  | .range xs, c, _, e => match e with
    | .Call (.Name x _) es [] _ => c.isB M x "range" && noStars es && decide (1 ≤ es.length) && decide (es.length ≤ 3) && chkL xs c es
    | _ => false
  | .enum a, c, tg, e => match e with
    | .Call (.Name x _) [y] [] _ => isTupE tg && c.isB M x "enumerate" && !isStar y && chkE false a c y
    | _ => false
  | .revd a, c, _, e => match e with
    | .Call (.Name x _) [y] [] _ => c.isB M x "reversed" && !isStar y && chkE false a c y
    | _ => false
  | .walk a, c, _, e => chkE false a c e
  | _, _, _, _ => false
def chkG : C → Cc → List Nat → Expr → Bool
  | .var i, c, ws, e => match e with
    | .Name x _ => c.isSet i x && ws.contains i
    | _ => false
  | .sub a k, c, _, e => match e with
    | .Subscript x y _ => chkE false a c x && chkE false k c y && !isSl y
    | _ => false
  | .attr a f, c, _, e => match e with
    | .Attribute x m _ => chkE false a c x && decide (m = M.att f)
    | _ => false
  | .tup ts, c, ws, e => match e with
    | .Tuple es _ _ => c.calm && noStars es && chkGs ts c ws es
    | _ => false
  | _, _, _, _ => false
def chkGs : C → Cc → List Nat → List Expr → Bool
  | .nil, _, _, es => es.isEmpty
  | .cons t r, c, ws, es => match es with
    | e :: es => !isStar e && chkG t c ws e && chkGs r c ws es
    | [] => false
  | _, _, _, _ => false
end
/-- a name that is no plain local -/
def notLocal (c : Cc) : Expr → Bool
  | .Name x _ => !isLocalK (c.sc.names.lookup x)
  | _ => false
/-- what a comprehension that goes straight into a name must have -/
def setOk (c : Cc) (t : C) (tg v : Expr) (line : Int) : Bool :=
  match t, tg, v with
  | .var i, .Name x p, .ListComp _ _ scope pos => decide (c.N[i]? = some x) && isLocalK (c.sc.names.lookup x) && (p.line == pos.line) && !(scope.names.any fun (n, k) => n == x && (k == .local || k == .cell))
  | _, _, _ => false
def isCompC : C → Bool
  | .comp .. => true
  | _ => false
mutual
def chkS : C → Cc → Stmt → Bool
  | .asg t e, c, s => match s with
    | .Assign [tg] v p => chkE G M false e c v && chkG G M t c (List.range c.N.length) tg && !isStar tg && (!isTupT tg || !isTupE v) &&
        (!isComp v || !isNameE tg || notLocal c tg || (isCompC e && setOk c t tg v 0))
    | _ => false
  | .par i j a b, c, s => match s with
    | .Assign [.Tuple [.Name x px, .Name y py] _ _] (.Tuple [u, v] _ _) _ => c.calm && decide (i ≠ j) && decide (c.N[i]? = some x) && decide (c.N[j]? = some y) && isLocalK (c.sc.names.lookup x) && isLocalK (c.sc.names.lookup y) &&
        decide (x ≠ y) && (px.line == py.line) && !isStar u && !isStar v && !([u, v].all (foldedForSure 8)) && !([u, v].all (constantsAlone 8)) && chkE G M false a c u && chkE G M false b c v
    | _ => false
  | .aug i op e, c, s => match s with
    | .AugAssign (.Name x _) o v _ => decide (o = toOp op) && (decide (op = .add) || decide (op = .sub)) && c.isSet i x && chkE G M false e c v
    | _ => false
  | .ret e, c, s => match s with
    | .Return (some v) _ => chkE G M false e c v
    | _ => false
  | .ex e, c, s => match s with
    | .Expr v _ => chkE G M false e c v && !isComp v
    | _ => false
  | .iff u a b, c, s => match s with
    | .If x y z _ => chkE G M true u c x && chkB a c y && chkB b c z
    | _ => false
  | .whl u b, c, s => match s with
    | .While x y [] _ => c.top && chkE G M true u c x && chkB b c y
    | _ => false
  | .forr t it b, c, s => match s with
    | .For tg x y [] _ => c.top && c.calm && chkI G M it c tg x && notSetE x && chkG G M t c (List.range c.N.length) tg && chkB b c y
    | _ => false
  | .raise k xs, c, s => match s with
    | .Raise (some (.Call (.Name x _) [] [] _)) none _ => isNilC xs && c.calm && c.isGl x && decide (M.cname k = some x) && decide (G.field k = some none)
    | _ => false
  | .pass, _, s => match s with
    | .Pass _ => true
    | _ => false
  | .brk, _, s => match s with
    | .Break _ => true
    | _ => false
  | .cont, _, s => match s with
    | .Continue _ => true
    | _ => false
  | .tryN b, c, s => match s with
    | .Try x (_ :: _) [] [] _ => c.calm && chkB b c x
    | _ => false
  | .tryE b k i alts, c, s => match s with
    | .Try x [.ExceptHandler (some (.Name y _)) (some n) (z :: suite) _] [] [] _ => c.top && c.calm && c.isGl y && decide (M.cname k = some y) && decide (c.N[i]? = some n) && isLocalK (c.sc.names.lookup n) && chkB b c x && chkA alts k i c (z :: suite)
    | _ => false
  | .never, _, _ => true
  | _, _, _ => false
def chkB : C → Cc → List Stmt → Bool
  | .nil, _, s => s.isEmpty
  | .cons a r, c, s => match s with
    | x :: s => chkS a c x && chkB r c s
    | [] => false
  | _, _, _ => false
def chkA : C → Nat → Nat → Cc → List Stmt → Bool
  | .alt k h r, ci, i, c, s => decide (G.sub k ci = some true) && chkB h { c with calm := false, top := false, err := some (i, k) } s && chkA r ci i c s
  | .nil, _, _, _, _ => true
  | _, _, _, _, _ => false
end
end
end Pv
end

section
set_option autoImplicit false
set_option linter.all false
set_option maxHeartbeats 4000000
set_option maxRecDepth 10000
/-! Pv21: what a context must have; expressions are sound. -/
namespace Pv
open PySem L2 PySem.Spec PyProof.Rows
section
variable (G : Prog) (M : Nm) (w d : Nat) (call mk : Call)
/-- where calls may be made -/
structure Calm (T : Tb) (X : Cx) : Prop where
  calm : X.calm = true
  hold : T.hold = []
  room : Room (d + 1) X.A
  fn : ∀ f x, M.glob f = some x → ∃ g, X.mg x = some (.ref g) ∧ FnAt X T (d + 1) g (call f)
  meth : ∀ ci mi f, G.meth ci mi = some f → Cls X.K (T.cls ci) ∧ ∃ g, Meth X.K (T.cls ci) (T.att mi) g ∧ FnAt X T (d + 1) g (call f)
  bmeth : ∀ ci mi f, M.stars.contains mi = true → G.meth ci mi = some f → Cls X.K (T.cls ci) ∧ ∃ g, BMeth X.K (T.cls ci) (T.att mi) g ∧ FnAt X T (d + 1) g (call f)
  init : ∀ ci f, G.init ci = some f → ∃ g, Mk X.K (T.cls ci) g ∧ FnAt X T d g (mk f)
/-- what stands of a caught exception -/
def Held (T : Tb) (X : Cx) (i ci : Nat) : Prop :=
  ∃ (X0 : Cx) (a : Addr) (oe : Obj) (pn : List (Addr × Obj)), X = X0.suite a ((a, oe) :: pn) ∧ (i, a) ∈ T.hold ∧ L2.ExcC X.K (T.cls ci) ∧ Zc (.ref (T.cls ci)) none oe ∧ ∃ vs, oe.data = .fields vs
structure Fit (T : Tb) (W : WX) (X : Cx) (c : Cc) : Prop where
  hK : T.K = X.K
  inj : ∀ i j, T.att i = T.att j → i = j
  att : ∀ f, T.att f = M.att f
  N : X.N = c.N
  nd : X.N.Nodup
  sc : X.env.scope = c.sc
  kind : c.sc.kind = .function
  fnS : ∀ x, c.fn x = true → X.fn x = true
  hu : X.A.units + 64 < cLine
  free : ∀ x, M.free.contains x = true → X.mg x = none
  konst : ∀ q ∈ M.konstI, ∃ t, X.mg q.1 = some (.int q.2 t)
  cls : ∀ ci x, M.cname ci = some x → X.mg x = some (.ref (T.cls ci))
  flds : ∀ ci f, G.flds ci f = true → Cls X.K (T.cls ci) ∧ NoAttr X.K (T.cls ci) (T.att f)
  exc : ∀ ci, G.field ci = some none → ExcF X.K (T.cls ci)
  sub : ∀ ci cj u, G.sub ci cj = some u → PySem.W.kitOne X.K (.ref (T.cls ci)) (.ref (T.cls cj)) = some u ∧ PySem.W.exmOne X.K (.ref (T.cls ci)) (.ref (T.cls cj)) = some u ∧ L2.ExcC X.K (T.cls ci)
  tk : Takes X W
  cm : c.calm = true → Calm G M d call mk T X
  top : c.top = true → (X.stack = X.env :: X.outer ∧ X.env.frame = some X.env.locals) ∧ PassesOwn (model X.prog X.w) X.A X.env X.xe
  err : ∀ i ci, c.err = some (i, ci) → Held T X i ci
end
section
variable {G : Prog} {M : Nm} {w d : Nat} {call mk : Call} {T : Tb} {W : WX} {X : Cx} {c : Cc}
abbrev FitA (G : Prog) (M : Nm) (d : Nat) (call mk : Call) (T : Tb) (W : WX) (X : Cx) (c : Cc) : Prop := Fit G M d call mk T W X c
theorem okName_d {x : Str} (h : okName x = true) : (x == ("__debug__" : Str)) = false := by
  unfold okName at h
  simp only [Bool.and_eq_true, Bool.not_eq_true'] at h
  exact h.1
theorem okName_c {x : Str} (h : okName x = true) : (x == ("__classdict__" : Str)) = false := by
  unfold okName at h
  simp only [Bool.and_eq_true, Bool.not_eq_true'] at h
  exact h.2
theorem vis_of {sc : Scope} {x : Str} (h : visK (sc.names.lookup x) = true) : Vis sc x := by
  unfold Vis
  cases e : sc.names.lookup x with
  | none => rw [e] at h; cases h
  | some k =>
    rw [e] at h
    cases k <;> first | exact .inl rfl | exact .inr (.inl rfl) | exact .inr (.inr rfl) | exact absurd h Bool.false_ne_true
theorem loc_of {sc : Scope} {x : Str} (h : locK (sc.names.lookup x) = true) : L2.Loc sc x := by
  unfold L2.Loc
  cases e : sc.names.lookup x with
  | none => rw [e] at h; cases h
  | some k =>
    rw [e] at h
    cases k <;> first | exact .inl rfl | exact .inr rfl | exact absurd h Bool.false_ne_true
theorem local_of {sc : Scope} {x : Str} (h : isLocalK (sc.names.lookup x) = true) : sc.names.lookup x = some .local := by
  cases e : sc.names.lookup x with
  | none => rw [e] at h; cases h
  | some k =>
    rw [e] at h
    cases k <;> first | rfl | exact absurd h Bool.false_ne_true
theorem gl_of {sc : Scope} {x : Str} (h : isGlK (sc.names.lookup x) = true) : sc.names.lookup x = some .globalImplicit := by
  cases e : sc.names.lookup x with
  | none => rw [e] at h; cases h
  | some k =>
    rw [e] at h
    cases k <;> first | rfl | exact absurd h Bool.false_ne_true
theorem Fit.gl (F : Fit G M d call mk T W X c) {x : Str} (h : c.isGl x = true) : Gl X x ∧ (x == ("__debug__" : Str)) = false := by
  unfold Cc.isGl at h
  simp only [Bool.and_eq_true] at h
  refine ⟨?_, okName_d h.2⟩
  show X.env.scope.names.lookup x = _
  rw [F.sc]
  exact gl_of h.1
theorem Fit.var (F : Fit G M d call mk T W X c) {i : Nat} {x : Str} {p : Pos} (h : c.isVar i x = true) : PE X (.Name x p) (tVar i) := by
  unfold Cc.isVar at h
  simp only [Bool.and_eq_true, decide_eq_true_eq] at h
  exact pe_var (by rw [F.N]; exact h.1.1) (by rw [F.sc]; exact vis_of h.1.2) (okName_d h.2) (okName_c h.2)
theorem Fit.blt (F : Fit G M d call mk T W X c) {x : Str} {b : String} (h : c.isB M x b = true) : x = Str.ofString b ∧ Gl X x ∧ X.mg x = none ∧ (x == ("__debug__" : Str)) = false ∧ x ≠ "__name__" := by
  unfold Cc.isB at h
  simp only [Bool.and_eq_true, decide_eq_true_eq, Bool.not_eq_true'] at h
  obtain ⟨⟨⟨h1, h2⟩, h3⟩, h4⟩ := h
  exact ⟨h1, (F.gl h2).1, F.free x h3, (F.gl h2).2, by simpa using h4⟩
/-! ### constants -/
theorem sE_conC {dd : D} {e : Expr} (F : Fit G M d call mk T W X c) (h : c.isCon M dd e = true) : PE X e (tE T W fun _ S => .ok dd S) ∧ plainT e = true := by
  unfold Cc.isCon at h
  split at h
  · exact ⟨sE_con pe_non fun _ _ => rfl, rfl⟩
  · have h := beq_iff_eq.mp h
    subst h
    exact ⟨sE_con pe_bl fun _ _ => rfl, rfl⟩
  · have h := of_decide_eq_true h
    subst h
    exact ⟨sE_con pe_int fun _ _ => rfl, rfl⟩
  · have h := of_decide_eq_true h
    subst h
    exact ⟨sE_con pe_str fun _ _ => rfl, rfl⟩
  · simp only [Bool.and_eq_true, List.any_eq_true, decide_eq_true_eq] at h
    obtain ⟨h1, q, hq, h2, h3⟩ := h
    obtain ⟨t, ht⟩ := F.konst q hq
    subst h2; subst h3
    exact ⟨sE_con (pe_glob (v := .int q.2) (F.gl h1).1 ht ⟨t, rfl⟩ (F.gl h1).2) fun _ _ => rfl, rfl⟩
  · exact absurd h Bool.false_ne_true
theorem pe_one {op : BoolOp} {a : Expr} {pos : Pos} {t : TE} (h : PE X a t) : PE X (.BoolOp op [a] pos) t := ⟨fun pins s σ H Q I hw => h.run pins s σ H Q I hw⟩
theorem pt_bad {e : Expr} : PT X e (tTs T W fun _ _ => .bad) := ⟨fun _ _ _ _ _ _ ⟨_, _, _, _, _, h⟩ => False.elim h⟩
theorem pw_bad {e : Expr} : PW X e (tTs T W fun _ _ => .bad) := ⟨fun _ _ _ _ _ _ _ ⟨_, _, _, _, _, h⟩ => False.elim h⟩
/-! ### a comprehension's context -/
theorem Fit.blk (F : Fit G M d call mk T W X c) (hc : c.calm = true) {scope : Scope} {own : List (Str × Nat)} (ok : BlkOk X.N X.env.scope scope own) (s : Shared) (H : Hp) (C : Addr) (cl : List (Str × Addr)) (fp : List Addr) :
    Fit G M d call mk T W0 (X.blk s H scope (compEnvC scope cl C X.env) fp) { c with sc := relS scope c.sc, fn := fun x => scope.names.lookup x == some .cell, top := false } where
  hK := F.hK
  inj := F.inj
  att := F.att
  N := F.N
  nd := F.nd
  sc := by
    show relS scope X.env.scope = _
    rw [F.sc]
  kind := ok.kind
  fnS := fun x h => h
  hu := F.hu
  free := F.free
  konst := F.konst
  cls := F.cls
  flds := F.flds
  exc := F.exc
  sub := F.sub
  tk := takes0
  cm := fun h => let z := F.cm h; ⟨z.calm, z.hold, z.room, z.fn, z.meth, z.bmeth, z.init⟩
  top := fun h => absurd h Bool.false_ne_true
  err := fun i ci h => by
    obtain ⟨_, _, _, _, _, hm, _⟩ := F.err i ci h
    rw [(F.cm hc).hold] at hm
    cases hm
end
end Pv
end

section
set_option autoImplicit false
set_option linter.all false
set_option maxHeartbeats 4000000
set_option maxRecDepth 10000
/-! Pv22: the checker is sound: expressions. -/
namespace Pv
open PySem L2 PySem.Spec PyProof.Rows
/-- what stays fixed -/
structure Pm where
  G : Prog
  M : Nm
  w : Nat
  d : Nat
  call : Call
  mkc : Call
section
variable (P : Pm) (x : C)
abbrev Pm.fit (T : Tb) (W : WX) (X : Cx) (c : Cc) : Prop := Fit P.G P.M P.d P.call P.mkc T W X c
def SndE : Prop := ∀ (T : Tb) (W : WX) (X : Cx) (c : Cc) (e : Expr), P.fit T W X c → chkE P.G P.M false x c e = true → PE X e (tE T W (evE P.G P.w P.call P.mkc x))
def SndT : Prop := ∀ (T : Tb) (W : WX) (X : Cx) (c : Cc) (e : Expr), P.fit T W X c → chkE P.G P.M true x c e = true → PT X e (tTs T W (evT P.G P.w P.call P.mkc x)) ∧ ∀ op vs p, e = .BoolOp op vs p → PW X e (tTs T W (evT P.G P.w P.call P.mkc x))
def SndL : Prop := ∀ (T : Tb) (W : WX) (X : Cx) (c : Cc) (es : List Expr), P.fit T W X c → chkL P.G P.M x c es = true → PA X es (tLs T W (evL P.G P.w P.call P.mkc x)) ∧ (noStars es = true → LenR es.length (evL P.G P.w P.call P.mkc x)) ∧ (es = [] → ∀ σ S, evL P.G P.w P.call P.mkc x σ S = .ok [] S)
def SndK : Prop := ∀ (T : Tb) (W : WX) (X : Cx) (c : Cc) (es : List Expr), P.fit T W X c → chkK P.G P.M x c es = true → PTs X es (tTs T W (evK P.G P.w P.call P.mkc x))
def SndO : Prop := ∀ (T : Tb) (W : WX) (X : Cx) (c : Cc) (e : Option Expr), P.fit T W X c → chkO P.G P.M x c e = true → PO X e (tOs T W (evO P.G P.w P.call P.mkc x))
def SndP : Prop := ∀ (T : Tb) (W : WX) (X : Cx) (c : Cc) (p : Pos) (ks : List (Option Expr)) (vs : List Expr), P.fit T W X c → chkP P.G P.M x c ks vs = true → PPd T W X p ks vs (evD P.G P.w P.call P.mkc x)
def SndI : Prop := ∀ (T : Tb) (W : WX) (X : Cx) (c : Cc) (tg e : Expr), P.fit T W X c → chkI P.G P.M x c tg e = true → PI X tg e (tIs T W (evI P.G P.w P.call P.mkc x))
def SndG : Prop := ∀ (T : Tb) (W : WX) (X : Cx) (c : Cc) (ws : List Nat) (e : Expr), P.fit T W X c → chkG P.G P.M x c ws e = true → PG X e (tGd T ws (evG P.G P.w P.call P.mkc x))
def SndGs : Prop := ∀ (T : Tb) (W : WX) (X : Cx) (c : Cc) (ws : List Nat) (es : List Expr), P.fit T W X c → chkGs P.G P.M x c ws es = true → PGs X es (tGsd T ws (evGs P.G P.w P.call P.mkc x)) ∧ ∀ ds σ S, ds.length ≠ es.length → evGs P.G P.w P.call P.mkc x ds σ S = .bad
/-- what a core text's check promises of expressions -/
structure Snd : Prop where
  E : SndE P x := by exact fun _ _ _ _ _ _ h => absurd h Bool.false_ne_true
  T : SndT P x := by exact fun _ _ _ _ _ _ _ => ⟨pt_bad, fun _ _ _ _ => pw_bad⟩
  L : SndL P x := by exact fun _ _ _ _ _ _ h => absurd h Bool.false_ne_true
  K : SndK P x := by exact fun _ _ _ _ _ _ h => absurd h Bool.false_ne_true
  O : SndO P x := by exact fun _ _ _ _ _ _ h => absurd h Bool.false_ne_true
  Pr : SndP P x := by exact fun _ _ _ _ _ _ _ _ h => absurd h Bool.false_ne_true
  I : SndI P x := by exact fun _ _ _ _ _ _ _ h => absurd h Bool.false_ne_true
  G : SndG P x := by exact fun _ _ _ _ _ _ _ h => absurd h Bool.false_ne_true
  Gs : SndGs P x := by exact fun _ _ _ _ _ _ _ h => absurd h Bool.false_ne_true
  C2 : ∀ a r, x = .cons a r → SndE P a ∧ SndP P r := by exact fun _ _ h => nomatch h
end
section
variable {P : Pm} {a b q : C}
/-- as a test, by the value's truth -/
theorem base_T {x : C} (hT : ∀ σ S, evT P.G P.w P.call P.mkc x σ S = (evE P.G P.w P.call P.mkc x σ S).truth) (hE : SndE P x) (hc : ∀ c e, chkE P.G P.M true x c e = chkE P.G P.M false x c e) (hp : ∀ c e, chkE P.G P.M false x c e = true → plainT e = true ∧ ∀ op vs p, e ≠ .BoolOp op vs p) : SndT P x :=
  fun T W X c e F h => by
    rw [hc] at h
    have e1 : evT P.G P.w P.call P.mkc x = fun σ S => (evE P.G P.w P.call P.mkc x σ S).truth := by
      funext σ S
      exact hT σ S
    obtain ⟨p1, p2⟩ := hp c e h
    refine ⟨?_, fun op vs p eq => absurd eq (p2 op vs p)⟩
    rw [e1]
    exact sT_truth F.hK (hE T W X c e F h) p1
theorem snd_con (dd : D) : Snd P (.con dd) where
  E := fun T W X c e F h => (sE_conC F h).1
  T := by
    refine base_T (fun _ _ => rfl) (fun T W X c e F h => (sE_conC F h).1) (fun _ _ => rfl) fun c e h => ?_
    have h : c.isCon P.M dd e = true := h
    unfold Cc.isCon at h
    split at h <;> first | exact absurd h Bool.false_ne_true | exact ⟨rfl, fun _ _ _ => by simp⟩
theorem snd_varE (i : Nat) : SndE P (.var i) := fun T W X c e F h => by
  cases e <;> first | exact absurd h Bool.false_ne_true | skip
  exact sE_var (F.var h)
theorem snd_var (i : Nat) : Snd P (.var i) where
  E := snd_varE i
  T := by
    refine base_T (fun _ _ => rfl) (snd_varE i) (fun _ _ => rfl) fun c e h => ?_
    cases e <;> first | exact absurd h Bool.false_ne_true | exact ⟨rfl, fun _ _ _ => by simp⟩
  G := fun T W X c ws e F h => by
    cases e <;> first | exact absurd h Bool.false_ne_true | skip
    rename_i y p
    have h : (c.isSet i y && ws.contains i) = true := h
    unfold Cc.isSet at h
    simp only [Bool.and_eq_true, decide_eq_true_eq, Bool.or_eq_true] at h
    obtain ⟨⟨⟨h1, h2⟩, h3⟩, h4⟩ := h
    refine sG_var F.nd (by rw [F.N]; exact h1) (by rw [F.sc]; exact loc_of h2) ?_ (by simpa using h4)
    rcases h3 with h3 | h3
    · exact .inl (F.fnS _ h3)
    · rw [F.sc]; exact .inr (local_of h3)
theorem snd_bin (op : BOp) (ha : Snd P a) (hb : Snd P b) : Snd P (.bin op a b) where
  E := fun T W X c e F h => by
    cases e <;> first | exact absurd h Bool.false_ne_true | skip
    rename_i u o v p
    have h : (decide (o = toOp op) && chkE P.G P.M false a c u && chkE P.G P.M false b c v) = true := h
    simp only [Bool.and_eq_true, decide_eq_true_eq] at h
    obtain ⟨⟨h1, h2⟩, h3⟩ := h
    subst h1
    exact sE_bin F.hK op (ha.E T W X c u F h2) (hb.E T W X c v F h3)
theorem snd_neg (ha : Snd P a) : Snd P (.neg a) where
  E := fun T W X c e F h => by
    cases e <;> first | exact absurd h Bool.false_ne_true | skip
    rename_i o v p
    cases o <;> first | exact absurd h Bool.false_ne_true | skip
    exact sE_neg (ha.E T W X c v F h)
theorem snd_not (ha : Snd P a) : Snd P (.not a) where
  E := fun T W X c e F h => by
    cases e <;> first | exact absurd h Bool.false_ne_true | skip
    rename_i o v p
    cases o <;> first | exact absurd h Bool.false_ne_true | skip
    exact sE_not F.hK (ha.E T W X c v F h)
  T := fun T W X c e F h => by
    cases e <;> first | exact absurd h Bool.false_ne_true | skip
    rename_i o v p
    cases o <;> first | exact absurd h Bool.false_ne_true | skip
    exact ⟨sT_not (ha.T T W X c v F h).1, fun _ _ _ e => nomatch e⟩
theorem snd_and (ha : Snd P a) (hb : Snd P b) : Snd P (.and a b) where
  E := fun T W X c e F h => by
    cases e <;> first | exact absurd h Bool.false_ne_true | skip
    rename_i o vs p
    cases o <;> first | exact absurd h Bool.false_ne_true | skip
    match vs, h with
    | [u, v], h =>
      have h : (chkE P.G P.M false a c u && chkE P.G P.M false b c v) = true := h
      simp only [Bool.and_eq_true] at h
      exact sE_and F.hK (ha.E T W X c u F h.1) (pe_one (hb.E T W X c v F h.2))
    | u :: v :: z :: r, h =>
      have h : (chkE P.G P.M false a c u && isAndC b && chkE P.G P.M false b c (.BoolOp .And (v :: z :: r) p)) = true := h
      simp only [Bool.and_eq_true] at h
      exact sE_and F.hK (ha.E T W X c u F h.1.1) (hb.E T W X c _ F h.2)
  T := fun T W X c e F h => by
    cases e <;> first | exact absurd h Bool.false_ne_true | skip
    rename_i o vs p
    cases o <;> first | exact absurd h Bool.false_ne_true | skip
    have key : PW X (.BoolOp .And vs p) (tTs T W (evT P.G P.w P.call P.mkc (.and a b))) := by
      match vs, h with
      | [u, v], h =>
        have h : (chkE P.G P.M true a c u && chkE P.G P.M true b c v) = true := h
        simp only [Bool.and_eq_true] at h
        exact sT_and (ha.T T W X c u F h.1).1 (sT_and1 (hb.T T W X c v F h.2).1)
      | u :: v :: z :: r, h =>
        have h : (chkE P.G P.M true a c u && isAndC b && chkE P.G P.M true b c (.BoolOp .And (v :: z :: r) p)) = true := h
        simp only [Bool.and_eq_true] at h
        exact sT_and (ha.T T W X c u F h.1.1).1 ((hb.T T W X c _ F h.2).2 _ _ _ rfl)
    exact ⟨key.pt, fun _ _ _ e => by cases e; exact key⟩
theorem snd_or (ha : Snd P a) (hb : Snd P b) : Snd P (.or a b) where
  E := fun T W X c e F h => by
    cases e <;> first | exact absurd h Bool.false_ne_true | skip
    rename_i o vs p
    cases o <;> first | exact absurd h Bool.false_ne_true | skip
    match vs, h with
    | [u, v], h =>
      have h : (chkE P.G P.M false a c u && chkE P.G P.M false b c v) = true := h
      simp only [Bool.and_eq_true] at h
      exact sE_or F.hK (ha.E T W X c u F h.1) (pe_one (hb.E T W X c v F h.2))
    | u :: v :: z :: r, h =>
      have h : (chkE P.G P.M false a c u && isOrC b && chkE P.G P.M false b c (.BoolOp .Or (v :: z :: r) p)) = true := h
      simp only [Bool.and_eq_true] at h
      exact sE_or F.hK (ha.E T W X c u F h.1.1) (hb.E T W X c _ F h.2)
  T := fun T W X c e F h => by
    cases e <;> first | exact absurd h Bool.false_ne_true | skip
    rename_i o vs p
    cases o <;> first | exact absurd h Bool.false_ne_true | skip
    have key : PW X (.BoolOp .Or vs p) (tTs T W (evT P.G P.w P.call P.mkc (.or a b))) := by
      match vs, h with
      | [u, v], h =>
        have h : (chkE P.G P.M true a c u && chkE P.G P.M true b c v) = true := h
        simp only [Bool.and_eq_true] at h
        exact sT_or (ha.T T W X c u F h.1).1 (sT_or1 (hb.T T W X c v F h.2).1)
      | u :: v :: z :: r, h =>
        have h : (chkE P.G P.M true a c u && isOrC b && chkE P.G P.M true b c (.BoolOp .Or (v :: z :: r) p)) = true := h
        simp only [Bool.and_eq_true] at h
        exact sT_or (ha.T T W X c u F h.1.1).1 ((hb.T T W X c _ F h.2).2 _ _ _ rfl)
    exact ⟨key.pt, fun _ _ _ e => by cases e; exact key⟩
theorem snd_cmp (op : COp) (ha : Snd P a) (hb : Snd P b) : Snd P (.cmp op a b) := by
  have key : ∀ (c : Cc) (e : Expr) (t : Bool), chkE P.G P.M t (.cmp op a b) c e = true → ∃ u v p, e = .Compare u [toCmp op] [v] p ∧ chkE P.G P.M false a c u = true ∧ chkE P.G P.M false b c v = true ∧ notSetE v = true := by
    intro c e t h
    cases e <;> first | exact absurd h Bool.false_ne_true | skip
    rename_i u os vs p
    match os, vs, h with
    | [o], [v], h =>
      have h : (decide (o = toCmp op) && chkE P.G P.M false a c u && chkE P.G P.M false b c v && notSetE v) = true := h
      simp only [Bool.and_eq_true, decide_eq_true_eq] at h
      obtain ⟨⟨⟨h1, h2⟩, h3⟩, h4⟩ := h
      subst h1
      exact ⟨u, v, p, rfl, h2, h3, h4⟩
  have ns : ∀ v : Expr, notSetE v = true → behindInMarks (toCmp op) v = false := fun v hv => notInSet (by cases v <;> first | rfl | cases hv)
  exact {
    E := fun T W X c e F h => by
      obtain ⟨u, v, p, rfl, h2, h3, h4⟩ := key c e _ h
      exact sE_cmp F.hK F.hu op (ha.E T W X c u F h2) (hb.E T W X c v F h3) (ns v h4)
    T := fun T W X c e F h => by
      obtain ⟨u, v, p, rfl, h2, h3, h4⟩ := key c e _ h
      exact ⟨sT_cmp F.hK F.hu op (ha.E T W X c u F h2) (hb.E T W X c v F h3) (ns v h4), fun _ _ _ e => nomatch e⟩ }
theorem snd_chain (o1 o2 : COp) (ha : Snd P a) (hb : Snd P b) (hq : Snd P q) : Snd P (.chain o1 o2 a b q) := by
  have key : ∀ (c : Cc) (e : Expr) (t : Bool), chkE P.G P.M t (.chain o1 o2 a b q) c e = true → ∃ u v z p, e = .Compare u [toCmp o1, toCmp o2] [v, z] p ∧ chkE P.G P.M false a c u = true ∧ chkE P.G P.M false b c v = true ∧ chkE P.G P.M false q c z = true ∧ lastMarks [toCmp o1, toCmp o2] [v, z] = false := by
    intro c e t h
    cases e <;> first | exact absurd h Bool.false_ne_true | skip
    rename_i u os vs p
    match os, vs, h with
    | [p1, p2], [v, z], h =>
      have h : (decide (p1 = toCmp o1) && decide (p2 = toCmp o2) && chkE P.G P.M false a c u && chkE P.G P.M false b c v && chkE P.G P.M false q c z && !(lastMarks [p1, p2] [v, z])) = true := h
      simp only [Bool.and_eq_true, decide_eq_true_eq, Bool.not_eq_true'] at h
      obtain ⟨⟨⟨⟨⟨h1, h2⟩, h3⟩, h4⟩, h5⟩, h6⟩ := h
      subst h1; subst h2
      exact ⟨u, v, z, p, rfl, h3, h4, h5, h6⟩
  exact {
    E := fun T W X c e F h => by
      obtain ⟨u, v, z, p, rfl, h2, h3, h4, h5⟩ := key c e _ h
      exact sE_chain F.hK F.hu o1 o2 (ha.E T W X c u F h2) (hb.E T W X c v F h3) (hq.E T W X c z F h4) h5
    T := fun T W X c e F h => by
      obtain ⟨u, v, z, p, rfl, h2, h3, h4, h5⟩ := key c e _ h
      exact ⟨sT_chain F.hK F.hu o1 o2 (ha.E T W X c u F h2) (hb.E T W X c v F h3) (hq.E T W X c z F h4) h5, fun _ _ _ e => nomatch e⟩ }
theorem snd_ite (hq : Snd P q) (ha : Snd P a) (hb : Snd P b) : Snd P (.ite q a b) where
  E := fun T W X c e F h => by
    cases e <;> first | exact absurd h Bool.false_ne_true | skip
    rename_i u v z p
    have h : (!false && chkE P.G P.M true q c u && chkE P.G P.M false a c v && chkE P.G P.M false b c z) = true := h
    simp only [Bool.and_eq_true] at h
    exact sE_ite (hq.T T W X c u F h.1.1.2).1 (ha.E T W X c v F h.1.2) (hb.E T W X c z F h.2)
  T := fun T W X c e F h => by
    cases e <;> first | exact absurd h Bool.false_ne_true | skip
/-! ### lists -/
theorem nil_es {es : List Expr} (h : es.isEmpty = true) : es = [] := by
  cases es with
  | nil => rfl
  | cons a b => cases h
theorem snd_nil : Snd P .nil where
  L := fun T W X c es F h => by
    have e := nil_es h
    subst e
    exact ⟨sL_nil, fun _ σ S l S' e => by cases e; rfl, fun _ _ _ => rfl⟩
  K := fun T W X c es F h => by
    have e := nil_es h
    subst e
    exact sK_nil
  O := fun T W X c e F h => by
    cases e with
    | none => exact sO_nil
    | some e => cases h
  Pr := fun T W X c p ks vs F h => by
    have h : (ks.isEmpty && vs.isEmpty) = true := h
    simp only [Bool.and_eq_true] at h
    have e2 := nil_es h.2
    subst e2
    cases ks with
    | nil => exact sP_nil
    | cons a b => cases h.1
  Gs := fun T W X c ws es F h => by
    have e := nil_es h
    subst e
    refine ⟨sGs_nil fun ds σ S => ?_, fun ds σ S hl => ?_⟩
    · cases ds <;> rfl
    · cases ds with
      | nil => exact absurd rfl hl
      | cons d r => rfl
theorem snd_cons (ha : Snd P a) (hb : Snd P b) : Snd P (.cons a b) where
  L := fun T W X c es F h => by
    cases es with
    | nil => cases h
    | cons e es =>
      have h : (!isStar e && chkE P.G P.M false a c e && chkL P.G P.M b c es) = true := h
      simp only [Bool.and_eq_true, Bool.not_eq_true'] at h
      obtain ⟨⟨h1, h2⟩, h3⟩ := h
      obtain ⟨r1, r2, _⟩ := hb.L T W X c es F h3
      refine ⟨sL_cons (ha.E T W X c e F h2) r1 h1, fun hs σ S l S' el => ?_, fun e => nomatch e⟩
      have hs : noStars es = true := by
        have hs : ((!isStar e) && noStars es) = true := hs
        simp only [Bool.and_eq_true] at hs
        exact hs.2
      have el : ((evE P.G P.w P.call P.mkc a σ S).bind fun x S1 => (evL P.G P.w P.call P.mkc b σ S1).bind fun xs S2 => R.ok (x :: xs) S2) = .ok l S' := el
      cases e1 : evE P.G P.w P.call P.mkc a σ S with
      | ok y S1 =>
        rw [e1] at el
        have el : ((evL P.G P.w P.call P.mkc b σ S1).bind fun xs S2 => R.ok (y :: xs) S2) = .ok l S' := el
        cases e2 : evL P.G P.w P.call P.mkc b σ S1 with
        | ok ys S2 =>
          rw [e2] at el
          have el : R.ok (y :: ys) S2 = .ok l S' := el
          have hlen := r2 hs σ S1 ys S2 e2
          cases el
          rw [List.length_cons, List.length_cons, hlen]
        | exc x S2 => rw [e2] at el; cases el
        | bad => rw [e2] at el; cases el
      | exc x S2 => rw [e1] at el; cases el
      | bad => rw [e1] at el; cases el
  K := fun T W X c es F h => by
    match es, h with
    | [e], h => exact sK_one (ha.T T W X c e F h).1
  O := fun T W X c e F h => by
    cases e with
    | none => cases h
    | some e => exact sO_some (ha.E T W X c e F h)
  Pr := fun T W X c p ks vs F h => by
    cases b <;> first | exact absurd h Bool.false_ne_true | skip
    rename_i v r
    obtain ⟨hv, hr⟩ := hb.C2 v r rfl
    match ks, vs, h with
    | some u :: ks, z :: vs, h =>
      have h : (chkE P.G P.M false a c u && chkE P.G P.M false v c z && chkP P.G P.M r c ks vs) = true := h
      simp only [Bool.and_eq_true] at h
      exact sP_cons (ha.E T W X c u F h.1.1) (hv T W X c z F h.1.2) (hr T W X c p ks vs F h.2)
  Gs := fun T W X c ws es F h => by
    cases es with
    | nil => cases h
    | cons e es =>
      have h : (!isStar e && chkG P.G P.M a c ws e && chkGs P.G P.M b c ws es) = true := h
      simp only [Bool.and_eq_true, Bool.not_eq_true'] at h
      obtain ⟨⟨h1, h2⟩, h3⟩ := h
      obtain ⟨r1, r2⟩ := hb.Gs T W X c ws es F h3
      refine ⟨sGs_cons (fun ds σ S => ?_) (ha.G T W X c ws e F h2) r1 h1, fun ds σ S hl => ?_⟩
      · cases ds <;> rfl
      · cases ds with
        | nil => rfl
        | cons dd r =>
          have hl2 : r.length ≠ es.length := fun e => hl (by rw [List.length_cons, List.length_cons, e])
          show (evG P.G P.w P.call P.mkc a dd σ S).bind0 (fun σ1 S1 => evGs P.G P.w P.call P.mkc b r σ1 S1) = .bad
          cases evG P.G P.w P.call P.mkc a dd σ S with
          | ok σ1 S1 => exact r2 r σ1 S1 hl2
          | exc x S1 => rfl
          | bad => rfl
  C2 := fun u r e => by
    cases e
    exact ⟨ha.E, hb.Pr⟩
theorem snd_star (ha : Snd P a) (hb : Snd P b) : Snd P (.star a b) where
  L := fun T W X c es F h => by
    cases es with
    | nil => cases h
    | cons e es =>
      cases e <;> first | exact absurd h Bool.false_ne_true | skip
      rename_i e p
      have h : (chkE P.G P.M false a c e && chkL P.G P.M b c es) = true := h
      simp only [Bool.and_eq_true] at h
      exact ⟨sL_star F.hK (ha.E T W X c e F h.1) (hb.L T W X c es F h.2).1, (fun hs => absurd hs Bool.false_ne_true), fun e => nomatch e⟩
theorem snd_tup (ha : Snd P a) : Snd P (.tup a) where
  E := fun T W X c e F h => by
    cases e <;> first | exact absurd h Bool.false_ne_true | skip
    exact sE_tup (ha.L T W X c _ F h).1
  G := fun T W X c ws e F h => by
    cases e <;> first | exact absurd h Bool.false_ne_true | skip
    rename_i es kk p
    have h : (c.calm && noStars es && chkGs P.G P.M a c ws es) = true := h
    simp only [Bool.and_eq_true] at h
    obtain ⟨⟨h1, h2⟩, h3⟩ := h
    obtain ⟨r1, r2⟩ := ha.Gs T W X c ws es F h3
    exact sG_tup F.hK (F.cm h1).calm r1 h2 r2
theorem snd_lst (ha : Snd P a) : Snd P (.lst a) where
  E := fun T W X c e F h => by
    cases e <;> first | exact absurd h Bool.false_ne_true | skip
    exact sE_lst (ha.L T W X c _ F h).1
end
end Pv
end

section
set_option autoImplicit false
set_option linter.all false
set_option maxHeartbeats 4000000
set_option maxRecDepth 10000
/-! Pv23: the checker is sound: subscripts, attributes, calls, comprehensions, what is walked. -/
namespace Pv
open PySem L2 PySem.Spec PyProof.Rows
section
variable {P : Pm} {a b q x1 x2 x3 x4 : C}
theorem snd_dict (t : Bool) (ha : Snd P a) : Snd P (.dict t a) where
  E := fun T W X c e F h => by
    cases e <;> first | exact absurd h Bool.false_ne_true | skip
    rename_i ks vs p
    by_cases en : a = .nil
    · subst en
      have h : (ks.isEmpty && vs.isEmpty) = true := h
      simp only [Bool.and_eq_true] at h
      have e2 := nil_es h.2
      subst e2
      cases ks with
      | cons a b => cases h.1
      | nil =>
        cases t with
        | true => exact sE_dictT
        | false => exact sE_dictK
    · have h : (!t && chkP P.G P.M a c ks vs && ks.all (·.isSome) && decide (ks.length = vs.length) && !ks.isEmpty && decide (ks.length ≤ 15)) = true := by
        cases a <;> first | exact absurd rfl en | exact h
      simp only [Bool.and_eq_true, decide_eq_true_eq, Bool.not_eq_true'] at h
      obtain ⟨⟨⟨⟨⟨h1, h2⟩, h3⟩, h4⟩, h5⟩, h6⟩ := h
      subst h1
      have z := sE_disp (ha.Pr T W X c p ks vs F h2) h3 h4 (fun e => by subst e; cases h5) h6
      have e1 : evE P.G P.w P.call P.mkc (.dict false a) = fun σ S => evD P.G P.w P.call P.mkc a S.length [] σ (S ++ [.dK []]) := by
        cases a <;> first | exact absurd rfl en | rfl
      rw [e1]
      exact z
theorem snd_subE (ha : Snd P a) (hb : Snd P b) : SndE P (.sub a b) := fun T W X c e F h => by
  cases e <;> first | exact absurd h Bool.false_ne_true | skip
  rename_i u v p
  have h : (chkE P.G P.M false a c u && chkE P.G P.M false b c v && !isSl v) = true := h
  simp only [Bool.and_eq_true, Bool.not_eq_true'] at h
  exact sE_sub F.hK (by have := F.hu; omega) (ha.E T W X c u F h.1.1) (hb.E T W X c v F h.1.2) h.2
theorem snd_sub (ha : Snd P a) (hb : Snd P b) : Snd P (.sub a b) where
  E := snd_subE ha hb
  T := by
    refine base_T (fun _ _ => rfl) (snd_subE ha hb) (fun _ _ => rfl) fun c e h => ?_
    cases e <;> first | exact absurd h Bool.false_ne_true | exact ⟨rfl, fun _ _ _ => by simp⟩
  G := fun T W X c ws e F h => by
    cases e <;> first | exact absurd h Bool.false_ne_true | skip
    rename_i u v p
    have h : (chkE P.G P.M false a c u && chkE P.G P.M false b c v && !isSl v) = true := h
    simp only [Bool.and_eq_true, Bool.not_eq_true'] at h
    exact sG_sub (by have := F.hu; omega) (ha.E T W X c u F h.1.1) (hb.E T W X c v F h.1.2) h.2
theorem snd_slice (ha : Snd P a) (hb : Snd P b) (hq : Snd P q) : Snd P (.slice a b q) where
  E := fun T W X c e F h => by
    cases e <;> first | exact absurd h Bool.false_ne_true | skip
    rename_i u v p
    cases v <;> first | exact absurd h Bool.false_ne_true | skip
    rename_i l hh st p2
    cases st with
    | some z => cases h
    | none =>
      have h : (chkE P.G P.M false a c u && chkO P.G P.M b c l && chkO P.G P.M q c hh) = true := h
      simp only [Bool.and_eq_true] at h
      exact sE_slice F.hK (ha.E T W X c u F h.1.1) (hb.O T W X c l F h.1.2) (hq.O T W X c hh F h.2)
theorem snd_rev (ha : Snd P a) : Snd P (.rev a) where
  E := fun T W X c e F h0 => by
    have k : ∃ u kk p p1 p2 p3, e = .Subscript u (.Slice none none (some (.UnaryOp .USub (.Constant (.int 1) kk p1) p2)) p3) p ∧ chkE P.G P.M false a c u = true := by
      unfold chkE at h0
      split at h0 <;> first | exact absurd h0 Bool.false_ne_true | skip
      simp only [Bool.and_eq_true, decide_eq_true_eq] at h0
      obtain ⟨h1, h2⟩ := h0
      subst h1
      exact ⟨_, _, _, _, _, _, rfl, h2⟩
    obtain ⟨u, kk, p, p1, p2, p3, rfl, h2⟩ := k
    exact sE_rev (ha.E T W X c u F h2)
theorem snd_attrE (f : Nat) (ha : Snd P a) : SndE P (.attr a f) := fun T W X c e F h => by
  cases e <;> first | exact absurd h Bool.false_ne_true | skip
  rename_i u m p
  have h : (chkE P.G P.M false a c u && decide (m = P.M.att f) && plainO u) = true := h
  simp only [Bool.and_eq_true, decide_eq_true_eq] at h
  exact sE_attr F.inj (F.flds · · ·) (ha.E T W X c u F h.1.1) h.2 (by rw [F.att]; exact h.1.2)
theorem snd_attr (f : Nat) (ha : Snd P a) : Snd P (.attr a f) where
  E := snd_attrE f ha
  T := by
    refine base_T (fun _ _ => rfl) (snd_attrE f ha) (fun _ _ => rfl) fun c e h => ?_
    cases e <;> first | exact absurd h Bool.false_ne_true | exact ⟨rfl, fun _ _ _ => by simp⟩
  G := fun T W X c ws e F h => by
    cases e <;> first | exact absurd h Bool.false_ne_true | skip
    rename_i u m p
    have h : (chkE P.G P.M false a c u && decide (m = P.M.att f)) = true := h
    simp only [Bool.and_eq_true, decide_eq_true_eq] at h
    exact sG_attr F.inj (F.flds · · ·) (ha.E T W X c u F h.1) (by rw [F.att]; exact h.2)
theorem snd_callE (f : Nat) (ha : Snd P a) : SndE P (.call f a) := fun T W X c e F h => by
  cases e <;> first | exact absurd h Bool.false_ne_true | skip
  rename_i fu es ks p
  cases fu <;> first | exact absurd h Bool.false_ne_true | skip
  rename_i x p2
  cases ks with
  | cons _ _ => cases h
  | nil =>
    have h : (c.calm && decide (P.M.glob f = some x) && c.isGl x && noStars es && chkL P.G P.M a c es) = true := h
    simp only [Bool.and_eq_true, decide_eq_true_eq] at h
    obtain ⟨⟨⟨⟨h1, h2⟩, h3⟩, h4⟩, h5⟩ := h
    obtain ⟨g, hm, FA⟩ := (F.cm h1).fn f x h2
    obtain ⟨r1, _, r3⟩ := ha.L T W X c es F h5
    exact sE_call FA (F.cm h1).room F.tk (F.gl h3).1 hm h4 r1 r3 (F.gl h3).2
theorem snd_call (f : Nat) (ha : Snd P a) : Snd P (.call f a) where
  E := snd_callE f ha
  T := by
    refine base_T (fun _ _ => rfl) (snd_callE f ha) (fun _ _ => rfl) fun c e h => ?_
    cases e <;> first | exact absurd h Bool.false_ne_true | exact ⟨rfl, fun _ _ _ => by simp⟩
theorem snd_make (k : Nat) (ha : Snd P a) : Snd P (.make k a) where
  E := fun T W X c e F h => by
    cases e <;> first | exact absurd h Bool.false_ne_true | skip
    rename_i fu es ks p
    cases fu <;> first | exact absurd h Bool.false_ne_true | skip
    rename_i x p2
    cases ks with
    | cons _ _ => cases h
    | nil =>
      have h : (c.calm && decide (P.M.cname k = some x) && (P.G.init k).isSome && c.isGl x && noStars es && chkL P.G P.M a c es) = true := h
      simp only [Bool.and_eq_true, decide_eq_true_eq] at h
      obtain ⟨⟨⟨⟨⟨h1, h2⟩, h3⟩, h4⟩, h5⟩, h6⟩ := h
      cases ei : P.G.init k with
      | none => rw [ei] at h3; cases h3
      | some f =>
        obtain ⟨g, hM, FA⟩ := (F.cm h1).init k f ei
        obtain ⟨r1, _, r3⟩ := ha.L T W X c es F h6
        have z := sE_make (ci := k) (f := f) (p := p2) (pos := p) hM FA (F.cm h1).room F.tk (F.gl h4).1 (F.cls k x h2) h5 r1 r3 (F.gl h4).2
        have e1 : evE P.G P.w P.call P.mkc (.make k a) = fun σ S => (evL P.G P.w P.call P.mkc a σ S).bind fun vs S1 => (P.mkc f (.ref S1.length :: vs) (S1 ++ [.ins k []])).bind fun r S2 => match r with
            | .non => .ok (.ref S1.length) S2
            | _ => .bad := by
          funext σ S
          show ((evL P.G P.w P.call P.mkc a σ S).bind fun vs S1 => match P.G.init k with
            | some f => (P.mkc f (.ref S1.length :: vs) (S1 ++ [.ins k []])).bind fun r S2 => match r with
              | .non => .ok (D.ref S1.length) S2
              | _ => .bad
            | none => .bad) = _
          rw [ei]
        rw [e1]
        exact z
theorem snd_methE (m : Nat) (ha : Snd P a) (hb : Snd P b) : SndE P (.meth a m b) := fun T W X c e F h => by
  cases e <;> first | exact absurd h Bool.false_ne_true | skip
  rename_i fu es ks p
  cases fu <;> first | exact absurd h Bool.false_ne_true | skip
  rename_i o y apos
  cases ks with
  | cons _ _ => cases h
  | nil =>
    have h : (c.calm && chkE P.G P.M false a c o && decide (y = P.M.att m) && plainO o && noStars es && decide (es.length < 30) && (apos.endLine == p.line) && chkL P.G P.M b c es) = true := h
    simp only [Bool.and_eq_true, decide_eq_true_eq] at h
    obtain ⟨⟨⟨⟨⟨⟨⟨h1, h2⟩, h3⟩, h4⟩, h5⟩, h6⟩, h7⟩, h8⟩ := h
    obtain ⟨r1, _, r3⟩ := hb.L T W X c es F h8
    exact sE_meth (G := P.G) (cl := P.call) (mi := m) (ha.E T W X c o F h2) F.inj (fun ci f e => (F.cm h1).meth ci m f e) (F.cm h1).room F.tk h4 h5 h6 h7 r1 r3 (by rw [F.att]; exact h3)
theorem snd_meth (m : Nat) (ha : Snd P a) (hb : Snd P b) : Snd P (.meth a m b) where
  E := snd_methE m ha hb
  T := by
    refine base_T (fun _ _ => rfl) (snd_methE m ha hb) (fun _ _ => rfl) fun c e h => ?_
    cases e <;> first | exact absurd h Bool.false_ne_true | exact ⟨rfl, fun _ _ _ => by simp⟩
theorem snd_methS (m i : Nat) (ha : Snd P a) : Snd P (.methS a m i) where
  E := fun T W X c e F h0 => by
    have k : ∃ o y apos z p1 p2 p, e = .Call (.Attribute o y apos) [.Starred (.Name z p1) p2] [] p ∧ (c.calm && chkE P.G P.M false a c o && decide (y = P.M.att m) && plainO o && P.M.stars.contains m && c.isVar i z) = true := by
      unfold chkE at h0
      split at h0 <;> first | exact absurd h0 Bool.false_ne_true | skip
      exact ⟨_, _, _, _, _, _, _, rfl, h0⟩
    obtain ⟨o, y, apos, z, p1, p2, p, rfl, h⟩ := k
    simp only [Bool.and_eq_true, decide_eq_true_eq] at h
    obtain ⟨⟨⟨⟨⟨h1, h2⟩, h3⟩, h4⟩, h5⟩, h6⟩ := h
    exact sE_methS (G := P.G) (cl := P.call) (mi := m) (ha.E T W X c o F h2) F.inj (fun ci f e => (F.cm h1).bmeth ci m f h5 e) (F.cm h1).room F.tk h4 (F.var h6) (by rw [F.att]; exact h3)
theorem snd_biE (t : BI) (ha : Snd P a) : SndE P (.bi t a) := fun T W X c e F h0 => by
  have k : ∃ x p1 y p, e = .Call (.Name x p1) [y] [] p ∧ (c.calm && c.isB P.M x (biName t) && !isStar y && chkL P.G P.M a c [y]) = true := by
    unfold chkE at h0
    split at h0 <;> first | exact absurd h0 Bool.false_ne_true | skip
    exact ⟨_, _, _, _, rfl, h0⟩
  obtain ⟨x, p1, y, p, rfl, h⟩ := k
  simp only [Bool.and_eq_true, Bool.not_eq_true'] at h
  obtain ⟨⟨⟨h1, h2⟩, h3⟩, h4⟩ := h
  obtain ⟨b1, b2, b3, b4, b5⟩ := F.blt h2
  exact sE_bi F.hK (F.cm h1).calm t b2 b3 b1 b5 b4 h3 (ha.L T W X c [y] F h4).1
theorem snd_bi (t : BI) (ha : Snd P a) : Snd P (.bi t a) where
  E := snd_biE t ha
  T := by
    refine base_T (fun _ _ => rfl) (snd_biE t ha) (fun _ _ => rfl) fun c e h => ?_
    cases e <;> first | exact absurd h Bool.false_ne_true | exact ⟨rfl, fun _ _ _ => by simp⟩
theorem snd_bm (m : BM) (ha : Snd P a) (hb : Snd P b) : Snd P (.bm a m b) where
  E := fun T W X c e F h => by
    cases e <;> first | exact absurd h Bool.false_ne_true | skip
    rename_i fu es ks p
    cases fu <;> first | exact absurd h Bool.false_ne_true | skip
    rename_i o y apos
    cases ks with
    | cons _ _ => cases h
    | nil =>
      have h : (chkE P.G P.M false a c o && decide (y = Str.ofString (bmAtt m)) && plainO o && noStars es && decide (es.length < 30) && (apos.endLine == p.line) && chkL P.G P.M b c es) = true := h
      simp only [Bool.and_eq_true, decide_eq_true_eq] at h
      obtain ⟨⟨⟨⟨⟨⟨h2, h3⟩, h4⟩, h5⟩, h6⟩, h7⟩, h8⟩ := h
      obtain ⟨r1, _, r3⟩ := hb.L T W X c es F h8
      exact sE_bm (by have := F.hu; omega) m (ha.E T W X c o F h2) h4 h5 h6 h7 r1 r3 h3
theorem snd_isiE (t : Ty) (ha : Snd P a) : SndE P (.isi a t) := fun T W X c e F h0 => by
  have k : ∃ x p1 y z p2 p, e = .Call (.Name x p1) [y, .Name z p2] [] p ∧ (c.isB P.M x "isinstance" && chkE P.G P.M false a c y && !isStar y && c.isB P.M z (tyName t)) = true := by
    unfold chkE at h0
    split at h0 <;> first | exact absurd h0 Bool.false_ne_true | skip
    exact ⟨_, _, _, _, _, _, rfl, h0⟩
  obtain ⟨x, p1, y, z, p2, p, rfl, h⟩ := k
  simp only [Bool.and_eq_true, Bool.not_eq_true'] at h
  obtain ⟨⟨⟨h1, h2⟩, h3⟩, h4⟩ := h
  obtain ⟨b1, b2, b3, b4, b5⟩ := F.blt h1
  obtain ⟨c1, c2, c3, c4, c5⟩ := F.blt h4
  subst b1
  exact sE_isi t (ha.E T W X c y F h2) h3 b2 b3 c2 c3 c1 c5 c4
theorem snd_isi (t : Ty) (ha : Snd P a) : Snd P (.isi a t) where
  E := snd_isiE t ha
  T := by
    refine base_T (fun _ _ => rfl) (snd_isiE t ha) (fun _ _ => rfl) fun c e h => ?_
    cases e <;> first | exact absurd h Bool.false_ne_true | exact ⟨rfl, fun _ _ _ => by simp⟩
theorem snd_isxE (i cj : Nat) (u : Bool) : SndE P (.isx i cj u) := fun T W X c e F h0 => by
  have k : ∃ x p1 y p2 z p3 p, e = .Call (.Name x p1) [.Name y p2, .Name z p3] [] p ∧ (c.isB P.M x "isinstance" && c.isVar i y && c.isGl z && decide (P.M.cname cj = some z) && (match c.err with
      | some (j, ci) => decide (j = i) && decide (P.G.sub ci cj = some u)
      | none => false)) = true := by
    unfold chkE at h0
    split at h0 <;> first | exact absurd h0 Bool.false_ne_true | skip
    exact ⟨_, _, _, _, _, _, _, rfl, h0⟩
  obtain ⟨x, p1, y, p2, z, p3, p, rfl, h⟩ := k
  simp only [Bool.and_eq_true, decide_eq_true_eq] at h
  obtain ⟨⟨⟨⟨h1, h2⟩, h3⟩, h4⟩, h5⟩ := h
  cases ee : c.err with
  | none => rw [ee] at h5; cases h5
  | some jc =>
    obtain ⟨j, ci⟩ := jc
    rw [ee] at h5
    simp only [Bool.and_eq_true, decide_eq_true_eq] at h5
    obtain ⟨h5, h6⟩ := h5
    subst h5
    obtain ⟨b1, b2, b3, b4, b5⟩ := F.blt h1
    subst b1
    have hn := F.var (p := p2) h2
    have hz := (F.gl h3).1
    have hmz := F.cls cj z h4
    have hk := (F.sub ci cj u h6).1
    obtain ⟨X0, a', oe, pn, rfl, hT, hC, hZ, hf⟩ := F.err j ci ee
    exact sE_isExc (X := X0) hC hZ hf hT hn b2 b3 hz hmz (F.gl h3).2 hk
theorem snd_isx (i cj : Nat) (u : Bool) : Snd P (.isx i cj u) where
  E := snd_isxE i cj u
  T := by
    refine base_T (fun _ _ => rfl) (snd_isxE i cj u) (fun _ _ => rfl) fun c e h => ?_
    cases e <;> first | exact absurd h Bool.false_ne_true | exact ⟨rfl, fun _ _ _ => by simp⟩
theorem ownOf_snd (N : List Str) (vs : List Nat) : (ownOf N vs).map (·.2) = vs := by
  unfold ownOf
  rw [List.map_map]
  exact List.map_id _
/-- a comprehension's parts -/
theorem comp_parts {vs : List Nat} (h1 : Snd P x1) (h2 : Snd P x2) (h3 : Snd P x3) (h4 : Snd P x4) {T : Tb} {W : WX} {X : Cx} {c : Cc} {y tg' it' : Expr} {ifs : List Expr} {scope : Scope} (F : P.fit T W X c)
    (h : (c.calm && chkI P.G P.M x3 c tg' it' && notSetE it' && blkC c.N c.sc scope (ownOf c.N vs) &&
        chkG P.G P.M x2 { c with sc := relS scope c.sc, fn := fun x => scope.names.lookup x == some .cell, top := false } vs tg' &&
        chkK P.G P.M x4 { c with sc := relS scope c.sc, fn := fun x => scope.names.lookup x == some .cell, top := false } ifs &&
        chkE P.G P.M false x1 { c with sc := relS scope c.sc, fn := fun x => scope.names.lookup x == some .cell, top := false } y) = true) :
    X.calm = true ∧ T.hold = [] ∧ PI X tg' it' (tIs T W (evI P.G P.w P.call P.mkc x3)) ∧ BlkOk X.N X.env.scope scope (ownOf c.N vs) ∧
    (∀ (s : Shared) (H : Hp) (C : Addr) (cl : List (Str × Addr)) (fp : List Addr), PG (X.blk s H scope (compEnvC scope cl C X.env) fp) tg' (tGd T ((ownOf c.N vs).map (·.2)) (evG P.G P.w P.call P.mkc x2))) ∧
    (∀ (s : Shared) (H : Hp) (C : Addr) (cl : List (Str × Addr)) (fp : List Addr), PTs (X.blk s H scope (compEnvC scope cl C X.env) fp) ifs (tTs T W0 (evK P.G P.w P.call P.mkc x4))) ∧
    (∀ (s : Shared) (H : Hp) (C : Addr) (cl : List (Str × Addr)) (fp : List Addr), PE (X.blk s H scope (compEnvC scope cl C X.env) fp) y (tE T W0 (evE P.G P.w P.call P.mkc x1))) ∧ notSetE it' = true := by
  simp only [Bool.and_eq_true] at h
  obtain ⟨⟨⟨⟨⟨⟨k1, k2⟩, k3⟩, k4⟩, k5⟩, k6⟩, k7⟩ := h
  have ok : BlkOk X.N X.env.scope scope (ownOf c.N vs) := by
    rw [F.N, F.sc]
    exact blkOk_by k4
  refine ⟨(F.cm k1).calm, (F.cm k1).hold, h3.I T W X c tg' it' F k2, ok, fun s H C cl fp => ?_, fun s H C cl fp => h4.K T W0 _ _ ifs (F.blk k1 ok s H C cl fp) k6, fun s H C cl fp => h1.E T W0 _ _ y (F.blk k1 ok s H C cl fp) k7, k3⟩
  rw [ownOf_snd]
  exact h2.G T W0 _ _ vs tg' (F.blk k1 ok s H C cl fp) k5
theorem chk_comp {vs : List Nat} {c : Cc} {e : Expr} (h : chkE P.G P.M false (.comp x1 x2 x3 x4 vs) c e = true) : ∃ y tg' it' ifs scope p, e = .ListComp y [⟨tg', it', ifs, 0⟩] scope p ∧ (c.calm && chkI P.G P.M x3 c tg' it' && notSetE it' && blkC c.N c.sc scope (ownOf c.N vs) &&
        chkG P.G P.M x2 { c with sc := relS scope c.sc, fn := fun x => scope.names.lookup x == some .cell, top := false } vs tg' &&
        chkK P.G P.M x4 { c with sc := relS scope c.sc, fn := fun x => scope.names.lookup x == some .cell, top := false } ifs &&
        chkE P.G P.M false x1 { c with sc := relS scope c.sc, fn := fun x => scope.names.lookup x == some .cell, top := false } y) = true := by
  unfold chkE at h
  split at h <;> first | exact absurd h Bool.false_ne_true | skip
  exact ⟨_, _, _, _, _, _, rfl, h⟩
theorem snd_comp (vs : List Nat) (h1 : Snd P x1) (h2 : Snd P x2) (h3 : Snd P x3) (h4 : Snd P x4) : Snd P (.comp x1 x2 x3 x4 vs) where
  E := fun T W X c e F h => by
    obtain ⟨y, tg', it', ifs, scope, p, rfl, h'⟩ := chk_comp h
    obtain ⟨k1, k2, k3, k4, k5, k6, k7, k8⟩ := comp_parts h1 h2 h3 h4 F h'
    have z := sE_comp (w := P.w) (pos := p) k2 k1 F.nd k3 k4 k5 k6 k7 k8
    rw [ownOf_snd] at z
    exact z
/-! ### what is walked -/
theorem snd_range (ha : Snd P a) : Snd P (.range a) where
  I := fun T W X c tg e F h0 => by
    have k : ∃ x p1 es p, e = .Call (.Name x p1) es [] p ∧ (c.isB P.M x "range" && noStars es && decide (1 ≤ es.length) && decide (es.length ≤ 3) && chkL P.G P.M a c es) = true := by
      unfold chkI at h0
      split at h0 <;> first | exact absurd h0 Bool.false_ne_true | skip
      exact ⟨_, _, _, _, rfl, h0⟩
    obtain ⟨x, p1, es, p, rfl, h⟩ := k
    simp only [Bool.and_eq_true, decide_eq_true_eq] at h
    obtain ⟨⟨⟨⟨h1, h2⟩, h3⟩, h4⟩, h5⟩ := h
    obtain ⟨b1, b2, b3, b4, b5⟩ := F.blt h1
    subst b1
    obtain ⟨r1, r2, _⟩ := ha.L T W X c es F h5
    have r2 := r2 h2
    match es, h2, h3, h4, r1, r2 with
    | [u], h2, _, _, r1, r2 =>
      have h2 : (!isStar u && true) = true := h2
      simp only [Bool.and_eq_true, Bool.not_eq_true'] at h2
      exact sI_range1 b2 b3 h2.1 r1 r2
    | [u, v], h2, _, _, r1, r2 =>
      have h2 : (!isStar u && (!isStar v && true)) = true := h2
      simp only [Bool.and_eq_true, Bool.not_eq_true'] at h2
      exact sI_range2 b2 b3 h2.1 h2.2.1 r1 r2
    | [u, v, z], h2, _, _, r1, r2 =>
      have h2 : (!isStar u && (!isStar v && (!isStar z && true))) = true := h2
      simp only [Bool.and_eq_true, Bool.not_eq_true'] at h2
      exact sI_range3 b2 b3 h2.1 h2.2.1 h2.2.2.1 r1 r2
    | _ :: _ :: _ :: _ :: r, _, _, h4, _, _ => exact absurd h4 (by simp)
theorem snd_enum (ha : Snd P a) : Snd P (.enum a) where
  I := fun T W X c tg e F h0 => by
    have k : ∃ x p1 y p, e = .Call (.Name x p1) [y] [] p ∧ (isTupE tg && c.isB P.M x "enumerate" && !isStar y && chkE P.G P.M false a c y) = true := by
      unfold chkI at h0
      split at h0 <;> first | exact absurd h0 Bool.false_ne_true | skip
      exact ⟨_, _, _, _, rfl, h0⟩
    obtain ⟨x, p1, y, p, rfl, h⟩ := k
    simp only [Bool.and_eq_true, Bool.not_eq_true'] at h
    obtain ⟨⟨⟨h1, h2⟩, h3⟩, h4⟩ := h
    obtain ⟨b1, b2, b3, b4, b5⟩ := F.blt h2
    subst b1
    cases tg <;> first | exact absurd h1 Bool.false_ne_true | skip
    exact sI_enum b2 b3 h3 (ha.E T W X c y F h4)
theorem snd_revd (ha : Snd P a) : Snd P (.revd a) where
  I := fun T W X c tg e F h0 => by
    have k : ∃ x p1 y p, e = .Call (.Name x p1) [y] [] p ∧ (c.isB P.M x "reversed" && !isStar y && chkE P.G P.M false a c y) = true := by
      unfold chkI at h0
      split at h0 <;> first | exact absurd h0 Bool.false_ne_true | skip
      exact ⟨_, _, _, _, rfl, h0⟩
    obtain ⟨x, p1, y, p, rfl, h⟩ := k
    simp only [Bool.and_eq_true, Bool.not_eq_true'] at h
    obtain ⟨⟨h2, h3⟩, h4⟩ := h
    obtain ⟨b1, b2, b3, b4, b5⟩ := F.blt h2
    subst b1
    exact sI_revd b2 b3 h3 (ha.E T W X c y F h4)
theorem snd_walk (ha : Snd P a) : Snd P (.walk a) where
  I := fun T W X c tg e F h => sI_walk F.hK (ha.E T W X c e F h)
/-- what is no expression -/
theorem snd_none {x : C} (s : Snd P x) : Snd P x := s
end
end Pv
end

section
set_option autoImplicit false
set_option linter.all false
set_option maxHeartbeats 4000000
set_option maxRecDepth 10000
/-! Pv24: the checker is sound: statements. -/
namespace Pv
open PySem L2 PySem.Spec PyProof.Rows
def clsA : C → List Nat
  | .alt c _ r => c :: clsA r
  | _ => []
section
variable (P : Pm) (x : C)
def SndS : Prop := ∀ (T : Tb) (W : WX) (X : Cx) (c : Cc) (s : Stmt), P.fit T W X c → chkS P.G P.M x c s = true → PS X s (tSs T W (evS P.G P.w P.call P.mkc x))
def SndB : Prop := ∀ (T : Tb) (W : WX) (X : Cx) (c : Cc) (s : List Stmt), P.fit T W X c → chkB P.G P.M x c s = true → PSs X s (tSs T W (evB P.G P.w P.call P.mkc x))
def SndA : Prop := ∀ (ci i : Nat) (c : Cc) (s : List Stmt), chkA P.G P.M x ci i c s = true → (∀ c' ∈ clsA x, P.G.sub c' ci = some true) ∧ (∀ (xx : Exc) (σ : Sl) (S : Sto), (xx.fs ≠ [] ∨ xx.c ∉ clsA x) → evA P.G P.w P.call P.mkc x xx σ S = .bad) ∧
  ∀ c' ∈ clsA x, ∀ (T : Tb) (W : WX) (X : Cx), P.fit T W X { c with calm := false, top := false, err := some (i, c') } → PSs X s (tSs T W fun σ S => evA P.G P.w P.call P.mkc x ⟨c', []⟩ σ S)
structure Sst : Prop where
  X : Snd P x
  S : SndS P x := by exact fun _ _ _ _ _ _ h => absurd h Bool.false_ne_true
  B : SndB P x := by exact fun _ _ _ _ _ _ h => absurd h Bool.false_ne_true
  A : SndA P x := by exact fun _ _ _ _ h => absurd h Bool.false_ne_true
end
section
variable {P : Pm} {a b q x1 x2 x3 x4 : C} {T : Tb} {W : WX} {X : Cx} {c : Cc}
theorem Fit.tr (F : P.fit T W X c) (hc : c.calm = true) {W' : WX} {pn : List (Addr × Obj)} {xe : Value → Shared → Prop} (tk : Takes (X.tr pn xe) W') (hp : PassesOwn (model X.prog X.w) X.A X.env xe) : P.fit T W' (X.tr pn xe) c where
  hK := F.hK
  inj := F.inj
  att := F.att
  N := F.N
  nd := F.nd
  sc := F.sc
  kind := F.kind
  fnS := F.fnS
  hu := F.hu
  free := F.free
  konst := F.konst
  cls := F.cls
  flds := F.flds
  exc := F.exc
  sub := F.sub
  tk := tk
  cm := fun h => let z := F.cm h; ⟨z.calm, z.hold, z.room, z.fn, z.meth, z.bmeth, z.init⟩
  top := fun h => ⟨(F.top h).1, hp⟩
  err := fun i ci h => by
    obtain ⟨_, _, _, _, _, hm, _⟩ := F.err i ci h
    rw [(F.cm hc).hold] at hm
    cases hm
theorem Fit.nox (F : P.fit T W X c) (hc : c.calm = true) : P.fit T W0 X.nox c where
  hK := F.hK
  inj := F.inj
  att := F.att
  N := F.N
  nd := F.nd
  sc := F.sc
  kind := F.kind
  fnS := F.fnS
  hu := F.hu
  free := F.free
  konst := F.konst
  cls := F.cls
  flds := F.flds
  exc := F.exc
  sub := F.sub
  tk := takes0
  cm := fun h => let z := F.cm h; ⟨z.calm, z.hold, z.room, z.fn, z.meth, z.bmeth, z.init⟩
  top := fun h => ⟨(F.top h).1, PassesOwn.never⟩
  err := fun i ci h => by
    obtain ⟨_, _, _, _, _, hm, _⟩ := F.err i ci h
    rw [(F.cm hc).hold] at hm
    cases hm
theorem Fit.suite (F : P.fit T W X c) {a : Addr} {oe : Obj} {i ci cj : Nat} (pn : List (Addr × Obj)) (hz : Zc (.ref (T.cls ci)) none oe) (hf : ∃ vs, oe.data = .fields vs) (hs : ∃ u, P.G.sub ci cj = some u) :
    P.fit (T.holds [(i, a)]) W0 (X.suite a ((a, oe) :: pn)) { c with calm := false, top := false, err := some (i, ci) } where
  hK := F.hK
  inj := F.inj
  att := F.att
  N := F.N
  nd := F.nd
  sc := F.sc
  kind := F.kind
  fnS := F.fnS
  hu := F.hu
  free := F.free
  konst := F.konst
  cls := F.cls
  flds := F.flds
  exc := F.exc
  sub := F.sub
  tk := takes0
  cm := fun h => absurd h Bool.false_ne_true
  top := fun h => absurd h Bool.false_ne_true
  err := fun j cj' h => by
    have e : some (i, ci) = some (j, cj') := h
    cases e
    obtain ⟨u, hs⟩ := hs
    exact ⟨X, a, oe, pn, rfl, List.mem_cons_self, (F.sub _ _ _ hs).2.2, hz, hf⟩
/-! ### small statements -/
theorem sst_pass : Sst P .pass where
  X := {}
  S := fun T W X c s F h => by
    cases s <;> first | exact absurd h Bool.false_ne_true | exact sS_pass
theorem sst_brk : Sst P .brk where
  X := {}
  S := fun T W X c s F h => by
    cases s <;> first | exact absurd h Bool.false_ne_true | exact sS_brk
theorem sst_cont : Sst P .cont where
  X := {}
  S := fun T W X c s F h => by
    cases s <;> first | exact absurd h Bool.false_ne_true | exact sS_cont
theorem sst_never : Sst P .never where
  X := {}
  S := fun T W X c s F h => sS_never fun _ _ => rfl
theorem sst_ret (ha : Snd P a) : Sst P (.ret a) where
  X := {}
  S := fun T W X c s F h => by
    cases s <;> first | exact absurd h Bool.false_ne_true | skip
    rename_i v p
    cases v with
    | none => cases h
    | some v => exact sS_ret (ha.E T W X c v F h)
theorem sst_ex (ha : Snd P a) : Sst P (.ex a) where
  X := {}
  S := fun T W X c s F h => by
    cases s <;> first | exact absurd h Bool.false_ne_true | skip
    rename_i v p
    have h : (chkE P.G P.M false a c v && !isComp v) = true := h
    simp only [Bool.and_eq_true, Bool.not_eq_true'] at h
    exact sS_ex (ha.E T W X c v F h.1) h.2
theorem sst_iff (hq : Snd P q) (ha : Sst P a) (hb : Sst P b) : Sst P (.iff q a b) where
  X := {}
  S := fun T W X c s F h => by
    cases s <;> first | exact absurd h Bool.false_ne_true | skip
    rename_i u v z p
    have h : (chkE P.G P.M true q c u && chkB P.G P.M a c v && chkB P.G P.M b c z) = true := h
    simp only [Bool.and_eq_true] at h
    exact sS_if (hq.T T W X c u F h.1.1).1 (ha.B T W X c v F h.1.2) (hb.B T W X c z F h.2)
theorem sst_whl (hq : Snd P q) (hb : Sst P b) : Sst P (.whl q b) where
  X := {}
  S := fun T W X c s F h => by
    cases s <;> first | exact absurd h Bool.false_ne_true | skip
    rename_i u v z p
    cases z with
    | cons _ _ => cases h
    | nil =>
      have h : (c.top && chkE P.G P.M true q c u && chkB P.G P.M b c v) = true := h
      simp only [Bool.and_eq_true] at h
      exact sS_whl (F.top h.1.1).2 (hq.T T W X c u F h.1.2).1 (hb.B T W X c v F h.2)
theorem sst_forr (h1 : Snd P x1) (h2 : Snd P x2) (hb : Sst P b) : Sst P (.forr x1 x2 b) where
  X := {}
  S := fun T W X c s F h => by
    cases s <;> first | exact absurd h Bool.false_ne_true | skip
    rename_i tg it v z p
    cases z with
    | cons _ _ => cases h
    | nil =>
      have h : (c.top && c.calm && chkI P.G P.M x2 c tg it && notSetE it && chkG P.G P.M x1 c (List.range c.N.length) tg && chkB P.G P.M b c v) = true := h
      simp only [Bool.and_eq_true] at h
      obtain ⟨⟨⟨⟨⟨k1, k2⟩, k3⟩, k4⟩, k5⟩, k6⟩ := h
      exact sS_for k4 (F.top k1).2 (F.cm k2).calm (h2.I T W X c tg it F k3) (h1.G T W X c _ tg F k5) (hb.B T W X c v F k6)
theorem sst_aug (i : Nat) (op : BOp) (ha : Snd P a) : Sst P (.aug i op a) where
  X := {}
  S := fun T W X c s F h => by
    cases s <;> first | exact absurd h Bool.false_ne_true | skip
    rename_i tg o v p
    cases tg <;> first | exact absurd h Bool.false_ne_true | skip
    rename_i x p2
    have h : (decide (o = toOp op) && (decide (op = .add) || decide (op = .sub)) && c.isSet i x && chkE P.G P.M false a c v) = true := h
    simp only [Bool.and_eq_true, Bool.or_eq_true, decide_eq_true_eq] at h
    obtain ⟨⟨⟨k1, k2⟩, k3⟩, k4⟩ := h
    subst k1
    unfold Cc.isSet at k3
    simp only [Bool.and_eq_true, decide_eq_true_eq, Bool.or_eq_true] at k3
    obtain ⟨⟨j1, j2⟩, j3⟩ := k3
    refine sS_aug op k2 F.nd (by rw [F.N]; exact j1) (by rw [F.sc]; exact loc_of j2) ?_ (ha.E T W X c v F k4)
    rcases j3 with j3 | j3
    · exact .inl (F.fnS _ j3)
    · rw [F.sc]; exact .inr (local_of j3)
theorem sst_raise (k : Nat) : Sst P (.raise k a) where
  X := {}
  S := fun T W X c s F h0 => by
    have k0 : ∃ x p1 p2 p, s = .Raise (some (.Call (.Name x p1) [] [] p2)) none p ∧ (isNilC a && c.calm && c.isGl x && decide (P.M.cname k = some x) && decide (P.G.field k = some none)) = true := by
      unfold chkS at h0
      split at h0 <;> first | exact absurd h0 Bool.false_ne_true | skip
      exact ⟨_, _, _, _, rfl, h0⟩
    obtain ⟨x, p1, p2, p, rfl, h⟩ := k0
    simp only [Bool.and_eq_true, decide_eq_true_eq] at h
    obtain ⟨⟨⟨⟨k1, k2⟩, k3⟩, k4⟩, k5⟩ := h
    have e1 : evS P.G P.w P.call P.mkc (.raise k a) = fun σ S => .exc σ ⟨k, []⟩ S := by
      funext σ S
      cases a <;> first | exact absurd k1 Bool.false_ne_true | skip
      show (match P.G.field k, C.nil with
        | some none, .nil => Pv.F.exc σ ⟨k, []⟩ S
        | _, _ => Pv.F.bad) = _
      rw [k5]
    rw [e1]
    exact sS_raise (F.exc k k5) (F.cm k2).calm F.tk (F.cls k x k4) (F.gl k3).1 (F.gl k3).2
/-! ### assignments -/
theorem swapped_par {x y : Str} {px py pt : Pos} {kt k2 : Nat} {pt2 : Pos} {u v : Expr} {env : Env} (hk : env.scope.kind = .function) (hx : env.scope.names.lookup x = some .local) (hy : env.scope.names.lookup y = some .local) (hne : x ≠ y) (hl : (px.line == py.line) = true)
    (hu : isStar u = false) (hv : isStar v = false) (hf : [u, v].all (foldedForSure 8) = false) (hc : [u, v].all (constantsAlone 8) = false) : swappedStores [.Tuple [.Name x px, .Name y py] kt pt] (.Tuple [u, v] k2 pt2) env = pure (some [x, y]) := by
  have hb : env.blockKind = .function := by unfold Env.blockKind; rw [hk]; rfl
  have kx : env.kindOf x = some .local := hx
  have ky : env.kindOf y = some .local := hy
  have hl' : py.line = px.line := (beq_iff_eq.mp hl).symm
  have st : ∀ f : Expr → Bool, (∀ e, isStar e = false → f e = false) → [u, v].any f = false := fun f h => by
    rw [List.any_cons, List.any_cons, List.any_nil, h u hu, h v hv]; rfl
  have hne2 : (y == x) = false := beq_eq_false_iff_ne.mpr (Ne.symm hne)
  unfold swappedStores
  simp only []
  rw [st _ fun e he => by cases e <;> first | rfl | cases he]
  simp only [List.length_cons, List.length_nil, hb, List.head?_cons, Option.map_some, Option.getD_some, Expr.pos, List.filterMap_cons, List.filterMap_nil, kx, ky, hl', hf, hc]
  simp [List.eraseDups_cons, hne2, hne, Ne.symm hne]
theorem sst_par (i j : Nat) (ha : Snd P a) (hb : Snd P b) : Sst P (.par i j a b) where
  X := {}
  S := fun T W X c s F h0 => by
    have k0 : ∃ x y px py kt pt u v k2 pt2 p, s = .Assign [.Tuple [.Name x px, .Name y py] kt pt] (.Tuple [u, v] k2 pt2) p ∧ (c.calm && decide (i ≠ j) && decide (c.N[i]? = some x) && decide (c.N[j]? = some y) && isLocalK (c.sc.names.lookup x) && isLocalK (c.sc.names.lookup y) &&
        decide (x ≠ y) && (px.line == py.line) && !isStar u && !isStar v && !([u, v].all (foldedForSure 8)) && !([u, v].all (constantsAlone 8)) && chkE P.G P.M false a c u && chkE P.G P.M false b c v) = true := by
      unfold chkS at h0
      split at h0 <;> first | exact absurd h0 Bool.false_ne_true | skip
      exact ⟨_, _, _, _, _, _, _, _, _, _, _, rfl, h0⟩
    obtain ⟨x, y, px, py, kt, pt, u, v, k2, pt2, p, rfl, h⟩ := k0
    simp only [Bool.and_eq_true, decide_eq_true_eq, Bool.not_eq_true'] at h
    obtain ⟨⟨⟨⟨⟨⟨⟨⟨⟨⟨⟨⟨⟨h1, h2⟩, h3⟩, h4⟩, h5⟩, h6⟩, h7⟩, h8⟩, h9⟩, h10⟩, h11⟩, h12⟩, h13⟩, h14⟩ := h
    have lx : X.env.scope.names.lookup x = some .local := by rw [F.sc]; exact local_of h5
    have ly : X.env.scope.names.lookup y = some .local := by rw [F.sc]; exact local_of h6
    exact sS_par (F.cm h1).calm F.nd (by rw [F.N]; exact h3) (by rw [F.N]; exact h4) h2 lx ly (ha.E T W X c u F h13) (hb.E T W X c v F h14) h9 h10
      (swapped_par (by rw [F.sc]; exact F.kind) lx ly h7 h8 h9 h10 h11 h12)
theorem swaps_cell {e : Expr} {x : Str} {p : Pos} {l : Nat} {env : Env} (h : isLocalK (env.scope.names.lookup x) = false) : swapsWithSole [.Name x p] e l env = pure false := by
  show swapsWith e (some (.Name x p)) l env = pure false
  have k : (env.kindOf x == some NameKind.local) = false := by
    have e1 : env.kindOf x = env.scope.names.lookup x := rfl
    rw [e1]
    cases e2 : env.scope.names.lookup x with
    | none => rfl
    | some k =>
      rw [e2] at h
      cases k <;> first | rfl | cases h
  unfold swapsWith
  cases e <;> first | rfl | (simp only [k, Bool.and_false, Bool.false_and]; try rfl)
theorem sst_asg (ha : Snd P a) (hb : Snd P b) (hcp : ∀ y1 y2 y3 y4 vs, b = .comp y1 y2 y3 y4 vs → Snd P y1 ∧ Snd P y2 ∧ Snd P y3 ∧ Snd P y4) : Sst P (.asg a b) where
  X := {}
  S := fun T W X c s F h0 => by
    have k0 : ∃ tg v p, s = .Assign [tg] v p ∧ (chkE P.G P.M false b c v && chkG P.G P.M a c (List.range c.N.length) tg && !isStar tg && (!isTupT tg || !isTupE v) &&
        (!isComp v || !isNameE tg || notLocal c tg || (isCompC b && setOk c a tg v 0))) = true := by
      unfold chkS at h0
      split at h0 <;> first | exact absurd h0 Bool.false_ne_true | skip
      exact ⟨_, _, _, rfl, h0⟩
    obtain ⟨tg, v, p, rfl, h⟩ := k0
    simp only [Bool.and_eq_true, Bool.or_eq_true, Bool.not_eq_true'] at h
    obtain ⟨⟨⟨⟨k1, k2⟩, k3⟩, k4⟩, k5⟩ := h
    have gen : swapsWithSole [tg] v p.line X.env = pure false → PS X (.Assign [tg] v p) (tSs T W (evS P.G P.w P.call P.mkc (.asg a b))) := fun hs => by
      refine sS_asgS (ws := List.range c.N.length) (hb.E T W X c v F k1) (ha.G T W X c _ tg F k2) hs ?_ k3
      rcases k4 with k4 | k4
      · exact swapped_noT (by cases tg <;> first | rfl | cases k4)
      · exact swapped_no k4
    rcases k5 with (k5 | k5) | k5
    · exact gen (sole_no k5)
    · cases tg <;> first | exact absurd k5 Bool.false_ne_true | skip
      refine gen (swaps_cell ?_)
      rw [F.sc]
      unfold notLocal at k5
      simpa using k5
    · obtain ⟨k5, k6⟩ := k5
      cases b <;> first | exact absurd k5 Bool.false_ne_true | skip
      rename_i y1 y2 y3 y4 vs
      obtain ⟨s1, s2, s3, s4⟩ := hcp _ _ _ _ _ rfl
      obtain ⟨y, tg', it', ifs, scope, p', rfl, hcc⟩ := chk_comp k1
      obtain ⟨m1, m2, m3, m4, m5, m6, m7, m8⟩ := comp_parts s1 s2 s3 s4 F hcc
      cases a <;> first | exact absurd k6 Bool.false_ne_true | skip
      rename_i i
      cases tg <;> first | exact absurd k6 Bool.false_ne_true | skip
      rename_i x px
      have k6 : (decide (c.N[i]? = some x) && isLocalK (c.sc.names.lookup x) && (px.line == p'.line) && !(scope.names.any fun (n, k) => n == x && (k == .local || k == .cell))) = true := k6
      simp only [Bool.and_eq_true, decide_eq_true_eq, Bool.not_eq_true'] at k6
      obtain ⟨⟨⟨n1, n2⟩, n3⟩, n4⟩ := k6
      have z := sS_setC (w := P.w) (i := i) (x := x) (p := px) (spos := p) (pos := p') m2 m1 F.nd (by rw [F.N]; exact n1) (by rw [F.sc]; exact local_of n2) (by rw [F.sc]; exact F.kind) n3 n4 m3 m4 m5 m6 m7 m8
      rw [ownOf_snd] at z
      exact z
/-! ### try, blocks -/
theorem sst_tryN (hb : Sst P b) : Sst P (.tryN b) where
  X := {}
  S := fun T W X c s F h0 => by
    have k0 : ∃ x h hs p, s = .Try x (h :: hs) [] [] p ∧ (c.calm && chkB P.G P.M b c x) = true := by
      unfold chkS at h0
      split at h0 <;> first | exact absurd h0 Bool.false_ne_true | skip
      exact ⟨_, _, _, _, rfl, h0⟩
    obtain ⟨x, h, hs, p, rfl, k⟩ := k0
    simp only [Bool.and_eq_true] at k
    exact sS_tryN (hb.B T W0 X.nox c x (F.nox k.1) k.2)
theorem sst_tryE (k i : Nat) (hb : Sst P b) (ha : Sst P a) : Sst P (.tryE b k i a) where
  X := {}
  S := fun T W X c s F h0 => by
    have k0 : ∃ x y np n z suite p' p, s = .Try x [.ExceptHandler (some (.Name y np)) (some n) (z :: suite) p'] [] [] p ∧ (c.top && c.calm && c.isGl y && decide (P.M.cname k = some y) && decide (c.N[i]? = some n) && isLocalK (c.sc.names.lookup n) && chkB P.G P.M b c x && chkA P.G P.M a k i c (z :: suite)) = true := by
      unfold chkS at h0
      split at h0 <;> first | exact absurd h0 Bool.false_ne_true | skip
      exact ⟨_, _, _, _, _, _, _, _, rfl, h0⟩
    obtain ⟨x, y, np, n, z, suite, p', p, rfl, h⟩ := k0
    simp only [Bool.and_eq_true, decide_eq_true_eq] at h
    obtain ⟨⟨⟨⟨⟨⟨⟨h1, h2⟩, h3⟩, h4⟩, h5⟩, h6⟩, h7⟩, h8⟩ := h
    obtain ⟨a1, a2, a3⟩ := ha.A k i c _ h8
    have ln : X.env.scope.names.lookup n = some .local := by rw [F.sc]; exact local_of h6
    refine sS_tryE (F.cm h2).hold (ok := fun c' => c' ∈ clsA a) (F.top h1).1.1 (F.top h1).1.2 F.nd (by rw [F.N]; exact h5) ln ⟨(F.gl h3).1, (F.gl h3).2, .inl (F.cls k y h4)⟩ F.tk a2 (fun c' hc' => (F.sub c' k true (a1 c' hc')).2.1)
      (fun W' pn xe tk hp => hb.B T W' _ c x (F.tr h2 tk hp) h7) (fun c' hc' a' oe pn hz hf => a3 c' hc' _ _ _ (F.suite pn hz hf ⟨true, a1 c' hc'⟩))
theorem sst_alt (k : Nat) (ha : Sst P a) (hb : Sst P b) : Sst P (.alt k a b) where
  X := {}
  A := fun ci i c s h => by
    have h : (decide (P.G.sub k ci = some true) && chkB P.G P.M a { c with calm := false, top := false, err := some (i, k) } s && chkA P.G P.M b ci i c s) = true := h
    simp only [Bool.and_eq_true, decide_eq_true_eq] at h
    obtain ⟨⟨h1, h2⟩, h3⟩ := h
    obtain ⟨b1, b2, b3⟩ := hb.A ci i c s h3
    have ev : ∀ (xx : Exc) (σ : Sl) (S : Sto), evA P.G P.w P.call P.mkc (.alt k a b) xx σ S = if xx.c = k then (match xx.fs with
      | [] => evB P.G P.w P.call P.mkc a σ S
      | _ => .bad) else evA P.G P.w P.call P.mkc b xx σ S := fun _ _ _ => rfl
    refine ⟨fun c' hc' => ?_, fun xx σ S hx => ?_, fun c' hc' T W X F => ?_⟩
    · rcases List.mem_cons.mp hc' with e | hc'
      · subst e; exact h1
      · exact b1 c' hc'
    · rw [ev]
      by_cases e : xx.c = k
      · rw [if_pos e]
        rcases hx with hx | hx
        · cases e2 : xx.fs with
          | nil => exact absurd e2 hx
          | cons _ _ => rfl
        · exact absurd (show xx.c ∈ clsA (.alt k a b) from by rw [e]; exact List.mem_cons_self) hx
      · rw [if_neg e]
        refine b2 xx σ S ?_
        rcases hx with hx | hx
        · exact .inl hx
        · exact .inr fun hm => hx (List.mem_cons_of_mem _ hm)
    · by_cases e : c' = k
      · subst e
        have e1 : (fun (σ : Sl) (S : Sto) => evA P.G P.w P.call P.mkc (.alt c' a b) ⟨c', []⟩ σ S) = evB P.G P.w P.call P.mkc a := by
          funext σ S
          rw [ev, if_pos rfl]
        rw [e1]
        exact ha.B T W X _ s F h2
      · have e1 : (fun (σ : Sl) (S : Sto) => evA P.G P.w P.call P.mkc (.alt k a b) ⟨c', []⟩ σ S) = fun σ S => evA P.G P.w P.call P.mkc b ⟨c', []⟩ σ S := by
          funext σ S
          rw [ev, if_neg e]
        rw [e1]
        refine b3 c' ?_ T W X F
        rcases List.mem_cons.mp hc' with e2 | hc'
        · exact absurd e2 e
        · exact hc'
theorem sst_nil : Sst P .nil where
  X := snd_nil
  B := fun T W X c s F h => by
    have e := nil_stm h
    subst e
    exact sB_nil
  A := fun ci i c s h => ⟨fun c' h => (nomatch h), fun _ _ _ _ => rfl, fun c' h => (nomatch h)⟩
where nil_stm {s : List Stmt} (h : s.isEmpty = true) : s = [] := by
        cases s with
        | nil => rfl
        | cons a b => cases h
theorem sst_cons (ha : Sst P a) (hb : Sst P b) : Sst P (.cons a b) where
  X := snd_cons ha.X hb.X
  B := fun T W X c s F h => by
    cases s with
    | nil => cases h
    | cons s r =>
      have h : (chkS P.G P.M a c s && chkB P.G P.M b c r) = true := h
      simp only [Bool.and_eq_true] at h
      exact sB_cons (ha.S T W X c s F h.1) (hb.B T W X c r F h.2)
/-! ### all -/
/-- the parts of a comprehension -/
def PartC (P : Pm) (x : C) : Prop := ∀ y1 y2 y3 y4 vs, x = .comp y1 y2 y3 y4 vs → Snd P y1 ∧ Snd P y2 ∧ Snd P y3 ∧ Snd P y4
theorem sound (P : Pm) (x : C) : Sst P x ∧ PartC P x := by
  induction x with
  | con dd => exact ⟨{ X := snd_con dd }, fun _ _ _ _ _ e => nomatch e⟩
  | var i => exact ⟨{ X := snd_var i }, fun _ _ _ _ _ e => nomatch e⟩
  | bin op a b ha hb => exact ⟨{ X := snd_bin op ha.1.X hb.1.X }, fun _ _ _ _ _ e => nomatch e⟩
  | neg a ha => exact ⟨{ X := snd_neg ha.1.X }, fun _ _ _ _ _ e => nomatch e⟩
  | not a ha => exact ⟨{ X := snd_not ha.1.X }, fun _ _ _ _ _ e => nomatch e⟩
  | and a b ha hb => exact ⟨{ X := snd_and ha.1.X hb.1.X }, fun _ _ _ _ _ e => nomatch e⟩
  | or a b ha hb => exact ⟨{ X := snd_or ha.1.X hb.1.X }, fun _ _ _ _ _ e => nomatch e⟩
  | cmp op a b ha hb => exact ⟨{ X := snd_cmp op ha.1.X hb.1.X }, fun _ _ _ _ _ e => nomatch e⟩
  | chain o1 o2 a b c ha hb hc => exact ⟨{ X := snd_chain o1 o2 ha.1.X hb.1.X hc.1.X }, fun _ _ _ _ _ e => nomatch e⟩
  | ite c a b hc ha hb => exact ⟨{ X := snd_ite hc.1.X ha.1.X hb.1.X }, fun _ _ _ _ _ e => nomatch e⟩
  | tup a ha => exact ⟨{ X := snd_tup ha.1.X }, fun _ _ _ _ _ e => nomatch e⟩
  | lst a ha => exact ⟨{ X := snd_lst ha.1.X }, fun _ _ _ _ _ e => nomatch e⟩
  | dict t a ha => exact ⟨{ X := snd_dict t ha.1.X }, fun _ _ _ _ _ e => nomatch e⟩
  | sub a b ha hb => exact ⟨{ X := snd_sub ha.1.X hb.1.X }, fun _ _ _ _ _ e => nomatch e⟩
  | slice a b c ha hb hc => exact ⟨{ X := snd_slice ha.1.X hb.1.X hc.1.X }, fun _ _ _ _ _ e => nomatch e⟩
  | rev a ha => exact ⟨{ X := snd_rev ha.1.X }, fun _ _ _ _ _ e => nomatch e⟩
  | attr a f ha => exact ⟨{ X := snd_attr f ha.1.X }, fun _ _ _ _ _ e => nomatch e⟩
  | call f a ha => exact ⟨{ X := snd_call f ha.1.X }, fun _ _ _ _ _ e => nomatch e⟩
  | make k a ha => exact ⟨{ X := snd_make k ha.1.X }, fun _ _ _ _ _ e => nomatch e⟩
  | meth a m b ha hb => exact ⟨{ X := snd_meth m ha.1.X hb.1.X }, fun _ _ _ _ _ e => nomatch e⟩
  | methS a m i ha => exact ⟨{ X := snd_methS m i ha.1.X }, fun _ _ _ _ _ e => nomatch e⟩
  | bi t a ha => exact ⟨{ X := snd_bi t ha.1.X }, fun _ _ _ _ _ e => nomatch e⟩
  | bm a m b ha hb => exact ⟨{ X := snd_bm m ha.1.X hb.1.X }, fun _ _ _ _ _ e => nomatch e⟩
  | isi a t ha => exact ⟨{ X := snd_isi t ha.1.X }, fun _ _ _ _ _ e => nomatch e⟩
  | comp a b c e vs ha hb hc he => exact ⟨{ X := snd_comp vs ha.1.X hb.1.X hc.1.X he.1.X }, fun _ _ _ _ _ e => by cases e; exact ⟨ha.1.X, hb.1.X, hc.1.X, he.1.X⟩⟩
  | nil => exact ⟨sst_nil, fun _ _ _ _ _ e => nomatch e⟩
  | cons a b ha hb => exact ⟨sst_cons ha.1 hb.1, fun _ _ _ _ _ e => nomatch e⟩
  | star a b ha hb => exact ⟨{ X := snd_star ha.1.X hb.1.X }, fun _ _ _ _ _ e => nomatch e⟩
  | range a ha => exact ⟨{ X := snd_range ha.1.X }, fun _ _ _ _ _ e => nomatch e⟩
  | enum a ha => exact ⟨{ X := snd_enum ha.1.X }, fun _ _ _ _ _ e => nomatch e⟩
  | revd a ha => exact ⟨{ X := snd_revd ha.1.X }, fun _ _ _ _ _ e => nomatch e⟩
  | walk a ha => exact ⟨{ X := snd_walk ha.1.X }, fun _ _ _ _ _ e => nomatch e⟩
  | asg a b ha hb => exact ⟨sst_asg ha.1.X hb.1.X hb.2, fun _ _ _ _ _ e => nomatch e⟩
  | par i j a b ha hb => exact ⟨sst_par i j ha.1.X hb.1.X, fun _ _ _ _ _ e => nomatch e⟩
  | aug i op a ha => exact ⟨sst_aug i op ha.1.X, fun _ _ _ _ _ e => nomatch e⟩
  | ret a ha => exact ⟨sst_ret ha.1.X, fun _ _ _ _ _ e => nomatch e⟩
  | ex a ha => exact ⟨sst_ex ha.1.X, fun _ _ _ _ _ e => nomatch e⟩
  | iff c a b hc ha hb => exact ⟨sst_iff hc.1.X ha.1 hb.1, fun _ _ _ _ _ e => nomatch e⟩
  | whl c b hc hb => exact ⟨sst_whl hc.1.X hb.1, fun _ _ _ _ _ e => nomatch e⟩
  | forr a b c ha hb hc => exact ⟨sst_forr ha.1.X hb.1.X hc.1, fun _ _ _ _ _ e => nomatch e⟩
  | raise k a ha => exact ⟨sst_raise k, fun _ _ _ _ _ e => nomatch e⟩
  | pass => exact ⟨sst_pass, fun _ _ _ _ _ e => nomatch e⟩
  | brk => exact ⟨sst_brk, fun _ _ _ _ _ e => nomatch e⟩
  | cont => exact ⟨sst_cont, fun _ _ _ _ _ e => nomatch e⟩
  | tryN b hb => exact ⟨sst_tryN hb.1, fun _ _ _ _ _ e => nomatch e⟩
  | tryE b k i a hb ha => exact ⟨sst_tryE k i hb.1 ha.1, fun _ _ _ _ _ e => nomatch e⟩
  | alt k a b ha hb => exact ⟨sst_alt k ha.1 hb.1, fun _ _ _ _ _ e => nomatch e⟩
  | never => exact ⟨sst_never, fun _ _ _ _ _ e => nomatch e⟩
  | isx i cj u => exact ⟨{ X := snd_isx i cj u }, fun _ _ _ _ _ e => nomatch e⟩
end
end Pv
end

section
set_option autoImplicit false
set_option linter.all false
set_option maxHeartbeats 4000000
set_option maxRecDepth 10000
/-! Pv25: every function of the program does what the evaluator says. -/
namespace Pv
open PySem L2 PySem.Spec PyProof.Rows
/-- a function of the text -/
structure FnT (G : Prog) (M : Nm) (K : PySem.W.Frag) (g : Addr) (fn : Fn) : Prop where
  ex : ∃ (x qual : Str) (params : Arguments) (body : List Stmt) (scope : Scope) (fd : FuncData) (N ps : List Str), FunD K x qual params body scope [] [] g fd ∧ Binds K fd ps [] ∧ FnScope N ps scope ∧ N.length = fn.slots ∧ ps.length = fn.params ∧
    chkB G M fn.body ⟨N, scope, fun _ => true, true, true, none⟩ body = true
/-- what stands of the program -/
structure Whole (G : Prog) (M : Nm) (T : Tb) (K : PySem.W.Frag) (mg : Str → Option Value) (fa : Nat → Addr) : Prop where
  hK : T.K = K
  hold : T.hold = []
  inj : ∀ i j, T.att i = T.att j → i = j
  att : ∀ f, T.att f = M.att f
  free : ∀ x, M.free.contains x = true → mg x = none
  konst : ∀ q ∈ M.konstI, ∃ t, mg q.1 = some (.int q.2 t)
  cls : ∀ ci x, M.cname ci = some x → mg x = some (.ref (T.cls ci))
  flds : ∀ ci f, G.flds ci f = true → Cls K (T.cls ci) ∧ NoAttr K (T.cls ci) (T.att f)
  exc : ∀ ci, G.field ci = some none → ExcF K (T.cls ci)
  sub : ∀ ci cj u, G.sub ci cj = some u → PySem.W.kitOne K (.ref (T.cls ci)) (.ref (T.cls cj)) = some u ∧ PySem.W.exmOne K (.ref (T.cls ci)) (.ref (T.cls cj)) = some u ∧ L2.ExcC K (T.cls ci)
  fn : ∀ f fn, G.fn f = some fn → FnT G M K (fa f) fn
  glob : ∀ f x, M.glob f = some x → mg x = some (.ref (fa f)) ∧ (G.fn f).isSome = true
  meth : ∀ ci mi f, G.meth ci mi = some f → Cls K (T.cls ci) ∧ Meth K (T.cls ci) (T.att mi) (fa f) ∧ (G.fn f).isSome = true
  bmeth : ∀ ci mi f, M.stars.contains mi = true → G.meth ci mi = some f → BMeth K (T.cls ci) (T.att mi) (fa f)
  init : ∀ ci f, G.init ci = some f → Mk K (T.cls ci) (fa f) ∧ (G.fn f).isSome = true
section
variable {P : Program} {w : World} {K : PySem.W.Frag} {mg : Str → Option Value} {base : Heap} {T : Tb} {G : Prog} {M : Nm} {fa : Nat → Addr} {n : Nat}
def FnAtP (P : Program) (w : World) (K : PySem.W.Frag) (mg : Str → Option Value) (base : Heap) (T : Tb) (k : Nat) (g : Addr) (c : List D → Sto → R D) : Prop :=
  ∃ fd ps, FnOk P w K mg base (L2.CX P w) k g fd ps (spD T c) ∧ Binds K fd ps [] ∧ PySem.W.keepIn K (.ref g) = true
theorem spD_bad {vs : List V} {H : Hp} {Q : VK} {E : XK} {c : List D → Sto → R D} (hc : ∀ ds S, c ds S = .bad) (h : spD T c vs H Q E) : False := by
  obtain ⟨μ, S, ds, _, _, p⟩ := h
  rw [hc] at p
  exact p
theorem fn_bad (Wh : Whole G M T K mg fa) (k f : Nat) (hf : (G.fn f).isSome = true) {c : List D → Sto → R D} (hc : ∀ ds S, c ds S = .bad) : FnAtP P w K mg base T k (fa f) c := by
  cases e : G.fn f with
  | none => rw [e] at hf; cases hf
  | some fn =>
    obtain ⟨x, qual, params, body, scope, fd, N, ps, F, hb, _⟩ := (Wh.fn f fn e).ex
    exact ⟨fd, ps, ⟨fun vs H Q E h => (spD_bad hc h).elim, fun A outer s H args us vs Q E _ _ _ _ h => (spD_bad hc h).elim⟩, hb, F.kp⟩
theorem out_post {μ : List Addr} {H : Hp} {Q : VK} {E : XK} : ∀ {r : F}, Post T (Den T) (fun c d _ H => E c d H) [] μ H Q r.out → PostF T (fun c d _ H => E c d H) μ H { nx := fun _ H' => Q .non H', rt := Q } r
  | .nx σ S, h => fun μ' H' σv g s ds => h μ' H' .non g s rfl
  | .rt d S, h => fun μ' H' v g s hd => h μ' H' v g s hd
  | .exc σ x S, h => fun μ' H' σv cls dd g s ds ex => h μ' H' cls dd g s ex
  | .bk _ _, h => False.elim h
  | .ct _ _, h => False.elim h
  | .bad, h => False.elim h
/-- the body's second function of calls -/
def mkOf (G : Prog) (n d : Nat) : Call := (evP G n d).2
theorem evC_succ (f : Nat) (d : Nat) : evC G n (d + 1) f = fun ds S => match G.fn f with
    | some fn => if ds.length = fn.params then (evB G n (evC G n d) (mkOf G n d) fn.body (startD fn.slots ds) S).out else .bad
    | none => .bad := rfl
theorem fn_body (Wh : Whole G M T K mg fa) (d f : Nat) (ih : ∀ m, m ≤ d → ∀ f, (G.fn f).isSome = true → FnAtP P w K mg base T (m + 1) (fa f) (evC G n m f)) {fn : Fn} (e : G.fn f = some fn) {x qual : Str} {params : Arguments} {body : List Stmt} {scope : Scope} {fd : FuncData} {N ps : List Str}
    (F : FunD K x qual params body scope [] [] (fa f) fd) (S : FnScope N ps scope) (hN : N.length = fn.slots) (hps : ps.length = fn.params) (hchk : chkB G M fn.body ⟨N, scope, fun _ => true, true, true, none⟩ body = true) :
    FnOk P w K mg base (L2.CX P w) (d + 2) (fa f) fd ps (spD T (evC G n (d + 1) f)) := by
  have ev : evC G n (d + 1) f = fun ds S => if ds.length = fn.params then (evB G n (evC G n d) (mkOf G n d) fn.body (startD fn.slots ds) S).out else .bad := by
    rw [evC_succ]
    funext ds S
    rw [e]
  rw [ev]
  refine F.ok (CX := L2.CX P w) (k := d + 1) S ?_ ?_
  · intro vs H Q E ⟨μ, S', ds, sim, hd, p⟩
    by_cases c : ds.length = fn.params
    · rw [hd.length, c, hps]
    · simp only [if_neg c] at p; exact False.elim p
  · intro cdv A outer s H vs Q E hr ⟨μ, S', ds, sim, hd, p⟩
    by_cases c : ds.length = fn.params
    · simp only [if_pos c] at p
      refine ⟨tSs T (fun c d _ H => E c d H) (evB G n (evC G n d) (mkOf G n d) fn.body), ?_, μ, S', startD fn.slots ds, sim, DenS.start fn.slots N hN Wh.hold hd, out_post p⟩
      refine (sound ⟨G, M, n, d, evC G n d, mkOf G n d⟩ fn.body).1.B T _ _ ⟨N, scope, fun _ => true, true, true, none⟩ body ?_ hchk
      exact {
        hK := Wh.hK
        inj := Wh.inj
        att := Wh.att
        N := rfl
        nd := S.nd
        sc := rfl
        kind := S.kind
        fnS := fun _ _ => rfl
        hu := hr.units
        free := Wh.free
        konst := Wh.konst
        cls := Wh.cls
        flds := Wh.flds
        exc := Wh.exc
        sub := Wh.sub
        tk := takes_of rfl rfl rfl (E₁ := fun e' s'' => L2.CX P w outer H s E e' s'') rfl
        cm := fun _ => {
          calm := rfl
          hold := Wh.hold
          room := hr
          fn := fun f x hx => ⟨fa f, (Wh.glob f x hx).1, ih d (Nat.le_refl d) f (Wh.glob f x hx).2⟩
          meth := fun ci mi f h => ⟨(Wh.meth ci mi f h).1, fa f, (Wh.meth ci mi f h).2.1, ih d (Nat.le_refl d) f (Wh.meth ci mi f h).2.2⟩
          bmeth := fun ci mi f hs h => ⟨(Wh.meth ci mi f h).1, fa f, Wh.bmeth ci mi f hs h, ih d (Nat.le_refl d) f (Wh.meth ci mi f h).2.2⟩
          init := fun ci f h => ⟨fa f, (Wh.init ci f h).1, by
            cases d with
            | zero => exact fn_bad Wh 0 f (Wh.init ci f h).2 fun _ _ => rfl
            | succ d => exact ih d (Nat.le_succ d) f (Wh.init ci f h).2⟩ }
        top := fun _ => ⟨⟨rfl, rfl⟩, passes_of (K := fun e s'' => L2.CX P w outer H s E e s'') rfl⟩
        err := fun i ci h => nomatch h }
    · simp only [if_neg c] at p; exact False.elim p
theorem fn_ok (Wh : Whole G M T K mg fa) : ∀ (d f : Nat), (G.fn f).isSome = true → FnAtP P w K mg base T (d + 1) (fa f) (evC G n d f) := by
  intro d
  induction d using Nat.strongRecOn with
  | _ d ih =>
    intro f hf
    cases d with
    | zero => exact fn_bad Wh 1 f hf fun _ _ => rfl
    | succ d =>
      cases e : G.fn f with
      | none => rw [e] at hf; cases hf
      | some fn =>
        obtain ⟨x, qual, params, body, scope, fd, N, ps, F, hb, S, hN, hps, hchk⟩ := (Wh.fn f fn e).ex
        exact ⟨fd, ps, fn_body Wh d f (fun m hm => ih m (Nat.lt_succ_of_le hm)) e F S hN hps hchk, hb, F.kp⟩
end
end Pv
end

section
set_option autoImplicit false
set_option linter.all false
set_option maxHeartbeats 4000000
set_option maxRecDepth 10000
/-! Pv26: arguments of a plain def are bound in their order. -/
namespace Pv
open PySem L2 PySem.Spec PyProof.Rows
theorem lookup_nd {L : List (Str × Value)} (h : (L.map (·.1)).Nodup) : ∀ q ∈ L, L.lookup q.1 = some q.2 := by
  induction L with
  | nil => intro q hq; cases hq
  | cons p r ih =>
    intro q hq
    rw [List.map_cons, List.nodup_cons] at h
    rcases List.mem_cons.mp hq with e | hq
    · subst e
      rw [List.lookup_cons, beq_self_eq_true]
    · have ne : q.1 ≠ p.1 := fun e => h.1 (by rw [← e]; exact List.mem_map.mpr ⟨q, hq, rfl⟩)
      rw [List.lookup_cons, beq_eq_false_iff_ne.mpr ne]
      exact ih h.2 q hq
theorem filterMap_nd {L : List (Str × Value)} : ∀ {l : List (Str × Value)}, (∀ q ∈ l, L.lookup q.1 = some q.2) → (l.map (·.1)).filterMap (fun n => (L.lookup n).map (n, ·)) = l
  | [], _ => rfl
  | q :: r, h => by
    rw [List.map_cons, List.filterMap_cons, h q List.mem_cons_self]
    have ih := filterMap_nd (L := L) (l := r) fun z hz => h z (List.mem_cons_of_mem _ hz)
    simp only [Option.map_some]
    rw [ih]
theorem miss_nd {L : List (Str × Value)} : ∀ {l : List (Str × Value)}, (∀ q ∈ l, L.lookup q.1 = some q.2) → (l.map (·.1)).filter (fun n => (L.lookup n).isNone) = []
  | [], _ => rfl
  | q :: r, h => by
    rw [List.map_cons, List.filter_cons, h q List.mem_cons_self]
    exact miss_nd fun z hz => h z (List.mem_cons_of_mem _ hz)
/-- parameters with names alone -/
def plainArgs (p : Arguments) (ps : List Str) : Bool := p.posonlyargs.isEmpty && decide (p.args.map (·.arg) = ps) && p.vararg.isNone && p.kwonlyargs.isEmpty && p.kwarg.isNone && decide (ps.Nodup)
theorem bind_plain {x qual : Str} {p : Arguments} {body : List Stmt} {scope : Scope} {ps : List Str} (h : plainArgs p ps = true) (kV doc pm : Value) (an : Option Addr) (cdv ct : Value) (us : List Value) (hl : us.length = ps.length) :
    bindArgs (PySem.W.fnOf x qual p body scope .none kV doc pm an cdv ct) ⟨us, []⟩ = pure (ps.zip us) := by
  unfold plainArgs at h
  simp only [Bool.and_eq_true, decide_eq_true_eq, List.isEmpty_iff, Option.isNone_iff_eq_none] at h
  obtain ⟨⟨⟨⟨⟨h1, h2⟩, h3⟩, h4⟩, h5⟩, h6⟩ := h
  have hz : (ps.zip us).map (·.1) = ps := List.map_fst_zip (by omega)
  have hlk := lookup_nd (L := ps.zip us) (by rw [hz]; exact h6)
  have f1 := filterMap_nd hlk
  have f2 := miss_nd hlk
  rw [hz] at f1 f2
  have hs : seqItems? Value.none = pure none := rfl
  unfold bindArgs
  simp only [PySem.W.fnOf, h1, h2, h3, h4, h5, hs, List.map_nil, List.nil_append, List.append_nil, pure_bind, List.forIn_nil, Option.getD_none, List.length_nil, Nat.zero_sub, List.drop_zero, Nat.sub_zero]
  simp [f1, f2, hl, h2]
end Pv
end

section
set_option autoImplicit false
set_option linter.all false
set_option maxHeartbeats 4000000
set_option maxRecDepth 10000
/-! Pv27: a program as data; the head's facts make it whole. -/
namespace Pv
open PySem L2 PySem.Spec PyProof.Rows
structure FnD where
  at_ : Str × Option Str
  name : Str
  qual : Str
  params : Arguments
  body : List Stmt
  scope : Scope
  core : C
  N : List Str
  ps : List Str
structure PD where
  fnsO : List (Option FnD)
  classesO : List (Option Str)
  atts : List Str
  flds : List (Nat × Nat)
  meths : List (Nat × Nat × Nat)
  inits : List (Nat × Nat)
  excs : List Nat
  subs : List (Nat × Nat × Bool)
  free : List Str
  konst : List (Str × Int)
  stars : List Nat
def FnD.fn (d : FnD) : Fn := ⟨d.ps.length, d.N.length, d.core⟩
def FnD.glob (d : FnD) : Option Str := match d.at_.2 with
  | none => some d.at_.1
  | some _ => none
def FnD.dd (d : FnD) : He.DefD := ⟨d.at_, d.name, d.qual, d.params, d.body, d.scope, [], []⟩
def freshA (f : Nat) : Str := ⟨#[2000000 + f]⟩
section
variable (p : PD)
def PD.fns : List FnD := p.fnsO.filterMap id
def PD.fnA (f : Nat) : Option FnD := (p.fnsO[f]?).join
def PD.classes : List Str := p.classesO.filterMap id
def PD.clsA (c : Nat) : Option Str := (p.classesO[c]?).join
theorem join_mem {α : Type} {l : List (Option α)} {i : Nat} {x : α} (e : (l[i]?).join = some x) : x ∈ l.filterMap id := by
  cases h : l[i]? with
  | none => rw [h] at e; cases e
  | some o =>
    rw [h] at e
    have e : o = some x := e
    subst e
    exact List.mem_filterMap.mpr ⟨some x, List.mem_of_getElem? h, rfl⟩
theorem PD.fnA_mem {f : Nat} {d : FnD} (e : p.fnA f = some d) : d ∈ p.fns := join_mem e
theorem PD.clsA_mem {c : Nat} {x : Str} (e : p.clsA c = some x) : x ∈ p.classes := join_mem e
def PD.cn (c : Nat) : Str := (p.clsA c).getD ""
def PD.att (f : Nat) : Str := match p.atts[f]? with
  | some x => x
  | none => freshA f
def PD.G : Prog where
  fn := fun f => (p.fnA f).map FnD.fn
  meth := fun c m => (p.meths.find? fun q => q.1 == c && q.2.1 == m).map fun q => q.2.2
  init := fun c => (p.inits.find? fun q => q.1 == c).map fun q => q.2
  sub := fun a b => (p.subs.find? fun q => q.1 == a && q.2.1 == b).map fun q => q.2.2
  flds := fun c f => p.flds.any fun q => q.1 == c && q.2 == f
  field := fun c => if p.excs.contains c = true then some none else none
def PD.M : Nm where
  glob := fun f => (p.fnA f).bind FnD.glob
  cname := fun c => p.clsA c
  att := p.att
  free := p.free
  konstI := p.konst
  stars := p.stars
def PD.T (K : PySem.W.Frag) : Tb := { K := K, cls := fun c => He.ga K (p.cn c), att := p.att }
def PD.fa (K : PySem.W.Frag) (f : Nat) : Addr := match p.fnA f with
  | some d => He.fAd K d.at_
  | none => 0
/-- the facts that the head tells -/
def PD.faL : List He.Fa := p.fns.filterMap (fun d => d.glob.map He.Fa.glo) ++ (p.classes.map He.Fa.glo ++ (p.free.map He.Fa.free ++ (p.konst.map (fun q => He.Fa.int q.1 q.2) ++ (p.flds.map (fun q => He.Fa.cls (p.cn q.1)) ++
  (p.flds.map (fun q => He.Fa.noat (p.cn q.1) (p.att q.2)) ++ (p.meths.map (fun q => He.Fa.cls (p.cn q.1)) ++ (p.meths.map (fun q => He.Fa.meth (p.cn q.1) (p.att q.2.1)) ++ (p.inits.map (fun q => He.Fa.mkr (p.cn q.1)) ++
  (p.excs.map (fun c => He.Fa.exc (p.cn c)) ++ p.subs.map fun q => He.Fa.exm (p.cn q.1) (p.cn q.2.1) q.2.2)))))))))
def PD.fnL : List He.DefD := p.fns.map FnD.dd
def excCB (K : PySem.W.Frag) (D : Addr) : Bool :=
  decide (PySem.W.findIn K (.ref D) "__getattribute__" = some (some (.builtin "BaseException.__getattribute__"))) && (decide (PySem.W.findIn K (.ref D) "__getattr__" = some none) && (decide (PySem.W.subIn K (.ref D) (.type "BaseException") = some true) && (PySem.W.hasDictIn K D &&
  (decide (PySem.W.findIn K (.ref D) "__class__" = some (some (.builtin "object.__class__"))) && (decide (PySem.W.specialIn K (.builtin "object.__class__") "__get__" = some (some (.builtin "getset_descriptor.__get__"))) &&
  (decide (PySem.W.takesIn K (.builtin "object.__class__") = some true) && decide (PySem.W.mroIn K D (.type "object") = some true)))))))
theorem excCB_ok {K : PySem.W.Frag} {D : Addr} (h : excCB K D = true) : L2.ExcC K D := by
  unfold excCB at h
  simp only [Bool.and_eq_true, decide_eq_true_eq] at h
  exact ⟨h.1, h.2.1, h.2.2.1, h.2.2.2.1, h.2.2.2.2.1, h.2.2.2.2.2.1, h.2.2.2.2.2.2.1, h.2.2.2.2.2.2.2⟩
def bmB (K : PySem.W.Frag) (m : Str) (g : Addr) : Bool :=
  decide (PySem.W.specialIn K (.ref g) "__get__" = some (some (.builtin "function.__get__"))) && (decide (PySem.W.takesIn K (.ref g) = some false) && (!PySem.W.copiedNames.contains m && PySem.W.fnIn K g))
/-- .. and more -/
def PD.ex (K : PySem.W.Frag) : Bool := (p.subs.all fun q => decide (PySem.W.kitOne K (.ref (He.ga K (p.cn q.1))) (.ref (He.ga K (p.cn q.2.1))) = some q.2.2) && excCB K (He.ga K (p.cn q.1))) &&
  (p.meths.all fun q => !p.stars.contains q.2.1 || bmB K (p.att q.2.1) (He.ma K (He.ga K (p.cn q.1)) (p.att q.2.1)))
/-! ### what the kernel checks -/
def fnScopeB (N P : List Str) (sc : Scope) : Bool := decide (sc.kind = .function) && !sc.isCoroutine && !sc.isGenerator && decide N.Nodup && decide (N.take P.length = P) && P.all (fun x => locK (sc.names.lookup x)) && sc.names.all fun y => decide (y.2 ≠ .free)
theorem fnScopeB_ok {N P : List Str} {sc : Scope} (h : fnScopeB N P sc = true) : FnScope N P sc := by
  unfold fnScopeB at h
  simp only [Bool.and_eq_true, decide_eq_true_eq, Bool.not_eq_true', List.all_eq_true] at h
  obtain ⟨⟨⟨⟨⟨⟨h1, h2⟩, h3⟩, h4⟩, h5⟩, h6⟩, h7⟩ := h
  exact ⟨h1, h2, h3, h4, h5, fun x hx => loc_of (h6 x hx), h7⟩
def FnD.okB (d : FnD) : Bool := plainArgs d.params d.ps && fnScopeB d.N d.ps d.scope && chkB p.G p.M d.core ⟨d.N, d.scope, fun _ => true, true, true, none⟩ d.body
def atIs (f : Nat) (a : Str × Option Str) : Bool := match p.fnA f with
  | some d => decide (d.at_ = a)
  | none => false
def PD.namesB : Bool := decide p.atts.Nodup && (p.atts.all fun x => x.cps.toList.all fun c => decide (c < 2000000)) && (p.meths.all fun q => atIs p q.2.2 (p.cn q.1, some (p.att q.2.1))) && (p.inits.all fun q => atIs p q.2 (p.cn q.1, some "__init__"))
def PD.good : Bool := p.namesB && p.fns.all fun d => d.okB p
end
section
variable {p : PD} {K : PySem.W.Frag} {h : Heap} {mg : Str → Option Value}
theorem att_inj (h1 : p.atts.Nodup) (h2 : (p.atts.all fun x => x.cps.toList.all fun c => decide (c < 2000000)) = true) (i j : Nat) (e : p.att i = p.att j) : i = j := by
  have lo : ∀ (i : Nat) (x : Str) (j : Nat), p.atts[i]? = some x → x = freshA j → False := fun i x j hi e => by
    have h3 := List.all_eq_true.mp h2 x (List.mem_of_getElem? hi)
    rw [e] at h3
    have h4 : decide (2000000 + j < 2000000) = true := by
      have : (freshA j).cps.toList.all (fun c => decide (c < 2000000)) = decide (2000000 + j < 2000000) := by
        unfold freshA
        simp
      rw [← this]
      exact h3
    have := of_decide_eq_true h4
    omega
  unfold PD.att at e
  cases a : p.atts[i]? with
  | none =>
    cases b : p.atts[j]? with
    | none =>
      rw [a, b] at e
      have e : freshA i = freshA j := e
      unfold freshA at e
      simp only [Str.mk.injEq] at e
      have e2 : #[2000000 + i] = #[2000000 + j] := e
      have e3 : 2000000 + i = 2000000 + j := by
        have := congrArg (fun z : Array Nat => z[0]?) e2
        simpa using this
      omega
    | some y =>
      rw [a, b] at e
      exact (lo j y i b e.symm).elim
  | some x =>
    cases b : p.atts[j]? with
    | none =>
      rw [a, b] at e
      exact (lo i x j a e).elim
    | some y =>
      rw [a, b] at e
      have e : x = y := e
      subst e
      exact nodup_ix h1 a b
theorem find_mem {α : Type} {l : List α} {f : α → Bool} {x : α} (h : l.find? f = some x) : x ∈ l ∧ f x = true := ⟨List.mem_of_find?_eq_some h, List.find?_some h⟩
theorem atIs_ok {f : Nat} {a : Str × Option Str} (h : atIs p f a = true) : p.fa K f = He.fAd K a ∧ (p.G.fn f).isSome = true := by
  unfold atIs at h
  unfold PD.fa PD.G
  cases e : p.fnA f with
  | none => rw [e] at h; cases h
  | some d =>
    rw [e] at h
    have h : d.at_ = a := of_decide_eq_true h
    subst h
    refine ⟨rfl, ?_⟩
    show ((p.fnA f).map FnD.fn).isSome = true
    rw [e]; rfl
theorem whole (ok : p.good = true) (X : K.In h) (Gn : h.Ns mainGlobals mg) (c : He.SaysD p.faL p.fnL K) (ex : p.ex K = true) : Whole p.G p.M (p.T K) K mg (p.fa K) := by
  unfold PD.good PD.namesB at ok
  simp only [Bool.and_eq_true] at ok
  obtain ⟨⟨⟨⟨o1, o2⟩, o3⟩, o4⟩, o5⟩ := ok
  unfold PD.ex at ex
  simp only [Bool.and_eq_true] at ex
  obtain ⟨x1, x2⟩ := ex
  have F : ∀ {f : He.Fa}, f ∈ p.faL → f.ok K = true := fun hf => c.facts hf
  have g1 : ∀ {d : FnD} {x : Str}, d ∈ p.fns → d.glob = some x → (He.Fa.glo x).ok K = true := fun {d x} hd e => F (by
    unfold PD.faL
    exact List.mem_append_left _ (List.mem_filterMap.mpr ⟨d, hd, by rw [e]; rfl⟩))
  have g2 : ∀ {x : Str}, x ∈ p.classes → (He.Fa.glo x).ok K = true := fun {x} hx => F (by
    unfold PD.faL
    simp only [List.mem_append, List.mem_map]
    exact .inr (.inl ⟨x, hx, rfl⟩))
  have g3 : ∀ {x : Str}, x ∈ p.free → (He.Fa.free x).ok K = true := fun {x} hx => F (by
    unfold PD.faL
    simp only [List.mem_append, List.mem_map]
    exact .inr (.inr (.inl ⟨x, hx, rfl⟩)))
  have g4 : ∀ {q : Str × Int}, q ∈ p.konst → (He.Fa.int q.1 q.2).ok K = true := fun {q} hx => F (by
    unfold PD.faL
    simp only [List.mem_append, List.mem_map]
    exact .inr (.inr (.inr (.inl ⟨q, hx, rfl⟩))))
  have g5 : ∀ {q : Nat × Nat}, q ∈ p.flds → (He.Fa.cls (p.cn q.1)).ok K = true ∧ (He.Fa.noat (p.cn q.1) (p.att q.2)).ok K = true := fun {q} hx => ⟨F (by
    unfold PD.faL
    simp only [List.mem_append, List.mem_map]
    exact .inr (.inr (.inr (.inr (.inl ⟨q, hx, rfl⟩))))), F (by
    unfold PD.faL
    simp only [List.mem_append, List.mem_map]
    exact .inr (.inr (.inr (.inr (.inr (.inl ⟨q, hx, rfl⟩))))))⟩
  have g6 : ∀ {q : Nat × Nat × Nat}, q ∈ p.meths → (He.Fa.cls (p.cn q.1)).ok K = true ∧ (He.Fa.meth (p.cn q.1) (p.att q.2.1)).ok K = true := fun {q} hx => ⟨F (by
    unfold PD.faL
    simp only [List.mem_append, List.mem_map]
    exact .inr (.inr (.inr (.inr (.inr (.inr (.inl ⟨q, hx, rfl⟩))))))), F (by
    unfold PD.faL
    simp only [List.mem_append, List.mem_map]
    exact .inr (.inr (.inr (.inr (.inr (.inr (.inr (.inl ⟨q, hx, rfl⟩))))))))⟩
  have g7 : ∀ {q : Nat × Nat}, q ∈ p.inits → (He.Fa.mkr (p.cn q.1)).ok K = true := fun {q} hx => F (by
    unfold PD.faL
    simp only [List.mem_append, List.mem_map]
    exact .inr (.inr (.inr (.inr (.inr (.inr (.inr (.inr (.inl ⟨q, hx, rfl⟩)))))))))
  have g8 : ∀ {q : Nat}, q ∈ p.excs → (He.Fa.exc (p.cn q)).ok K = true := fun {q} hx => F (by
    unfold PD.faL
    simp only [List.mem_append, List.mem_map]
    exact .inr (.inr (.inr (.inr (.inr (.inr (.inr (.inr (.inr (.inl ⟨q, hx, rfl⟩))))))))))
  have g9 : ∀ {q : Nat × Nat × Bool}, q ∈ p.subs → (He.Fa.exm (p.cn q.1) (p.cn q.2.1) q.2.2).ok K = true := fun {q} hx => F (by
    unfold PD.faL
    simp only [List.mem_append, List.mem_map]
    exact .inr (.inr (.inr (.inr (.inr (.inr (.inr (.inr (.inr (.inr ⟨q, hx, rfl⟩))))))))))
  have mt : ∀ ci mi f, p.G.meth ci mi = some f → (ci, mi, f) ∈ p.meths := fun ci mi f e => by
    have e : (p.meths.find? fun q => q.1 == ci && q.2.1 == mi).map (fun q => q.2.2) = some f := e
    cases e2 : p.meths.find? fun q => q.1 == ci && q.2.1 == mi with
    | none => rw [e2] at e; cases e
    | some q =>
      rw [e2] at e
      obtain ⟨hm, hq⟩ := find_mem e2
      simp only [Bool.and_eq_true, beq_iff_eq] at hq
      have e3 : q.2.2 = f := Option.some.inj e
      obtain ⟨a, b, z⟩ := q
      obtain ⟨q1, q2⟩ := hq
      simp only at q1 q2 e3
      subst q1; subst q2; subst e3
      exact hm
  exact {
    hK := rfl
    hold := rfl
    inj := att_inj (of_decide_eq_true o1) o2
    att := fun _ => rfl
    free := fun x hx => He.free_ok X Gn (g3 (by
      have hx : p.free.contains x = true := hx
      simpa using hx))
    konst := fun q hq => He.int_ok X Gn (g4 hq)
    cls := fun ci x e => by
      have e : p.clsA ci = some x := e
      have z := He.glo_ok X Gn (g2 (p.clsA_mem e))
      have e2 : (p.T K).cls ci = He.ga K x := by
        show He.ga K (p.cn ci) = _
        unfold PD.cn
        rw [e]; rfl
      rw [z, e2]
    flds := fun ci f e => by
      have e : (p.flds.any fun q => q.1 == ci && q.2 == f) = true := e
      obtain ⟨q, hq, hz⟩ := List.any_eq_true.mp e
      simp only [Bool.and_eq_true, beq_iff_eq] at hz
      obtain ⟨a, b⟩ := q
      obtain ⟨z1, z2⟩ := hz
      simp only at z1 z2
      subst z1; subst z2
      exact ⟨He.cls_ok (g5 hq).1, He.noat_ok (g5 hq).2⟩
    exc := fun ci e => by
      have e : (if p.excs.contains ci = true then some none else none : Option (Option Nat)) = some none := e
      by_cases z : p.excs.contains ci = true
      · obtain ⟨a1, a2, a3, a4⟩ := He.exc_ok (g8 (by simpa using z))
        exact ⟨⟨_, _, _, _, PySem.F.excBase_ValueError, a1⟩, a2, a3, a4⟩
      · rw [if_neg z] at e; cases e
    sub := fun ci cj u e => by
      have e : (p.subs.find? fun q => q.1 == ci && q.2.1 == cj).map (fun q => q.2.2) = some u := e
      cases e2 : p.subs.find? fun q => q.1 == ci && q.2.1 == cj with
      | none => rw [e2] at e; cases e
      | some q =>
        rw [e2] at e
        obtain ⟨hm, hq⟩ := find_mem e2
        simp only [Bool.and_eq_true, beq_iff_eq] at hq
        have e3 : q.2.2 = u := Option.some.inj e
        obtain ⟨a, b, z⟩ := q
        obtain ⟨q1, q2⟩ := hq
        simp only at q1 q2 e3
        subst q1; subst q2; subst e3
        have y := List.all_eq_true.mp x1 _ hm
        simp only [Bool.and_eq_true, decide_eq_true_eq] at y
        exact ⟨y.1, He.exm_ok (g9 hm), excCB_ok y.2⟩
    fn := fun f fn e => by
      have e : (p.fnA f).map FnD.fn = some fn := e
      cases e2 : p.fnA f with
      | none => rw [e2] at e; cases e
      | some d =>
        rw [e2] at e
        have e : d.fn = fn := Option.some.inj e
        subst e
        have hd := p.fnA_mem e2
        have ob := List.all_eq_true.mp o5 d hd
        unfold FnD.okB at ob
        simp only [Bool.and_eq_true] at ob
        obtain ⟨⟨b1, b2⟩, b3⟩ := ob
        obtain ⟨fd, FF⟩ := c.defs (d := d.dd) (List.mem_map.mpr ⟨d, hd, rfl⟩)
        have FF : FunD K d.name d.qual d.params d.body d.scope [] [] (He.fAd K d.at_) fd := FF
        have ef : p.fa K f = He.fAd K d.at_ := by
          unfold PD.fa
          rw [e2]
        rw [ef]
        exact ⟨d.name, d.qual, d.params, d.body, d.scope, fd, d.N, d.ps, FF, FF.bindsN fun kV doc pm an cdv ct us hl => bind_plain b1 kV doc pm an cdv ct us hl, fnScopeB_ok b2, rfl, rfl, b3⟩
    glob := fun f x e => by
      have e : (p.fnA f).bind FnD.glob = some x := e
      cases e2 : p.fnA f with
      | none => rw [e2] at e; cases e
      | some d =>
        rw [e2] at e
        have e : d.glob = some x := e
        have z := He.glo_ok X Gn (g1 (p.fnA_mem e2) e)
        have ef : p.fa K f = He.ga K x := by
          unfold PD.fa
          rw [e2]
          unfold FnD.glob at e
          unfold He.fAd
          cases e3 : d.at_.2 with
          | none => rw [e3] at e; cases e; simp only [e3]
          | some m => rw [e3] at e; cases e
        refine ⟨by rw [z, ef], ?_⟩
        show ((p.fnA f).map FnD.fn).isSome = true
        rw [e2]; rfl
    meth := fun ci mi f e => by
      have hm := mt ci mi f e
      obtain ⟨a1, a2⟩ := atIs_ok (K := K) (List.all_eq_true.mp o3 _ hm)
      refine ⟨He.cls_ok (g6 hm).1, ?_, a2⟩
      rw [a1]
      exact He.meth_ok (g6 hm).2
    bmeth := fun ci mi f hs e => by
      have hm := mt ci mi f e
      obtain ⟨a1, a2⟩ := atIs_ok (K := K) (List.all_eq_true.mp o3 _ hm)
      have y := List.all_eq_true.mp x2 _ hm
      have hs : p.stars.contains mi = true := hs
      simp only [hs, Bool.not_true, Bool.false_or] at y
      unfold bmB at y
      simp only [Bool.and_eq_true, decide_eq_true_eq, Bool.not_eq_true'] at y
      rw [a1]
      exact ⟨He.meth_ok (g6 hm).2, y.1, y.2.1, y.2.2.1, y.2.2.2⟩
    init := fun ci f e => by
      have e : (p.inits.find? fun q => q.1 == ci).map (fun q => q.2) = some f := e
      cases e2 : p.inits.find? fun q => q.1 == ci with
      | none => rw [e2] at e; cases e
      | some q =>
        rw [e2] at e
        obtain ⟨hm, hq⟩ := find_mem e2
        simp only [beq_iff_eq] at hq
        have e3 : q.2 = f := Option.some.inj e
        obtain ⟨a, b⟩ := q
        simp only at hq e3
        subst hq; subst e3
        obtain ⟨a1, a2⟩ := atIs_ok (K := K) (List.all_eq_true.mp o4 _ hm)
        refine ⟨?_, a2⟩
        rw [a1]
        exact He.mkr_ok (g7 hm) }
end
end Pv
end

section
set_option autoImplicit false
set_option linter.all false
set_option maxHeartbeats 4000000
set_option maxRecDepth 10000
/-! Pv28: from the evaluator to the law's row. -/
namespace Pv
open PySem L2 PySem.Spec PyProof.Rows
/-- the head's Hook: facts, defs, and one more look -/
def hookP (n : Nat) (fa : List He.Fa) (fn : List He.DefD) (ex : PySem.W.Frag → Bool) : PySem.W.Hook where
  α := He.AlD × Bool
  obs := fun s => (He.obsDG n fa fn s.heap.get?, ex (He.frG s.heap.get? (He.asD s.heap.get? n)))
  val := fun _ => (He.valD fn, true)
  says := fun _ h => ∃ K : PySem.W.Frag, K.In h ∧ He.SaysD fa fn K ∧ ex K = true
  of := fun _ _ e => ⟨_, He.frG_in, congrArg (fun z : He.AlD × Bool => z.1) e, congrArg (fun z : He.AlD × Bool => z.2) e⟩
  keeps := fun _ _ _ ⟨K, hK, c⟩ k => ⟨K, PySem.W.Frag.In.keeps hK k, c⟩
def obP (n : Nat) (fa : List He.Fa) (fn : List He.DefD) (ex : PySem.W.Frag → Bool) (s : PySem.W.SharedT) : He.AlD × Bool := (He.obsDG n fa fn (HandSHeadRun.getT s), ex (He.frG (HandSHeadRun.getT s) (He.asD (HandSHeadRun.getT s) n)))
theorem obP_eq (n : Nat) (fa : List He.Fa) (fn : List He.DefD) (ex : PySem.W.Frag → Bool) (s : PySem.W.SharedT) : obP n fa fn ex s = (hookP n fa fn ex).obs s.abs := by
  have e : HandSHeadRun.getT s = s.abs.heap.get? := funext (HandSHeadRun.getT_eq s)
  unfold obP
  rw [e]
  rfl
/-- as L2.walk_ofE, what may be let out told by the world -/
theorem walk_ofP {l : PySem.W.OpenLaw} {n k : Nat} {q : Program} {loose : List Str} {XP : (Str → Option Value) → Heap → Prop} {YP : World → Heap → Prop} {d : DefRec} {x : Str} (CX : World → CXT)
    (hn : l.most = some n) (hn2 : n ≤ sizeLine) (hdf : d.params.defaults = []) (hr : Room k callerA)
    (F : ∀ (w : World) (mg : Str → Option Value) (fa : Addr) (h : Heap), YP w h → h.Ns mainGlobals mg → mg d.name = some (.ref fa) →
      ∃ (K : PySem.W.Frag) (fd : FuncData) (sp : Sp), K.In h ∧ (∀ (s : Shared) (u : Value), BindsTo s fd ⟨[u], []⟩ [(x, u)]) ∧
        (∀ (H : Hp) (a : Addr) (ns : List Int), ns.length ≤ n → Only H → SqL K H a (ns.map V.int) → sp [.ref a] H (fun v _ => v = .bl true) fun _ _ _ => False) ∧
        ∀ base : Heap, K.In base → base.Ns mainGlobals mg → FnOk l.prog w K mg base (CX w) k fa fd [x] sp)
    (hCX : ∀ (w : World) (H : Hp) (s : Shared) (e : Value) (s' : Shared), CX w [] H s (fun _ _ _ => False) e s' → False) :
    PySem.W.WalkO q loose XP YP l.row.toRowW d [] (fun f vs => PySem.call f vs) := by
  refine Att.attach_call hn hdf fun w s₀ s₁ mg mb fa o pm cd doc a vs ns G Y ho hd hcd hmg hobj hints hlen hg => ?_
  obtain ⟨K, fd, sp, KX, hb, hsp, hF⟩ := F w mg fa _ Y G.T.g hmg
  exact law_call KX G.T.g G.T.b G.T.builtins G.T.nolimit hg hobj hints (Nat.le_trans hlen hn2) hr hF hb (fun H hO hS => hsp H a ns hlen hO hS) fun H e s' => hCX w H s₁ e s'
theorem cx_no (P : Program) (w : World) (H : Hp) (s : Shared) (e : Value) (s' : Shared) (h : L2.CX P w [] H s (fun _ _ _ => False) e s') : False := by
  obtain ⟨_, _, _, _, _, _, _, _, _, _, _, _, z⟩ := h
  exact z
theorem denL_ints {T : Tb} {μ : List Addr} {H : Hp} (ns : List Int) : DenL T μ H (ns.map D.int) (ns.map V.int) := DenL.ints ns
/-- the law, from the evaluator's word -/
theorem walk_pd {l : PySem.W.OpenLaw} {q : Program} {loose : List Str} {XP : (Str → Option Value) → Heap → Prop} {d : DefRec} {N : Nat} (p : PD) (nst n dp : Nat) (dl : FnD) (good : p.good = true) (h0 : p.fnA 0 = some dl) (hps : dl.ps = ([("script" : Str)] : List Str)) (hat : dl.at_ = (d.name, none))
    (hn : l.most = some N) (hn2 : N ≤ sizeLine) (hdf : d.params.defaults = []) (hr : Room (dp + 2) callerA)
    (hev : ∀ (ns : List Int) (x : D) (S : Sto), (x = .ref 0 ∧ S = [.clst (ns.map D.int)]) ∨ (x = .klst (ns.map D.int) ∧ S = []) → ∃ S', evC p.G n (dp + 1) 0 [x] S = .ok (.bl true) S') :
    PySem.W.WalkO q loose XP (hookP nst p.faL p.fnL p.ex).says l.row.toRowW d [] (fun f vs => PySem.call f vs) := by
  refine walk_ofP (x := "script") (k := dp + 2) (fun w => L2.CX l.prog w) hn hn2 hdf hr (fun w mg fa h Y Gn hmg => ?_) fun w H s e s' => cx_no l.prog w H s e s'
  obtain ⟨K, KX, c, ex⟩ := Y
  have Wh := whole good KX Gn c ex
  have hd : dl ∈ p.fns := p.fnA_mem h0
  obtain ⟨fd, F⟩ := c.defs (d := dl.dd) (List.mem_map.mpr ⟨dl, hd, rfl⟩)
  have F : FunD K dl.name dl.qual dl.params dl.body dl.scope [] [] (He.fAd K dl.at_) fd := F
  have efa : p.fa K 0 = He.fAd K dl.at_ := by
    unfold PD.fa
    rw [h0]
  have hg : p.M.glob 0 = some d.name := by
    show (p.fnA 0).bind FnD.glob = _
    rw [h0]
    show dl.glob = _
    unfold FnD.glob
    rw [hat]
  have e1 : fa = p.fa K 0 := by
    have z := (Wh.glob 0 d.name hg).1
    rw [hmg] at z
    have z := Option.some.inj z
    cases z
    rfl
  have ob : dl.okB p = true := by
    unfold PD.good at good
    simp only [Bool.and_eq_true] at good
    exact List.all_eq_true.mp good.2 dl hd
  unfold FnD.okB at ob
  simp only [Bool.and_eq_true] at ob
  obtain ⟨⟨b1, b2⟩, b3⟩ := ob
  have ef : p.G.fn 0 = some dl.fn := by
    show (p.fnA 0).map FnD.fn = _
    rw [h0]
    rfl
  refine ⟨K, fd, spD (p.T K) (evC p.G n (dp + 1) 0), KX, fun s u => ?_, fun H a ns _ hO hS => ?_, fun base _ _ => ?_⟩
  · have b := F.bindsA (ps := dl.ps) (fun kV doc pm an cdv ct us hl => bind_plain b1 kV doc pm an cdv ct us hl) s [u] (by rw [hps]; rfl)
    rw [hps] at b
    exact b
  · rcases hS with hS | hS
    · obtain ⟨S', e⟩ := hev ns (.ref 0) [.clst (ns.map D.int)] (.inl ⟨rfl, rfl⟩)
      refine ⟨[a], [.clst (ns.map D.int)], [.ref 0], ⟨rfl, List.nodup_cons.mpr ⟨by simp, List.nodup_nil⟩, fun b hb => ?_, fun i o b h1 h2 => ?_⟩, ⟨.ref a, [], rfl, ⟨a, rfl, rfl⟩, rfl⟩, ?_⟩
      · have hb : b = a := by simpa using hb
        subst hb
        rcases hS with hS | ⟨o, hS⟩
        · rw [hS]; simp
        · rw [hS]; simp
      · cases i with
        | zero =>
          have h1 : Ob.clst (ns.map D.int) = o := Option.some.inj h1
          have h2 : a = b := Option.some.inj h2
          subst h1; subst h2
          exact ⟨_, hS, DenL.ints ns⟩
        | succ i => simp at h1
      · rw [e]
        exact fun μ' H' v g s hv => hv
    · obtain ⟨S', e⟩ := hev ns (.klst (ns.map D.int)) [] (.inr ⟨rfl, rfl⟩)
      refine ⟨[], [], [.klst (ns.map D.int)], ⟨rfl, List.nodup_nil, fun b hb => (nomatch hb), fun i o b h1 h2 => by simp at h1⟩, ⟨.ref a, [], rfl, ⟨a, _, rfl, hS, DenL.ints ns⟩, rfl⟩, ?_⟩
      rw [e]
      exact fun μ' H' v g s hv => hv
  · rw [e1]
    have ok := fn_body (P := l.prog) (w := w) (base := base) (n := n) Wh dp 0 (fun m _ f hf => fn_ok Wh m f hf) ef (by rw [efa]; exact F) (fnScopeB_ok b2) rfl rfl b3
    rw [hps] at ok
    exact ok
end Pv
end

section
set_option autoImplicit false
set_option linter.all false
set_option maxHeartbeats 4000000
/-! Pv30: behind a call what nothing leads to is forgotten. -/
namespace Pv
open PySem L2
/-! ### new refs -/
mutual
def newD (n : Nat) : D → List Nat
  | .ref k => if k < n then [] else [k]
  | .tup xs => newL n xs
  | .ktup xs => newL n xs
  | .klst xs => newL n xs
  | .non => []
  | .bl _ => []
  | .int _ => []
  | .str _ => []
def newL (n : Nat) : List D → List Nat
  | [] => []
  | x :: r => newD n x ++ newL n r
end
def newO (n : Nat) : Ob → List Nat
  | .lst xs => newL n xs
  | .clst xs => newL n xs
  | .dK kvs => newL n (kvs.map (·.2))
  | .dT kvs => newL n (kvs.map (·.2))
  | .ins _ fs => newL n (fs.map (·.2))
  | .dead => []
mutual
def renD (n : Nat) (ρ : List Nat) : D → D
  | .ref k => if k < n then .ref k else .ref (n + ρ.idxOf k)
  | .tup xs => .tup (renL n ρ xs)
  | .ktup xs => .ktup (renL n ρ xs)
  | .klst xs => .klst (renL n ρ xs)
  | .non => .non
  | .bl b => .bl b
  | .int i => .int i
  | .str x => .str x
def renL (n : Nat) (ρ : List Nat) : List D → List D
  | [] => []
  | x :: r => renD n ρ x :: renL n ρ r
end
def renO (n : Nat) (ρ : List Nat) : Ob → Ob
  | .lst xs => .lst (renL n ρ xs)
  | .clst xs => .clst (renL n ρ xs)
  | .dK kvs => .dK (kvs.map fun p => (p.1, renD n ρ p.2))
  | .dT kvs => .dT (kvs.map fun p => (p.1, renD n ρ p.2))
  | .ins c fs => .ins c (fs.map fun p => (p.1, renD n ρ p.2))
  | .dead => .dead
/-- what is led to, level by level -/
def reach (S : Sto) (n : Nat) : Nat → List Nat → List Nat
  | 0, _ => []
  | _ + 1, [] => []
  | f + 1, k :: ks => (k :: ks) ++ reach S n f ((k :: ks).flatMap fun k => newO n ((S[k]?).getD .dead))
/-- the old objects lead to nothing new -/
def OldOk (S S' : Sto) : Prop := S.length ≤ S'.length ∧ ∀ i, i < S.length → S'[i]? = S[i]? ∨ newO S.length ((S'[i]?).getD .dead) = []
def GcOk (S S' : Sto) (d : D) (ρ : List Nat) : Prop :=
  OldOk S S' ∧ ρ.Nodup ∧ (∀ k ∈ newD S.length d, k ∈ ρ) ∧ ∀ k ∈ ρ, S.length ≤ k ∧ k < S'.length ∧ ∀ j ∈ newO S.length ((S'[k]?).getD .dead), j ∈ ρ
def gcS (n : Nat) (S' : Sto) (ρ : List Nat) : Sto := S'.take n ++ ρ.map fun k => renO n ρ ((S'[k]?).getD .dead)
open Classical in
/-- what is left of a call's end -/
noncomputable def gc (S : Sto) (r : R D) : R D := match r with
  | .ok d S' => if GcOk S S' d (reach S' S.length 5 (newD S.length d)) then .ok (renD S.length (reach S' S.length 5 (newD S.length d)) d) (gcS S.length S' (reach S' S.length 5 (newD S.length d))) else .ok d S'
  | .exc x S' => if OldOk S S' ∧ x.fs = [] then .exc x (S'.take S.length) else .exc x S'
  | .bad => .bad
/-! ### it is the same heap -/
section
variable {T : Tb} {μ μ' : List Addr} {H H' : Hp}
mutual
theorem Den.newNil {n : Nat} (hn : n = μ.length) : ∀ {d : D} {v : V}, Den T μ H d v → newD n d = []
  | .ref k, _, ⟨a, _, e⟩ => by
    unfold newD
    rw [if_pos (by rw [hn]; exact (List.getElem?_eq_some_iff.mp e).1)]
  | .tup xs, _, ⟨_, _, _, _, h⟩ => DenL.newNil hn h
  | .ktup xs, _, ⟨_, _, _, _, h⟩ => DenL.newNil hn h
  | .klst xs, _, ⟨_, _, _, _, h⟩ => DenL.newNil hn h
  | .non, _, _ => rfl
  | .bl _, _, _ => rfl
  | .int _, _, _ => rfl
  | .str _, _, _ => rfl
theorem DenL.newNil {n : Nat} (hn : n = μ.length) : ∀ {ds : List D} {vs : List V}, DenL T μ H ds vs → newL n ds = []
  | [], _, _ => rfl
  | d :: ds, _, ⟨v, r, _, h, t⟩ => by
    unfold newL
    rw [Den.newNil hn h, DenL.newNil hn t]; rfl
end
theorem KD.newNil {κ : Type} {n : Nat} (hn : n = μ.length) : ∀ {l : List (κ × D)} {vs : List (κ × V)}, KD T μ H l vs → newL n (l.map (·.2)) = []
  | [], _, _ => rfl
  | p :: r, _, ⟨v, q, _, h, t⟩ => by
    show newD n p.2 ++ newL n (r.map (·.2)) = []
    rw [Den.newNil hn h, KD.newNil hn t]; rfl
theorem FD.newNil {n : Nat} (hn : n = μ.length) : ∀ {l : List (Nat × D)} {vs : List (Str × V)}, FD T μ H l vs → newL n (l.map (·.2)) = []
  | [], _, _ => rfl
  | p :: r, _, ⟨v, q, _, h, t⟩ => by
    show newD n p.2 ++ newL n (r.map (·.2)) = []
    rw [Den.newNil hn h, FD.newNil hn t]; rfl
theorem ObR.newNil {n : Nat} (hn : n = μ.length) {a : Addr} : ∀ {o : Ob}, ObR T μ H a o → newO n o = []
  | .lst _, ⟨_, _, h⟩ => h.newNil hn
  | .clst _, ⟨_, _, h⟩ => h.newNil hn
  | .dK _, ⟨_, _, h⟩ => h.newNil hn
  | .dT _, ⟨_, _, h⟩ => h.newNil hn
  | .ins _ _, ⟨_, _, _, h⟩ => h.newNil hn
  | .dead, _ => rfl
/-- the other numbers of the same things -/
structure Ren (n : Nat) (ρ : List Nat) (μ' μ2 : List Addr) : Prop where
  old : ∀ k, k < n → μ2[k]? = μ'[k]?
  new : ∀ k, k ∈ ρ → μ2[n + ρ.idxOf k]? = μ'[k]?
variable {n : Nat} {ρ : List Nat} {μ2 : List Addr}
mutual
theorem Den.ren (g : Ren n ρ μ' μ2) : ∀ {d : D} {v : V}, (∀ k ∈ newD n d, k ∈ ρ) → Den T μ' H d v → Den T μ2 H (renD n ρ d) v
  | .ref k, _, hk, ⟨a, e, ea⟩ => by
    unfold renD
    by_cases c : k < n
    · rw [if_pos c]; exact ⟨a, e, (g.old k c).trans ea⟩
    · rw [if_neg c]
      exact ⟨a, e, (g.new k (hk k (by unfold newD; rw [if_neg c]; exact List.mem_singleton.mpr rfl))).trans ea⟩
  | .tup xs, _, hk, ⟨a, ys, e, ea, h⟩ => ⟨a, ys, e, ea, DenL.ren g hk h⟩
  | .ktup xs, _, hk, ⟨a, ys, e, ea, h⟩ => ⟨a, ys, e, ea, DenL.ren g hk h⟩
  | .klst xs, _, hk, ⟨a, ys, e, ea, h⟩ => ⟨a, ys, e, ea, DenL.ren g hk h⟩
  | .non, _, _, h => h
  | .bl _, _, _, h => h
  | .int _, _, _, h => h
  | .str _, _, _, h => h
theorem DenL.ren (g : Ren n ρ μ' μ2) : ∀ {ds : List D} {vs : List V}, (∀ k ∈ newL n ds, k ∈ ρ) → DenL T μ' H ds vs → DenL T μ2 H (renL n ρ ds) vs
  | [], _, _, h => h
  | d :: ds, _, hk, ⟨v, r, e, h, t⟩ => ⟨v, r, e, Den.ren g (fun k m => hk k (by unfold newL; exact List.mem_append_left _ m)) h, DenL.ren g (fun k m => hk k (by unfold newL; exact List.mem_append_right _ m)) t⟩
end
theorem KD.ren {κ : Type} (g : Ren n ρ μ' μ2) : ∀ {l : List (κ × D)} {vs : List (κ × V)}, (∀ k ∈ newL n (l.map (·.2)), k ∈ ρ) → KD T μ' H l vs → KD T μ2 H (l.map fun p => (p.1, renD n ρ p.2)) vs
  | [], _, _, h => h
  | p :: r, _, hk, ⟨v, q, e, h, t⟩ => ⟨v, q, e, h.ren g (fun k m => hk k (by show k ∈ newD n p.2 ++ newL n (r.map (·.2)); exact List.mem_append_left _ m)), KD.ren g (fun k m => hk k (by show k ∈ newD n p.2 ++ newL n (r.map (·.2)); exact List.mem_append_right _ m)) t⟩
theorem FD.ren (g : Ren n ρ μ' μ2) : ∀ {l : List (Nat × D)} {vs : List (Str × V)}, (∀ k ∈ newL n (l.map (·.2)), k ∈ ρ) → FD T μ' H l vs → FD T μ2 H (l.map fun p => (p.1, renD n ρ p.2)) vs
  | [], _, _, h => h
  | p :: r, _, hk, ⟨v, q, e, h, t⟩ => ⟨v, q, e, h.ren g (fun k m => hk k (by show k ∈ newD n p.2 ++ newL n (r.map (·.2)); exact List.mem_append_left _ m)), FD.ren g (fun k m => hk k (by show k ∈ newD n p.2 ++ newL n (r.map (·.2)); exact List.mem_append_right _ m)) t⟩
theorem ObR.ren (g : Ren n ρ μ' μ2) {a : Addr} : ∀ {o : Ob}, (∀ k ∈ newO n o, k ∈ ρ) → ObR T μ' H a o → ObR T μ2 H a (renO n ρ o)
  | .lst _, hk, ⟨xs, e, h⟩ => ⟨xs, e, h.ren g hk⟩
  | .clst _, hk, ⟨xs, e, h⟩ => ⟨xs, e, h.ren g hk⟩
  | .dK _, hk, ⟨xs, e, h⟩ => ⟨xs, e, h.ren g hk⟩
  | .dT _, hk, ⟨xs, e, h⟩ => ⟨xs, e, h.ren g hk⟩
  | .ins _ _, hk, ⟨dx, xs, e, h⟩ => ⟨dx, xs, e, h.ren g hk⟩
  | .dead, _, _ => trivial
mutual
theorem renD_same {n : Nat} {ρ : List Nat} : ∀ {d : D}, newD n d = [] → renD n ρ d = d
  | .ref k, h => by
    unfold newD at h
    unfold renD
    by_cases c : k < n
    · rw [if_pos c]
    · rw [if_neg c] at h; cases h
  | .tup xs, h => by
    show D.tup (renL n ρ xs) = _
    rw [renL_same (n := n) (ds := xs) h]
  | .ktup xs, h => by
    show D.ktup (renL n ρ xs) = _
    rw [renL_same (n := n) (ds := xs) h]
  | .klst xs, h => by
    show D.klst (renL n ρ xs) = _
    rw [renL_same (n := n) (ds := xs) h]
  | .non, _ => rfl
  | .bl _, _ => rfl
  | .int _, _ => rfl
  | .str _, _ => rfl
theorem renL_same {n : Nat} {ρ : List Nat} : ∀ {ds : List D}, newL n ds = [] → renL n ρ ds = ds
  | [], _ => rfl
  | d :: ds, h => by
    unfold newL at h
    rw [List.append_eq_nil_iff] at h
    unfold renL
    rw [renD_same h.1, renL_same h.2]
end
theorem renP_same {κ : Type} {n : Nat} {ρ : List Nat} : ∀ {l : List (κ × D)}, newL n (l.map (·.2)) = [] → (l.map fun p => (p.1, renD n ρ p.2)) = l
  | [], _ => rfl
  | p :: r, h => by
    have h : newD n p.2 ++ newL n (r.map (·.2)) = [] := h
    rw [List.append_eq_nil_iff] at h
    rw [List.map_cons, renD_same h.1, renP_same h.2]
theorem renO_same {n : Nat} {ρ : List Nat} : ∀ {o : Ob}, newO n o = [] → renO n ρ o = o
  | .lst _, h => congrArg Ob.lst (renL_same h)
  | .clst _, h => congrArg Ob.clst (renL_same h)
  | .dK _, h => congrArg Ob.dK (renP_same h)
  | .dT _, h => congrArg Ob.dT (renP_same h)
  | .ins c _, h => congrArg (Ob.ins c) (renP_same h)
  | .dead, _ => rfl
theorem ObR.old {n : Nat} {μ3 : List Addr} (g : ∀ k, k < n → μ3[k]? = μ'[k]?) {a : Addr} {o : Ob} (e : newO n o = []) (h : ObR T μ' H a o) : ObR T μ3 H a o := by
  have z := h.ren (n := n) (ρ := []) (μ2 := μ3) ⟨g, fun k hk => nomatch hk⟩ (fun k hk => by rw [e] at hk; cases hk)
  rwa [renO_same e] at z
/-- the smaller store lies in the same heap -/
theorem Sim.gc {S S' : Sto} (s : Sim T μ S H) (g : Gd μ H μ' H') (s' : Sim T μ' S' H') {d : D} {ρ : List Nat} (ok : GcOk S S' d ρ) :
    ∃ μ3, Gd μ H μ3 H' ∧ Sim T μ3 (gcS S.length S' ρ) H' ∧ Ren S.length ρ μ' μ3 := by
  obtain ⟨⟨hlen, hold⟩, hnd, hd, hρ⟩ := ok
  obtain ⟨l, hl⟩ := g.pre
  have hμ : μ.length = S.length := s.len
  have hμ' : μ'.length = S'.length := s'.len
  have old : ∀ k, k < S.length → (μ ++ ρ.map fun k => (μ'[k]?).getD 0)[k]? = μ'[k]? := fun k hk => by
    rw [hl, List.getElem?_append_left (by omega), List.getElem?_append_left (by omega)]
  have at_ : ∀ j k, ρ[j]? = some k → (μ ++ ρ.map fun k => (μ'[k]?).getD 0)[S.length + j]? = μ'[k]? := fun j k e => by
    have hk := hρ k (List.mem_of_getElem? e)
    rw [List.getElem?_append_right (by omega), show S.length + j - μ.length = j by omega, List.getElem?_map, e]
    have : k < μ'.length := by omega
    simp [this]
  have ren : Ren S.length ρ μ' (μ ++ ρ.map fun k => (μ'[k]?).getD 0) := ⟨old, fun k hk => at_ _ k (by
    have := List.idxOf_lt_length_of_mem hk
    rw [List.getElem?_eq_getElem this, List.getElem_idxOf])⟩
  refine ⟨_, ⟨⟨_, rfl⟩, g.tup⟩, ⟨?_, ?_, ?_, ?_⟩, ren⟩
  · unfold gcS
    rw [List.length_append, List.length_append, List.length_take, List.length_map, List.length_map]
    omega
  · have nd' := s'.nd
    rw [List.nodup_append]
    refine ⟨s.nd, ?_, fun a ha b hb e => ?_⟩
    · rw [List.Nodup, List.pairwise_map]
      refine List.Pairwise.imp_of_mem ?_ hnd
      intro x y hx hy hxy e
      have h1 := (hρ x hx).2.1
      have h2 := (hρ y hy).2.1
      have e1 : μ'[x]? = some (μ'[x]'(by omega)) := List.getElem?_eq_getElem (by omega)
      have e2 : μ'[y]? = some (μ'[y]'(by omega)) := List.getElem?_eq_getElem (by omega)
      rw [e1, e2] at e
      have e : μ'[x]'(by omega) = μ'[y]'(by omega) := e
      rw [← e] at e2
      exact hxy (nd_ix nd' e1 e2)
    · obtain ⟨k, hk, e2⟩ := List.mem_map.mp hb
      have h1 := (hρ k hk)
      have e1 : μ'[k]? = some (μ'[k]'(by omega)) := List.getElem?_eq_getElem (by omega)
      rw [e1] at e2
      have e2 : μ'[k]'(by omega) = b := e2
      obtain ⟨i, hi⟩ := List.getElem?_of_mem ha
      have hi2 : μ'[i]? = some a := by
        rw [hl, List.getElem?_append_left (List.getElem?_eq_some_iff.mp hi).1]; exact hi
      have := (List.getElem?_eq_some_iff.mp hi).1
      rw [e2, ← e] at e1
      have := nd_ix nd' e1 hi2
      omega
  · intro b hb
    rcases List.mem_append.mp hb with m | m
    · exact s'.trk b (by rw [hl]; exact List.mem_append_left _ m)
    · obtain ⟨k, hk, e⟩ := List.mem_map.mp m
      have h1 := (hρ k hk).2.1
      have e1 : μ'[k]? = some (μ'[k]'(by omega)) := List.getElem?_eq_getElem (by omega)
      rw [e1] at e
      have e : μ'[k]'(by omega) = b := e
      rw [← e]
      exact s'.trk _ (List.getElem_mem _)
  · intro i o a eo ea
    by_cases hi : i < S.length
    · have eo' : S'[i]? = some o := by
        unfold gcS at eo
        rw [List.getElem?_append_left (by rw [List.length_take]; omega), List.getElem?_take, if_pos hi] at eo
        exact eo
      have ea' : μ'[i]? = some a := by rw [← old i hi]; exact ea
      have h := s'.ob i o a eo' ea'
      refine h.old (n := S.length) (μ3 := _) (fun k hk => old k hk) ?_
      rcases hold i hi with e | e
      · rw [e] at eo'
        obtain ⟨a2, _, r⟩ := s.at eo'
        exact r.newNil s.len.symm
      · rw [eo'] at e
        exact e
    · obtain ⟨j, rfl⟩ : ∃ j, i = S.length + j := ⟨i - S.length, by omega⟩
      unfold gcS at eo
      rw [List.getElem?_append_right (by rw [List.length_take]; omega), List.length_take, show S.length + j - min S.length S'.length = j by omega, List.getElem?_map] at eo
      cases ek : ρ[j]? with
      | none => rw [ek] at eo; cases eo
      | some k =>
        rw [ek] at eo
        have eo : renO S.length ρ ((S'[k]?).getD .dead) = o := Option.some.inj eo
        subst eo
        rw [at_ j k ek] at ea
        have hk := hρ k (List.mem_of_getElem? ek)
        have ek2 : S'[k]? = some (S'[k]'hk.2.1) := List.getElem?_eq_getElem hk.2.1
        rw [ek2] at hk ⊢
        have h := s'.ob k _ a ek2 ea
        exact h.ren ren hk.2.2
theorem Post.gc {S : Sto} {W : WX} {σv : St} {Q : V → Hp → Prop} (s : Sim T μ S H) (hW : ∀ (x : Exc), True) : ∀ {r : R D}, Post T (Den T) W σv μ H Q (gc S r) → Post T (Den T) W σv μ H Q r
  | .ok d S', h => fun μ' H' b g s' hd => by
    unfold Pv.gc at h
    by_cases c : GcOk S S' d (reach S' S.length 5 (newD S.length d))
    · simp only [if_pos c] at h
      obtain ⟨μ3, g3, s3, ren⟩ := s.gc g s' c
      exact h μ3 H' b g3 s3 (hd.ren ren c.2.2.1)
    · simp only [if_neg c] at h
      exact h μ' H' b g s' hd
  | .exc x S', h => fun μ' H' cls dd g s' hx => by
    unfold Pv.gc at h
    by_cases c : OldOk S S' ∧ x.fs = []
    · simp only [if_pos c] at h
      obtain ⟨μ3, g3, s3, ren⟩ := s.gc (d := .non) (ρ := []) g s' ⟨c.1, List.nodup_nil, fun k hk => (nomatch hk), fun k hk => nomatch hk⟩
      have e : gcS S.length S' [] = S'.take S.length := by unfold gcS; simp
      rw [e] at s3
      refine h μ3 H' cls dd g3 s3 ⟨hx.1, ?_⟩
      rcases hx.2 with q | q
      · exact .inl q
      · exact absurd c.2 q.1
    · simp only [if_neg c] at h
      exact h μ' H' cls dd g s' hx
  | .bad, h => h
end
/-! ### the evaluator -/
/-- as evP, but forgetful; old: functions taken as evC takes them -/
noncomputable def evQP (G : Prog) (w : Nat) (old : Nat → Bool) : Nat → Call × Call
  | 0 => (badCall, badCall)
  | d + 1 => (fun f ds S => if old f = true then gc S (evC G w (d + 1) f ds S) else match G.fn f with
    | some fn => if ds.length = fn.params then gc S (evB G w (evQP G w old d).1 (evQP G w old d).2 fn.body (startD fn.slots ds) S).out else .bad
    | none => .bad, (evQP G w old d).1)
noncomputable def evQ (G : Prog) (w : Nat) (old : Nat → Bool) (d : Nat) : Call := (evQP G w old d).1
noncomputable def mkQ (G : Prog) (w : Nat) (old : Nat → Bool) (d : Nat) : Call := (evQP G w old d).2
end Pv
end

section
set_option autoImplicit false
set_option linter.all false
set_option maxHeartbeats 4000000
set_option maxRecDepth 10000
/-! Pv31: every function does what the forgetful evaluator says. -/
namespace Pv
open PySem L2 PySem.Spec PyProof.Rows
section
variable {P : Program} {w : World} {K : PySem.W.Frag} {mg : Str → Option Value} {base : Heap} {T : Tb} {G : Prog} {M : Nm} {fa : Nat → Addr} {n : Nat} {old : Nat → Bool}
theorem fn_bodyC (Wh : Whole G M T K mg fa) (d : Nat) (call mk : Call) (hc : ∀ f, (G.fn f).isSome = true → FnAtP P w K mg base T (d + 1) (fa f) (call f)) (hm : ∀ f, (G.fn f).isSome = true → FnAtP P w K mg base T d (fa f) (mk f))
    {fn : Fn} {f : Nat} {x qual : Str} {params : Arguments} {body : List Stmt} {scope : Scope} {fd : FuncData} {N ps : List Str}
    (F : FunD K x qual params body scope [] [] (fa f) fd) (S : FnScope N ps scope) (hN : N.length = fn.slots) (hps : ps.length = fn.params) (hchk : chkB G M fn.body ⟨N, scope, fun _ => true, true, true, none⟩ body = true) :
    FnOk P w K mg base (L2.CX P w) (d + 2) (fa f) fd ps (spD T fun ds S => if ds.length = fn.params then gc S (evB G n call mk fn.body (startD fn.slots ds) S).out else .bad) := by
  refine F.ok (CX := L2.CX P w) (k := d + 1) S ?_ ?_
  · intro vs H Q E ⟨μ, S', ds, sim, hd, p⟩
    by_cases c : ds.length = fn.params
    · rw [hd.length, c, hps]
    · simp only [if_neg c] at p; exact False.elim p
  · intro cdv A outer s H vs Q E hr ⟨μ, S', ds, sim, hd, p⟩
    by_cases c : ds.length = fn.params
    · simp only [if_pos c] at p
      have p := Post.gc sim (fun _ => trivial) p
      refine ⟨tSs T (fun c d _ H => E c d H) (evB G n call mk fn.body), ?_, μ, S', startD fn.slots ds, sim, DenS.start fn.slots N hN Wh.hold hd, out_post p⟩
      refine (sound ⟨G, M, n, d, call, mk⟩ fn.body).1.B T _ _ ⟨N, scope, fun _ => true, true, true, none⟩ body ?_ hchk
      exact {
        hK := Wh.hK
        inj := Wh.inj
        att := Wh.att
        N := rfl
        nd := S.nd
        sc := rfl
        kind := S.kind
        fnS := fun _ _ => rfl
        hu := hr.units
        free := Wh.free
        konst := Wh.konst
        cls := Wh.cls
        flds := Wh.flds
        exc := Wh.exc
        sub := Wh.sub
        tk := takes_of rfl rfl rfl (E₁ := fun e' s'' => L2.CX P w outer H s E e' s'') rfl
        cm := fun _ => {
          calm := rfl
          hold := Wh.hold
          room := hr
          fn := fun f x hx => ⟨fa f, (Wh.glob f x hx).1, hc f (Wh.glob f x hx).2⟩
          meth := fun ci mi f h => ⟨(Wh.meth ci mi f h).1, fa f, (Wh.meth ci mi f h).2.1, hc f (Wh.meth ci mi f h).2.2⟩
          bmeth := fun ci mi f hs h => ⟨(Wh.meth ci mi f h).1, fa f, Wh.bmeth ci mi f hs h, hc f (Wh.meth ci mi f h).2.2⟩
          init := fun ci f h => ⟨fa f, (Wh.init ci f h).1, hm f (Wh.init ci f h).2⟩ }
        top := fun _ => ⟨⟨rfl, rfl⟩, passes_of (K := fun e s'' => L2.CX P w outer H s E e s'') rfl⟩
        err := fun i ci h => nomatch h }
    · simp only [if_neg c] at p; exact False.elim p
theorem spD_gc {c : List D → Sto → R D} {vs : List V} {H : Hp} {Q : VK} {E : XK} (h : spD T (fun ds S => gc S (c ds S)) vs H Q E) : spD T c vs H Q E := by
  obtain ⟨μ, S, ds, sim, hd, p⟩ := h
  exact ⟨μ, S, ds, sim, hd, Post.gc sim (fun _ => trivial) p⟩
theorem evQ_succ (f d : Nat) : evQ G n old (d + 1) f = fun ds S => if old f = true then gc S (evC G n (d + 1) f ds S) else match G.fn f with
    | some fn => if ds.length = fn.params then gc S (evB G n (evQ G n old d) (mkQ G n old d) fn.body (startD fn.slots ds) S).out else .bad
    | none => .bad := rfl
theorem mkQ_succ (f d : Nat) : mkQ G n old (d + 1) f = evQ G n old d f := rfl
theorem fn_okQ (Wh : Whole G M T K mg fa) : ∀ (d f : Nat), (G.fn f).isSome = true → FnAtP P w K mg base T (d + 1) (fa f) (evQ G n old d f) := by
  intro d
  induction d using Nat.strongRecOn with
  | _ d ih =>
    intro f hf
    cases d with
    | zero => exact fn_bad Wh 1 f hf fun _ _ => rfl
    | succ d =>
      by_cases ho : old f = true
      · obtain ⟨fd, ps, F, hb, kp⟩ := fn_ok (P := P) (w := w) (base := base) (n := n) Wh (d + 1) f hf
        refine ⟨fd, ps, F.imp fun vs H Q E h => ?_, hb, kp⟩
        rw [evQ_succ] at h
        simp only [if_pos ho] at h
        exact spD_gc h
      · cases e : G.fn f with
        | none => rw [e] at hf; cases hf
        | some fn =>
          obtain ⟨x, qual, params, body, scope, fd, N, ps, F, hb, S, hN, hps, hchk⟩ := (Wh.fn f fn e).ex
          have hm : ∀ f, (G.fn f).isSome = true → FnAtP P w K mg base T d (fa f) (mkQ G n old d f) := fun f hf => by
            cases d with
            | zero => exact fn_bad Wh 0 f hf fun _ _ => rfl
            | succ d => exact ih d (by omega) f hf
          have z := fn_bodyC (n := n) Wh d (evQ G n old d) (mkQ G n old d) (fun f hf => ih d (by omega) f hf) hm F S hN hps hchk
          refine ⟨fd, ps, ?_, hb, F.kp⟩
          rw [evQ_succ]
          simp only [if_neg ho, e]
          exact z
end
end Pv
end

section
set_option autoImplicit false
set_option linter.all false
set_option maxHeartbeats 4000000
set_option maxRecDepth 10000
/-! Pv32: the law's row, from the forgetful evaluator; the budget of turns may hang on the script. -/
namespace Pv
open PySem L2 PySem.Spec PyProof.Rows
theorem FnOk.any {P : Program} {w : World} {K : PySem.W.Frag} {mg : Str → Option Value} {base : Heap} {CX : CXT} {k : Nat} {f : Addr} {fd : FuncData} {ps : List Str} {sp : Nat → Sp} (F : ∀ n, FnOk P w K mg base CX k f fd ps (sp n)) :
    FnOk P w K mg base CX k f fd ps (fun vs H Q E => ∃ n, sp n vs H Q E) :=
  ⟨fun vs H Q E ⟨n, q⟩ => (F n).len vs H Q E q, fun A outer s H args us vs Q E hr he hb hv ⟨n, hs⟩ => (F n).run A outer s H args us vs Q E hr he hb hv hs⟩
theorem walk_pq {l : PySem.W.OpenLaw} {q : Program} {loose : List Str} {XP : (Str → Option Value) → Heap → Prop} {d : DefRec} {N : Nat} (p : PD) (nst dp : Nat) (old : Nat → Bool) (dl : FnD) (good : p.good = true) (h0 : p.fnA 0 = some dl) (hps : dl.ps = ([("script" : Str)] : List Str)) (hat : dl.at_ = (d.name, none))
    (hn : l.most = some N) (hn2 : N ≤ sizeLine) (hdf : d.params.defaults = []) (hr : Room (dp + 2) callerA)
    (hev : ∀ (ns : List Int) (x : D) (S : Sto), ns.length ≤ N → (x = .ref 0 ∧ S = [.clst (ns.map D.int)]) ∨ (x = .klst (ns.map D.int) ∧ S = []) → ∃ n S', evQ p.G n old (dp + 1) 0 [x] S = .ok (.bl true) S') :
    PySem.W.WalkO q loose XP (hookP nst p.faL p.fnL p.ex).says l.row.toRowW d [] (fun f vs => PySem.call f vs) := by
  refine walk_ofP (x := "script") (k := dp + 2) (fun w => L2.CX l.prog w) hn hn2 hdf hr (fun w mg fa h Y Gn hmg => ?_) fun w H s e s' => cx_no l.prog w H s e s'
  obtain ⟨K, KX, c, ex⟩ := Y
  have Wh := whole good KX Gn c ex
  have hd : dl ∈ p.fns := p.fnA_mem h0
  obtain ⟨fd, F⟩ := c.defs (d := dl.dd) (List.mem_map.mpr ⟨dl, hd, rfl⟩)
  have F : FunD K dl.name dl.qual dl.params dl.body dl.scope [] [] (He.fAd K dl.at_) fd := F
  have efa : p.fa K 0 = He.fAd K dl.at_ := by
    unfold PD.fa
    rw [h0]
  have hg : p.M.glob 0 = some d.name := by
    show (p.fnA 0).bind FnD.glob = _
    rw [h0]
    show dl.glob = _
    unfold FnD.glob
    rw [hat]
  have e1 : fa = p.fa K 0 := by
    have z := (Wh.glob 0 d.name hg).1
    rw [hmg] at z
    have z := Option.some.inj z
    cases z
    rfl
  have ob : dl.okB p = true := by
    unfold PD.good at good
    simp only [Bool.and_eq_true] at good
    exact List.all_eq_true.mp good.2 dl hd
  unfold FnD.okB at ob
  simp only [Bool.and_eq_true] at ob
  obtain ⟨⟨b1, b2⟩, b3⟩ := ob
  have ef : p.G.fn 0 = some dl.fn := by
    show (p.fnA 0).map FnD.fn = _
    rw [h0]
    rfl
  refine ⟨K, fd, fun vs H Q E => ∃ n, spD (p.T K) (evQ p.G n old (dp + 1) 0) vs H Q E, KX, fun s u => ?_, fun H a ns hlen hO hS => ?_, fun base _ _ => ?_⟩
  · have b := F.bindsA (ps := dl.ps) (fun kV doc pm an cdv ct us hl => bind_plain b1 kV doc pm an cdv ct us hl) s [u] (by rw [hps]; rfl)
    rw [hps] at b
    exact b
  · rcases hS with hS | hS
    · obtain ⟨n, S', e⟩ := hev ns (.ref 0) [.clst (ns.map D.int)] hlen (.inl ⟨rfl, rfl⟩)
      refine ⟨n, [a], [.clst (ns.map D.int)], [.ref 0], ⟨rfl, List.nodup_cons.mpr ⟨by simp, List.nodup_nil⟩, fun b hb => ?_, fun i o b h1 h2 => ?_⟩, ⟨.ref a, [], rfl, ⟨a, rfl, rfl⟩, rfl⟩, ?_⟩
      · have hb : b = a := by simpa using hb
        subst hb
        rcases hS with hS | ⟨o, hS⟩
        · rw [hS]; simp
        · rw [hS]; simp
      · cases i with
        | zero =>
          have h1 : Ob.clst (ns.map D.int) = o := Option.some.inj h1
          have h2 : a = b := Option.some.inj h2
          subst h1; subst h2
          exact ⟨_, hS, DenL.ints ns⟩
        | succ i => simp at h1
      · rw [e]
        exact fun μ' H' v g s hv => hv
    · obtain ⟨n, S', e⟩ := hev ns (.klst (ns.map D.int)) [] hlen (.inr ⟨rfl, rfl⟩)
      refine ⟨n, [], [], [.klst (ns.map D.int)], ⟨rfl, List.nodup_nil, fun b hb => (nomatch hb), fun i o b h1 h2 => by simp at h1⟩, ⟨.ref a, [], rfl, ⟨a, _, rfl, hS, DenL.ints ns⟩, rfl⟩, ?_⟩
      rw [e]
      exact fun μ' H' v g s hv => hv
  · rw [e1]
    refine FnOk.any fun n => ?_
    have hm : ∀ f, (p.G.fn f).isSome = true → FnAtP l.prog w K mg base (p.T K) dp (p.fa K f) (mkQ p.G n old dp f) := fun f hf => by
      cases dp with
      | zero => exact fn_bad Wh 0 f hf fun _ _ => rfl
      | succ d => exact fn_okQ Wh d f hf
    have F' : FunD K dl.name dl.qual dl.params dl.body dl.scope [] [] (p.fa K 0) fd := by rw [efa]; exact F
    by_cases ho : old 0 = true
    · have ok := fn_body (P := l.prog) (w := w) (base := base) (n := n) Wh dp 0 (fun m _ f hf => fn_ok Wh m f hf) ef F' (fnScopeB_ok b2) rfl rfl b3
      rw [hps] at ok
      refine ok.imp fun vs H Q E h => ?_
      rw [evQ_succ] at h
      simp only [if_pos ho] at h
      exact spD_gc h
    · have ok := fn_bodyC (P := l.prog) (w := w) (base := base) (n := n) (fn := dl.fn) Wh dp (evQ p.G n old dp) (mkQ p.G n old dp) (fun f hf => fn_okQ Wh dp f hf) hm F' (fnScopeB_ok b2) rfl rfl b3
      rw [hps] at ok
      rw [evQ_succ]
      simp only [if_neg ho, ef]
      exact ok
end Pv
end

section
set_option autoImplicit false
set_option linter.all false
set_option maxHeartbeats 4000000
set_option maxRecDepth 100000
/-! Lc: the core text of the program, printed by gen2.py. -/
namespace Lc
open PySem Pv
/-- 1 -/
def c__law_refused : C := (.cons (.asg (.var 2) (.lst .nil)) (.cons (.forr (.var 3) (.range (.cons (.con (.int 2)) .nil)) (.cons (.tryE (.cons (.iff (.cmp .eq (.var 3) (.con (.int 0))) (.cons (.ex (.call 5 (.cons (.var 0) (.cons (.var 1) .nil)))) .nil) (.cons (.ex (.call 3 (.cons (.var 0) (.cons (.var 1) .nil)))) .nil)) (.cons (.ex (.bm (.var 2) .append (.cons (.con (.bl false)) .nil))) .nil)) 2 4 (.alt 1 (.cons (.ex (.bm (.var 2) .append (.cons (.isx 4 1 true) .nil))) .nil) .nil)) .nil)) (.cons (.ret (.cmp .eq (.var 2) (.lst (.cons (.con (.bl true)) (.cons (.con (.bl true)) .nil))))) .nil)))
/-- 2 -/
def c__law_same : C := (.cons (.iff (.isi (.var 1) .tuple) (.cons (.iff (.or (.not (.isi (.var 0) .tuple)) (.cmp .ne (.bi .len (.cons (.var 0) .nil)) (.bi .len (.cons (.var 1) .nil)))) (.cons (.ret (.con (.bl false))) .nil) .nil) (.cons (.ret (.bi .all (.cons (.comp (.call 2 (.cons (.sub (.var 0) (.var 2)) (.cons (.sub (.var 1) (.var 2)) .nil))) (.var 2) (.range (.cons (.bi .len (.cons (.var 1) .nil)) .nil)) .nil [2]) .nil))) .nil)) .nil) (.cons (.iff (.isi (.var 1) .list) (.cons (.iff (.or (.not (.isi (.var 0) .list)) (.cmp .ne (.bi .len (.cons (.var 0) .nil)) (.bi .len (.cons (.var 1) .nil)))) (.cons (.ret (.con (.bl false))) .nil) .nil) (.cons (.ret (.bi .all (.cons (.comp (.call 2 (.cons (.sub (.var 0) (.var 2)) (.cons (.sub (.var 1) (.var 2)) .nil))) (.var 2) (.range (.cons (.bi .len (.cons (.var 1) .nil)) .nil)) .nil [2]) .nil))) .nil)) .nil) (.cons (.iff (.cmp .isN (.var 1) (.con .non)) (.cons (.ret (.cmp .isN (.var 0) (.con .non))) .nil) .nil) (.cons (.iff (.isi (.var 1) .bool) (.cons (.ret (.and (.isi (.var 0) .bool) (.cmp .eq (.var 0) (.var 1)))) .nil) .nil) (.cons (.iff (.isi (.var 1) .int) (.cons (.ret (.and (.isi (.var 0) .int) (.and (.not (.isi (.var 0) .bool)) (.cmp .eq (.var 0) (.var 1))))) .nil) .nil) (.cons (.ret (.and (.isi (.var 0) .str) (.and (.isi (.var 1) .str) (.cmp .eq (.var 0) (.var 1))))) .nil))))))
/-- 3 -/
def c_good_moves : C := (.cons (.ex (.call 14 (.cons (.var 0) (.cons (.var 1) .nil)))) (.cons (.iff (.cmp .eq (.bi .len (.cons (.var 1) .nil)) (.attr (.var 0) 1)) (.cons (.ret (.tup .nil)) .nil) .nil) (.cons (.asg (.var 2) (.sub (.attr (.var 0) 0) (.bi .len (.cons (.var 1) .nil)))) (.cons (.ret (.bi .tuple (.cons (.comp (.var 3) (.var 3) (.walk (.tup (.cons (.con (.bl false)) (.cons (.con (.bl true)) .nil)))) (.cons (.cmp .eq (.call 5 (.cons (.var 0) (.cons (.tup (.star (.var 1) (.cons (.var 3) .nil))) .nil))) (.var 2)) .nil) [3]) .nil))) .nil))))
/-- 4 -/
def c__law_flag : C := (.cons (.ret (.and (.isi (.var 0) .bool) (.cmp .eq (.var 0) (.var 1)))) .nil)
/-- 5 -/
def c_winner_behind : C := (.cons (.ex (.call 14 (.cons (.var 0) (.cons (.var 1) .nil)))) (.cons (.asg (.var 2) (.make 3 .nil)) (.cons (.asg (.var 3) (.sub (.call 15 (.cons (.var 2) (.cons (.var 0) .nil))) (.bi .len (.cons (.var 1) .nil)))) (.cons (.whl (.cmp .gt (.var 3) (.con (.int 1))) (.cons (.asg (.tup (.cons (.var 4) (.cons (.var 5) (.cons (.var 6) .nil)))) (.sub (.attr (.var 2) 2) (.var 3))) (.cons (.asg (.var 3) (.ite (.sub (.var 1) (.var 4)) (.var 6) (.var 5))) .nil))) (.cons (.ret (.cmp .eq (.var 3) (.con (.int 1)))) .nil)))))
/-- 6 -/
def c__law_bits : C := (.cons (.asg (.var 2) (.lst .nil)) (.cons (.forr (.var 3) (.range (.cons (.var 1) .nil)) (.cons (.ex (.bm (.var 2) .append (.cons (.cmp .eq (.bin .mod (.var 0) (.con (.int 2))) (.con (.int 1))) .nil))) (.cons (.asg (.var 0) (.bin .fdiv (.var 0) (.con (.int 2)))) .nil))) (.cons (.ret (.bi .tuple (.cons (.var 2) .nil))) .nil)))
/-- 7 -/
def c_good_begun : C := (.cons (.asg (.var 1) (.make 3 .nil)) (.cons (.asg (.var 2) (.call 15 (.cons (.var 1) (.cons (.var 0) .nil)))) (.cons (.ret (.bi .tuple (.cons (.comp (.call 17 (.cons (.var 1) (.cons (.var 4) (.cons (.var 3) .nil)))) (.tup (.cons (.var 3) (.cons (.var 4) .nil))) (.enum (.var 2)) .nil [3, 4]) .nil))) .nil)))
/-- 8 -/
def c_plays_won : C := (.cons (.asg (.var 1) (.make 3 .nil)) (.cons (.ret (.call 17 (.cons (.var 1) (.cons (.call 18 (.cons (.var 1) (.cons (.var 0) .nil))) (.cons (.attr (.var 0) 1) .nil))))) .nil))
/-- 9 -/
def c__law_layers : C := (.cons (.asg (.var 1) (.lst (.cons (.comp (.call 19 (.cons (.var 0) (.cons (.var 2) .nil))) (.var 2) (.walk (.call 20 (.cons (.bi .len (.cons (.sub (.var 0) (.con (.int 0))) .nil)) .nil))) .nil [2]) .nil))) (.cons (.forr (.var 3) (.revd (.sub (.var 0) (.con (.int 0)))) (.cons (.asg (.var 4) (.sub (.var 1) (.neg (.con (.int 1))))) (.cons (.iff (.var 3) (.cons (.ex (.bm (.var 1) .append (.cons (.comp (.or (.sub (.var 4) (.bin .mul (.con (.int 2)) (.var 5))) (.sub (.var 4) (.bin .add (.bin .mul (.con (.int 2)) (.var 5)) (.con (.int 1))))) (.var 5) (.range (.cons (.bin .fdiv (.bi .len (.cons (.var 4) .nil)) (.con (.int 2))) .nil)) .nil [5]) .nil))) .nil) (.cons (.ex (.bm (.var 1) .append (.cons (.comp (.and (.sub (.var 4) (.bin .mul (.con (.int 2)) (.var 5))) (.sub (.var 4) (.bin .add (.bin .mul (.con (.int 2)) (.var 5)) (.con (.int 1))))) (.var 5) (.range (.cons (.bin .fdiv (.bi .len (.cons (.var 4) .nil)) (.con (.int 2))) .nil)) .nil [5]) .nil))) .nil)) .nil))) (.cons (.ret (.rev (.var 1))) .nil)))
/-- 10 -/
def c__law_row : C := (.cons (.asg (.var 2) (.bi .abs (.cons (.var 0) .nil))) (.cons (.asg (.var 3) (.cmp .ge (.var 2) (.bin .pow (.con (.int 10)) (.con (.int 18))))) (.cons (.asg (.var 4) (.bin .mod (.bi .int (.cons (.var 2) .nil)) (.con (.int 2147483647)))) (.cons (.asg (.var 5) (.lst .nil)) (.cons (.forr (.var 6) (.range (.cons (.bi .len (.cons (.var 1) .nil)) .nil)) (.cons (.asg (.var 4) (.bin .mod (.bi .int (.cons (.bin .add (.bin .add (.bin .mul (.var 4) (.con (.int 48271))) (.bin .mul (.con (.int 29)) (.var 6))) (.con (.int 17))) .nil)) (.con (.int 2147483647)))) (.cons (.asg (.var 4) (.bin .mod (.bi .int (.cons (.bin .add (.bin .add (.bin .mul (.var 4) (.con (.int 69621))) (.bin .mul (.con (.int 13)) (.var 6))) (.con (.int 5))) .nil)) (.con (.int 2147483629)))) (.cons (.iff (.and (.var 3) (.cmp .gt (.var 2) (.con (.int 0)))) (.cons (.ex (.bm (.var 5) .append (.cons (.bin .mod (.bi .int (.cons (.var 2) .nil)) (.sub (.var 1) (.var 6))) .nil))) (.cons (.asg (.var 2) (.bin .fdiv (.var 2) (.sub (.var 1) (.var 6)))) .nil)) (.cons (.ex (.bm (.var 5) .append (.cons (.bin .mod (.bi .int (.cons (.bin .fdiv (.var 4) (.con (.int 7))) .nil)) (.sub (.var 1) (.var 6))) .nil))) .nil)) .nil)))) (.cons (.ret (.var 5)) .nil))))))
/-- 11 -/
def c__law_cell : C := (.cons (.iff (.cmp .lt (.var 1) (.bi .len (.cons (.var 0) .nil))) (.cons (.ret (.sub (.var 0) (.var 1))) .nil) .nil) (.cons (.ret (.con (.int 0))) .nil))
/-- 12 -/
def c_Book___init__ : C := (.cons (.iff (.or (.not (.call 23 (.cons (.var 1) .nil))) (.cmp .gt (.bi .len (.cons (.var 1) .nil)) (.con (.int 40)))) (.cons .never .nil) .nil) (.cons (.iff (.not (.call 22 (.cons (.var 2) (.cons (.bi .len (.cons (.var 1) .nil)) (.cons (.con (.int 400)) .nil))))) (.cons .never .nil) .nil) (.cons (.iff (.not (.call 21 (.cons (.var 3) (.cons (.bin .mul (.con (.int 2)) (.bin .add (.bi .len (.cons (.var 1) .nil)) (.bi .len (.cons (.var 2) .nil)))) .nil)))) (.cons .never .nil) .nil) (.cons (.asg (.attr (.var 0) 0) (.var 1)) (.cons (.asg (.attr (.var 0) 4) (.var 2)) (.cons (.asg (.attr (.var 0) 3) (.var 3)) (.cons (.asg (.attr (.var 0) 1) (.bi .len (.cons (.var 1) .nil))) .nil)))))))
/-- 13 -/
def c__law_book : C := (.cons (.asg (.var 3) (.call 10 (.cons (.var 0) (.cons (.bin .add (.lst (.cons (.bin .add (.var 1) (.con (.int 1))) (.cons (.con (.int 256)) (.cons (.var 2) (.cons (.con (.int 2)) .nil))))) (.bin .mul (.lst (.cons (.con (.int 4)) (.cons (.con (.int 1009)) (.cons (.con (.int 1013)) (.cons (.con (.int 1019)) .nil))))) (.var 2))) .nil)))) (.cons (.asg (.var 4) (.sub (.var 3) (.con (.int 0)))) (.cons (.asg (.var 5) (.lst .nil)) (.cons (.forr (.var 6) (.range (.cons (.bin .add (.con (.int 1)) (.sub (.var 3) (.con (.int 2)))) .nil)) (.cons (.asg (.var 7) (.slice (.var 3) (.cons (.bin .add (.con (.int 4)) (.bin .mul (.con (.int 4)) (.var 6))) .nil) (.cons (.bin .add (.con (.int 8)) (.bin .mul (.con (.int 4)) (.var 6))) .nil))) (.cons (.asg (.var 8) (.bin .mul (.con (.int 2)) (.bin .add (.var 4) (.var 6)))) (.cons (.asg (.var 9) (.tup (.cons (.con (.str "and")) (.cons (.tup .nil) .nil)))) (.cons (.iff (.cmp .gt (.var 8) (.con (.int 0))) (.cons (.asg (.var 9) (.call 24 (.cons (.var 7) (.cons (.var 8) .nil)))) .nil) .nil) (.cons (.ex (.bm (.var 5) .append (.cons (.var 9) .nil))) .nil)))))) (.cons (.ret (.tup (.cons (.call 6 (.cons (.sub (.var 3) (.con (.int 1))) (.cons (.var 4) .nil))) (.cons (.bi .tuple (.cons (.var 5) .nil)) (.cons (.bin .add (.bin .mul (.con (.int 2)) (.bin .sub (.bin .add (.var 4) (.bi .len (.cons (.var 5) .nil))) (.con (.int 1)))) (.sub (.var 3) (.con (.int 3)))) .nil))))) .nil)))))
/-- 14 -/
def c_begun_asked : C := (.cons (.iff (.or (.not (.call 23 (.cons (.var 1) .nil))) (.cmp .gt (.bi .len (.cons (.var 1) .nil)) (.attr (.var 0) 1))) (.cons (.raise 1 .nil) .nil) .nil) .nil)
/-- 15 -/
def c_layers_of : C := (.cons (.asg (.var 2) (.lst (.cons (.call 18 (.cons (.var 0) (.cons (.var 1) .nil))) .nil))) (.cons (.forr (.var 3) (.range (.cons (.bin .sub (.attr (.var 1) 1) (.con (.int 1))) (.cons (.neg (.con (.int 1))) (.cons (.neg (.con (.int 1))) .nil)))) (.cons (.ex (.bm (.var 2) .append (.cons (.call 25 (.cons (.var 0) (.cons (.sub (.var 2) (.neg (.con (.int 1)))) (.cons (.var 3) (.cons (.sub (.attr (.var 1) 0) (.var 3)) .nil))))) .nil))) .nil)) (.cons (.ex (.bm (.var 2) .reverse .nil)) (.cons (.ret (.var 2)) .nil))))
/-- 16 -/
def c_Diagrams___init__ : C := (.cons (.asg (.attr (.var 0) 2) (.lst (.cons (.con .non) (.cons (.con .non) .nil)))) (.cons (.asg (.attr (.var 0) 6) (.dict true .nil)) (.cons (.asg (.attr (.var 0) 5) (.dict true .nil)) .nil)))
/-- 17 -/
def c_counted : C := (.cons (.asg (.var 3) (.dict false (.cons (.con (.int 0)) (.cons (.tup (.cons (.var 2) (.cons (.con (.int 0)) .nil))) (.cons (.con (.int 1)) (.cons (.tup (.cons (.var 2) (.cons (.con (.int 1)) .nil))) .nil)))))) (.cons (.forr (.var 4) (.walk (.bi .sorted (.cons (.meth (.var 0) 7 (.cons (.var 1) .nil)) .nil))) (.cons (.asg (.tup (.cons (.var 5) (.cons (.var 6) (.cons (.var 7) .nil)))) (.sub (.attr (.var 0) 2) (.var 4))) (.cons (.asg (.var 8) (.con (.int 0))) (.cons (.forr (.tup (.cons (.var 9) (.cons (.var 10) .nil))) (.walk (.tup (.cons (.sub (.var 3) (.var 6)) (.cons (.sub (.var 3) (.var 7)) .nil)))) (.cons (.aug 8 .add (.bin .mul (.var 10) (.call 26 (.cons (.bin .sub (.bin .sub (.var 9) (.var 5)) (.con (.int 1))) .nil)))) .nil)) (.cons (.asg (.sub (.var 3) (.var 4)) (.tup (.cons (.var 5) (.cons (.var 8) .nil)))) .nil))))) (.cons (.ret (.bin .mul (.sub (.sub (.var 3) (.var 1)) (.con (.int 1))) (.call 26 (.cons (.sub (.sub (.var 3) (.var 1)) (.con (.int 0))) .nil)))) .nil)))
/-- 18 -/
def c_book_diagram : C := (.cons (.asg (.var 2) (.comp (.meth (.var 0) 8 (.cons (.var 3) .nil)) (.var 3) (.range (.cons (.attr (.var 1) 1) .nil)) .nil [3])) (.cons (.forr (.var 4) (.walk (.attr (.var 1) 4)) (.cons (.ex (.bm (.var 2) .append (.cons (.call 29 (.cons (.var 0) (.cons (.var 4) (.cons (.comp (.call 28 (.cons (.var 0) (.cons (.var 2) (.cons (.var 5) .nil)))) (.var 5) (.walk (.call 30 (.cons (.var 4) .nil))) .nil [5]) .nil)))) .nil))) .nil)) (.cons (.ret (.call 28 (.cons (.var 0) (.cons (.var 2) (.cons (.attr (.var 1) 3) .nil))))) .nil)))
/-- 19 -/
def c__law_won : C := (.cons (.ret (.call 32 (.cons (.call 33 (.cons (.sub (.var 0) (.con (.int 1))) (.cons (.var 1) .nil))) (.cons (.sub (.var 0) (.con (.int 2))) .nil)))) .nil)
/-- 20 -/
def c__law_plays : C := (.cons (.asg (.var 1) (.lst (.cons (.tup .nil) .nil))) (.cons (.forr (.var 2) (.range (.cons (.var 0) .nil)) (.cons (.asg (.var 3) (.lst .nil)) (.cons (.forr (.var 4) (.walk (.var 1)) (.cons (.asg (.var 3) (.bin .add (.var 3) (.lst (.cons (.bin .add (.var 4) (.tup (.cons (.con (.bl false)) .nil))) (.cons (.bin .add (.var 4) (.tup (.cons (.con (.bl true)) .nil))) .nil))))) .nil)) (.cons (.asg (.var 1) (.var 3)) .nil)))) (.cons (.ret (.var 1)) .nil)))
/-- 21 -/
def c_is_below : C := (.cons (.ret (.and (.call 34 (.cons (.var 0) .nil)) (.chain .le .lt (.con (.int 0)) (.var 0) (.var 1)))) .nil)
/-- 22 -/
def c_are_gates : C := (.cons (.iff (.or (.not (.isi (.var 0) .tuple)) (.cmp .gt (.bi .len (.cons (.var 0) .nil)) (.var 2))) (.cons (.ret (.con (.bl false))) .nil) .nil) (.cons (.ret (.bi .all (.cons (.comp (.call 35 (.cons (.var 4) (.cons (.bin .mul (.con (.int 2)) (.bin .add (.var 1) (.var 3))) .nil))) (.tup (.cons (.var 3) (.cons (.var 4) .nil))) (.enum (.var 0)) .nil [3, 4]) .nil))) .nil))
/-- 23 -/
def c_are_flags : C := (.cons (.ret (.and (.isi (.var 0) .tuple) (.bi .all (.cons (.comp (.isi (.var 1) .bool) (.var 1) (.walk (.var 0)) .nil [1]) .nil)))) .nil)
/-- 24 -/
def c__law_gate : C := (.cons (.asg (.var 2) (.comp (.bin .mod (.var 3) (.var 1)) (.var 3) (.walk (.slice (.var 0) (.cons (.con (.int 1)) .nil) .nil)) .nil [3])) (.cons (.iff (.cmp .eq (.sub (.var 0) (.con (.int 0))) (.con (.int 0))) (.cons (.ret (.tup (.cons (.con (.str "and")) (.cons (.bi .tuple (.cons (.slice (.var 2) .nil (.cons (.bin .add (.con (.int 2)) (.bin .mod (.bin .fdiv (.sub (.var 0) (.con (.int 1))) (.con (.int 7))) (.con (.int 2)))) .nil)) .nil)) .nil)))) .nil) .nil) (.cons (.iff (.cmp .eq (.sub (.var 0) (.con (.int 0))) (.con (.int 1))) (.cons (.ret (.tup (.cons (.con (.str "or")) (.cons (.bi .tuple (.cons (.slice (.var 2) .nil (.cons (.bin .add (.con (.int 2)) (.bin .mod (.bin .fdiv (.sub (.var 0) (.con (.int 1))) (.con (.int 7))) (.con (.int 2)))) .nil)) .nil)) .nil)))) .nil) .nil) (.cons (.iff (.cmp .eq (.sub (.var 0) (.con (.int 0))) (.con (.int 2))) (.cons (.ret (.tup (.cons (.con (.str "xor")) (.cons (.sub (.var 2) (.con (.int 0))) (.cons (.sub (.var 2) (.con (.int 1))) .nil))))) .nil) .nil) (.cons (.ret (.tup (.cons (.con (.str "if")) (.cons (.sub (.var 2) (.con (.int 0))) (.cons (.sub (.var 2) (.con (.int 1))) (.cons (.sub (.var 2) (.con (.int 2))) .nil)))))) .nil)))))
/-- 25 -/
def c_without_last : C := (.cons (.par 4 5 (.meth (.var 0) 10 (.cons (.var 1) (.cons (.var 2) (.cons (.con (.bl false)) .nil)))) (.meth (.var 0) 10 (.cons (.var 1) (.cons (.var 2) (.cons (.con (.bl true)) .nil))))) (.cons (.ret (.ite (.var 3) (.meth (.var 0) 9 (.cons (.var 4) (.cons (.con (.int 1)) (.cons (.var 5) .nil)))) (.meth (.var 0) 9 (.cons (.var 4) (.cons (.var 5) (.cons (.con (.int 0)) .nil)))))) .nil))
/-- 26 -/
def c_shifted : C := (.cons (.ret (.bin .shl (.con (.int 1)) (.var 0))) .nil)
/-- 27 -/
def c_Diagrams_within : C := (.cons (.asg (.var 2) (.dict false .nil)) (.cons (.asg (.var 3) (.lst (.cons (.var 1) .nil))) (.cons (.whl (.var 3) (.cons (.asg (.var 4) (.bm (.var 3) .pop .nil)) (.cons (.iff (.and (.cmp .gt (.var 4) (.con (.int 1))) (.cmp .notin (.var 4) (.var 2))) (.cons (.asg (.sub (.var 2) (.var 4)) (.con (.bl true))) (.cons (.ex (.bm (.var 3) .extend (.cons (.slice (.sub (.attr (.var 0) 2) (.var 4)) (.cons (.con (.int 1)) .nil) .nil) .nil))) .nil)) .nil) .nil))) (.cons (.ret (.bi .list (.cons (.var 2) .nil))) .nil))))
/-- 28 -/
def c_ref_diagram : C := (.cons (.ret (.ite (.cmp .eq (.bin .mod (.var 2) (.con (.int 2))) (.con (.int 1))) (.meth (.var 0) 11 (.cons (.sub (.var 1) (.bin .fdiv (.var 2) (.con (.int 2)))) .nil)) (.sub (.var 1) (.bin .fdiv (.var 2) (.con (.int 2)))))) .nil)
/-- 29 -/
def c_gate_diagram : C := (.cons (.iff (.cmp .eq (.sub (.var 1) (.con (.int 0))) (.con (.str "and"))) (.cons (.ret (.meth (.var 0) 12 (.cons (.var 2) .nil))) .nil) .nil) (.cons (.iff (.cmp .eq (.sub (.var 1) (.con (.int 0))) (.con (.str "or"))) (.cons (.ret (.meth (.var 0) 11 (.cons (.meth (.var 0) 12 (.cons (.comp (.meth (.var 0) 11 (.cons (.var 3) .nil)) (.var 3) (.walk (.var 2)) .nil [3]) .nil)) .nil))) .nil) .nil) (.cons (.iff (.cmp .eq (.sub (.var 1) (.con (.int 0))) (.con (.str "xor"))) (.cons (.ret (.meth (.var 0) 9 (.cons (.sub (.var 2) (.con (.int 0))) (.cons (.meth (.var 0) 11 (.cons (.sub (.var 2) (.con (.int 1))) .nil)) (.cons (.sub (.var 2) (.con (.int 1))) .nil))))) .nil) .nil) (.cons (.ret (.meth (.var 0) 9 (.cons (.sub (.var 2) (.con (.int 0))) (.cons (.sub (.var 2) (.con (.int 1))) (.cons (.sub (.var 2) (.con (.int 2))) .nil))))) .nil))))
/-- 30 -/
def c_refs_of : C := (.cons (.ret (.ite (.cmp .isin (.sub (.var 0) (.con (.int 0))) (.tup (.cons (.con (.str "and")) (.cons (.con (.str "or")) .nil)))) (.sub (.var 0) (.con (.int 1))) (.slice (.var 0) (.cons (.con (.int 1)) .nil) .nil))) .nil)
/-- 31 -/
def c_Diagrams_flag : C := (.cons (.ret (.meth (.var 0) 13 (.cons (.var 1) (.cons (.con (.int 0)) (.cons (.con (.int 1)) .nil))))) .nil)
/-- 32 -/
def c__law_ref : C := (.cons (.asg (.var 2) (.sub (.var 0) (.bin .fdiv (.var 1) (.con (.int 2))))) (.cons (.iff (.cmp .isN (.var 2) (.con .non)) (.cons (.ret (.con .non)) .nil) .nil) (.cons (.ret (.cmp .ne (.var 2) (.cmp .eq (.bin .mod (.var 1) (.con (.int 2))) (.con (.int 1))))) .nil)))
/-- 33 -/
def c__law_reckoned : C := (.cons (.asg (.var 2) (.bi .list (.cons (.var 1) .nil))) (.cons (.forr (.var 3) (.walk (.var 0)) (.cons (.ex (.bm (.var 2) .append (.cons (.call 41 (.cons (.var 3) (.cons (.var 2) .nil))) .nil))) .nil)) (.cons (.ret (.var 2)) .nil)))
/-- 34 -/
def c_is_whole : C := (.cons (.ret (.and (.isi (.var 0) .int) (.not (.isi (.var 0) .bool)))) .nil)
/-- 35 -/
def c_is_gate : C := (.cons (.iff (.or (.call 42 (.cons (.var 0) (.cons (.con (.str "and")) (.cons (.con (.int 2)) .nil)))) (.call 42 (.cons (.var 0) (.cons (.con (.str "or")) (.cons (.con (.int 2)) .nil))))) (.cons (.ret (.call 43 (.cons (.sub (.var 0) (.con (.int 1))) (.cons (.var 1) .nil)))) .nil) .nil) (.cons (.iff (.or (.call 42 (.cons (.var 0) (.cons (.con (.str "xor")) (.cons (.con (.int 3)) .nil)))) (.call 42 (.cons (.var 0) (.cons (.con (.str "if")) (.cons (.con (.int 4)) .nil))))) (.cons (.ret (.call 43 (.cons (.slice (.var 0) (.cons (.con (.int 1)) .nil) .nil) (.cons (.var 1) .nil)))) .nil) .nil) (.cons (.ret (.con (.bl false))) .nil)))
/-- 36 -/
def c_Diagrams_chosen : C := (.cons (.asg (.var 4) (.lst (.cons (.tup (.cons (.var 1) (.cons (.var 2) (.cons (.var 3) .nil)))) .nil))) (.cons (.whl (.var 4) (.cons (.asg (.var 5) (.sub (.var 4) (.neg (.con (.int 1))))) (.cons (.asg (.var 6) (.methS (.var 0) 17 5)) (.cons (.iff (.and (.cmp .isN (.var 6) (.con .non)) (.cmp .notin (.var 5) (.attr (.var 0) 5))) (.cons (.asg (.var 7) (.meth (.var 0) 16 (.cons (.var 5) .nil))) (.cons (.asg (.var 8) (.bi .tuple (.cons (.comp (.sub (.meth (.var 0) 15 (.cons (.var 9) (.cons (.var 7) .nil))) (.con (.int 0))) (.var 9) (.walk (.var 5)) .nil [9]) .nil))) (.cons (.asg (.var 10) (.bi .tuple (.cons (.comp (.sub (.meth (.var 0) 15 (.cons (.var 9) (.cons (.var 7) .nil))) (.con (.int 1))) (.var 9) (.walk (.var 5)) .nil [9]) .nil))) (.cons (.asg (.var 11) (.comp (.var 12) (.var 12) (.walk (.tup (.cons (.var 8) (.cons (.var 10) .nil)))) (.cons (.cmp .isN (.meth (.var 0) 14 (.cons (.var 12) .nil)) (.con .non)) .nil) [12])) (.cons (.iff (.var 11) (.cons (.ex (.bm (.var 4) .extend (.cons (.var 11) .nil))) (.cons .cont .nil)) .nil) (.cons (.asg (.sub (.attr (.var 0) 5) (.var 5)) (.meth (.var 0) 13 (.cons (.var 7) (.cons (.meth (.var 0) 14 (.cons (.var 8) .nil)) (.cons (.meth (.var 0) 14 (.cons (.var 10) .nil)) .nil))))) .nil)))))) .nil) (.cons (.ex (.bm (.var 4) .pop .nil)) .nil))))) (.cons (.ret (.meth (.var 0) 14 (.cons (.tup (.cons (.var 1) (.cons (.var 2) (.cons (.var 3) .nil)))) .nil))) .nil)))
/-- 37 -/
def c_Diagrams_with_value : C := (.cons (.asg (.var 4) (.dict false (.cons (.con (.int 0)) (.cons (.con (.int 0)) (.cons (.con (.int 1)) (.cons (.con (.int 1)) .nil)))))) (.cons (.forr (.var 5) (.walk (.bi .sorted (.cons (.meth (.var 0) 7 (.cons (.var 1) .nil)) .nil))) (.cons (.asg (.tup (.cons (.var 6) (.cons (.var 7) (.cons (.var 8) .nil)))) (.sub (.attr (.var 0) 2) (.var 5))) (.cons (.iff (.cmp .eq (.var 6) (.var 2)) (.cons (.asg (.sub (.var 4) (.var 5)) (.ite (.var 3) (.var 8) (.var 7))) .nil) (.cons (.asg (.sub (.var 4) (.var 5)) (.meth (.var 0) 13 (.cons (.var 6) (.cons (.sub (.var 4) (.var 7)) (.cons (.sub (.var 4) (.var 8)) .nil))))) .nil)) .nil))) (.cons (.ret (.sub (.var 4) (.var 1))) .nil)))
/-- 38 -/
def c_Diagrams_turned : C := (.cons (.ret (.meth (.var 0) 9 (.cons (.var 1) (.cons (.con (.int 0)) (.cons (.con (.int 1)) .nil))))) .nil)
/-- 39 -/
def c_Diagrams_every : C := (.cons (.asg (.var 2) (.con (.int 1))) (.cons (.forr (.var 3) (.walk (.var 1)) (.cons (.asg (.var 2) (.meth (.var 0) 9 (.cons (.var 2) (.cons (.var 3) (.cons (.con (.int 0)) .nil))))) .nil)) (.cons (.ret (.var 2)) .nil)))
/-- 40 -/
def c_Diagrams_put : C := (.cons (.iff (.cmp .eq (.var 2) (.var 3)) (.cons (.ret (.var 2)) .nil) .nil) (.cons (.iff (.cmp .notin (.tup (.cons (.var 1) (.cons (.var 2) (.cons (.var 3) .nil)))) (.attr (.var 0) 6)) (.cons (.iff (.cmp .ge (.bi .len (.cons (.attr (.var 0) 2) .nil)) (.con (.int 200000))) (.cons .never .nil) .nil) (.cons (.asg (.sub (.attr (.var 0) 6) (.tup (.cons (.var 1) (.cons (.var 2) (.cons (.var 3) .nil))))) (.bi .len (.cons (.attr (.var 0) 2) .nil))) (.cons (.ex (.bm (.attr (.var 0) 2) .append (.cons (.tup (.cons (.var 1) (.cons (.var 2) (.cons (.var 3) .nil)))) .nil))) .nil))) .nil) (.cons (.ret (.sub (.attr (.var 0) 6) (.tup (.cons (.var 1) (.cons (.var 2) (.cons (.var 3) .nil)))))) .nil)))
/-- 41 -/
def c__law_gate_value : C := (.cons (.iff (.cmp .eq (.sub (.var 0) (.con (.int 0))) (.con (.str "and"))) (.cons (.ret (.call 49 (.cons (.comp (.call 32 (.cons (.var 1) (.cons (.var 2) .nil))) (.var 2) (.walk (.sub (.var 0) (.con (.int 1)))) .nil [2]) .nil))) .nil) .nil) (.cons (.iff (.cmp .eq (.sub (.var 0) (.con (.int 0))) (.con (.str "or"))) (.cons (.ret (.call 48 (.cons (.call 49 (.cons (.comp (.call 32 (.cons (.var 1) (.cons (.bin .sub (.bin .add (.var 2) (.con (.int 1))) (.bin .mul (.con (.int 2)) (.bin .mod (.var 2) (.con (.int 2))))) .nil))) (.var 2) (.walk (.sub (.var 0) (.con (.int 1)))) .nil [2]) .nil)) .nil))) .nil) .nil) (.cons (.iff (.cmp .eq (.sub (.var 0) (.con (.int 0))) (.con (.str "xor"))) (.cons (.asg (.var 3) (.lst (.cons (.call 32 (.cons (.var 1) (.cons (.sub (.var 0) (.con (.int 1))) .nil))) (.cons (.call 32 (.cons (.var 1) (.cons (.sub (.var 0) (.con (.int 2))) .nil))) .nil)))) (.cons (.iff (.cmp .isin (.con .non) (.var 3)) (.cons (.ret (.con .non)) .nil) .nil) (.cons (.ret (.cmp .ne (.sub (.var 3) (.con (.int 0))) (.sub (.var 3) (.con (.int 1))))) .nil))) .nil) (.cons (.asg (.tup (.cons (.var 4) (.cons (.var 5) (.cons (.var 6) .nil)))) (.comp (.call 32 (.cons (.var 1) (.cons (.var 2) .nil))) (.var 2) (.walk (.slice (.var 0) (.cons (.con (.int 1)) .nil) .nil)) .nil [2])) (.cons (.iff (.cmp .isN (.var 4) (.con .non)) (.cons (.iff (.cmp .eq (.var 5) (.var 6)) (.cons (.ret (.var 5)) .nil) .nil) (.cons (.ret (.con .non)) .nil)) .nil) (.cons (.iff (.var 4) (.cons (.ret (.var 5)) .nil) .nil) (.cons (.ret (.var 6)) .nil)))))))
/-- 42 -/
def c_is_told : C := (.cons (.ret (.and (.isi (.var 0) .tuple) (.and (.cmp .eq (.bi .len (.cons (.var 0) .nil)) (.var 2)) (.and (.isi (.sub (.var 0) (.con (.int 0))) .str) (.cmp .eq (.sub (.var 0) (.con (.int 0))) (.var 1)))))) .nil)
/-- 43 -/
def c_are_below : C := (.cons (.ret (.and (.isi (.var 0) .tuple) (.bi .all (.cons (.comp (.call 21 (.cons (.var 2) (.cons (.var 1) .nil))) (.var 2) (.walk (.var 0)) .nil [2]) .nil)))) .nil)
/-- 44 -/
def c_Diagrams_known_choice : C := (.cons (.asg (.var 2) (.methS (.var 0) 17 1)) (.cons (.ret (.ite (.cmp .isN (.var 2) (.con .non)) (.bm (.attr (.var 0) 5) .get (.cons (.var 1) .nil)) (.var 2))) .nil))
/-- 45 -/
def c_Diagrams_parts : C := (.cons (.iff (.or (.cmp .lt (.var 1) (.con (.int 2))) (.cmp .ne (.sub (.sub (.attr (.var 0) 2) (.var 1)) (.con (.int 0))) (.var 2))) (.cons (.ret (.tup (.cons (.var 1) (.cons (.var 1) .nil)))) .nil) .nil) (.cons (.ret (.slice (.sub (.attr (.var 0) 2) (.var 1)) (.cons (.con (.int 1)) .nil) .nil)) .nil))
/-- 46 -/
def c_Diagrams_first_flag : C := (.cons (.ret (.bi .min (.cons (.comp (.sub (.sub (.attr (.var 0) 2) (.var 2)) (.con (.int 0))) (.var 2) (.walk (.var 1)) (.cons (.cmp .gt (.var 2) (.con (.int 1))) .nil) [2]) .nil))) .nil)
/-- 47 -/
def c_Diagrams_settled : C := (.cons (.iff (.cmp .lt (.var 1) (.con (.int 2))) (.cons (.ret (.ite (.cmp .eq (.var 1) (.con (.int 1))) (.var 2) (.var 3))) .nil) .nil) (.cons (.iff (.cmp .eq (.var 2) (.var 3)) (.cons (.ret (.var 2)) .nil) .nil) (.cons (.ret (.ite (.cmp .eq (.tup (.cons (.var 2) (.cons (.var 3) .nil))) (.tup (.cons (.con (.int 1)) (.cons (.con (.int 0)) .nil)))) (.var 1) (.con .non))) .nil)))
/-- 48 -/
def c__law_not : C := (.cons (.iff (.cmp .isN (.var 0) (.con .non)) (.cons (.ret (.con .non)) .nil) .nil) (.cons (.ret (.not (.var 0))) .nil))
/-- 49 -/
def c__law_and : C := (.cons (.iff (.cmp .isin (.con (.bl false)) (.var 0)) (.cons (.ret (.con (.bl false))) .nil) .nil) (.cons (.iff (.cmp .isin (.con .non) (.var 0)) (.cons (.ret (.con .non)) .nil) .nil) (.cons (.ret (.con (.bl true))) .nil)))
/-- the function of a number -/
def fn : Nat → Option Fn
  | 1 => some ⟨2, 5, c__law_refused⟩
  | 2 => some ⟨2, 3, c__law_same⟩
  | 3 => some ⟨2, 4, c_good_moves⟩
  | 4 => some ⟨2, 2, c__law_flag⟩
  | 5 => some ⟨2, 7, c_winner_behind⟩
  | 6 => some ⟨2, 4, c__law_bits⟩
  | 7 => some ⟨1, 5, c_good_begun⟩
  | 8 => some ⟨1, 2, c_plays_won⟩
  | 9 => some ⟨1, 6, c__law_layers⟩
  | 10 => some ⟨2, 7, c__law_row⟩
  | 11 => some ⟨2, 2, c__law_cell⟩
  | 12 => some ⟨4, 4, c_Book___init__⟩
  | 13 => some ⟨3, 10, c__law_book⟩
  | 14 => some ⟨2, 2, c_begun_asked⟩
  | 15 => some ⟨2, 4, c_layers_of⟩
  | 16 => some ⟨1, 1, c_Diagrams___init__⟩
  | 17 => some ⟨3, 11, c_counted⟩
  | 18 => some ⟨2, 6, c_book_diagram⟩
  | 19 => some ⟨2, 2, c__law_won⟩
  | 20 => some ⟨1, 5, c__law_plays⟩
  | 21 => some ⟨2, 2, c_is_below⟩
  | 22 => some ⟨3, 5, c_are_gates⟩
  | 23 => some ⟨1, 2, c_are_flags⟩
  | 24 => some ⟨2, 4, c__law_gate⟩
  | 25 => some ⟨4, 6, c_without_last⟩
  | 26 => some ⟨1, 1, c_shifted⟩
  | 27 => some ⟨2, 5, c_Diagrams_within⟩
  | 28 => some ⟨3, 3, c_ref_diagram⟩
  | 29 => some ⟨3, 4, c_gate_diagram⟩
  | 30 => some ⟨1, 1, c_refs_of⟩
  | 31 => some ⟨2, 2, c_Diagrams_flag⟩
  | 32 => some ⟨2, 3, c__law_ref⟩
  | 33 => some ⟨2, 4, c__law_reckoned⟩
  | 34 => some ⟨1, 1, c_is_whole⟩
  | 35 => some ⟨2, 2, c_is_gate⟩
  | 36 => some ⟨4, 13, c_Diagrams_chosen⟩
  | 37 => some ⟨4, 9, c_Diagrams_with_value⟩
  | 38 => some ⟨2, 2, c_Diagrams_turned⟩
  | 39 => some ⟨2, 4, c_Diagrams_every⟩
  | 40 => some ⟨4, 4, c_Diagrams_put⟩
  | 41 => some ⟨2, 7, c__law_gate_value⟩
  | 42 => some ⟨3, 3, c_is_told⟩
  | 43 => some ⟨2, 3, c_are_below⟩
  | 44 => some ⟨2, 3, c_Diagrams_known_choice⟩
  | 45 => some ⟨3, 3, c_Diagrams_parts⟩
  | 46 => some ⟨2, 3, c_Diagrams_first_flag⟩
  | 47 => some ⟨4, 4, c_Diagrams_settled⟩
  | 48 => some ⟨1, 1, c__law_not⟩
  | 49 => some ⟨1, 1, c__law_and⟩
  | _ => none
end Lc
end

section
set_option autoImplicit false
set_option linter.all false
/-! Lg: programs that hold parts of the library. -/
namespace Lc
open Pv
/-- checks, books, diagrams -/
def dFns : List Nat := [8, 12, 15, 16, 17, 18, 21, 22, 23, 25, 26, 27, 28, 29, 30, 31, 34, 35, 36, 37, 38, 39, 40, 42, 43, 44, 45, 46, 47]
def dMeths : List (Nat × Nat × Nat) := [(3, 7, 27), (3, 8, 31), (3, 9, 36), (3, 10, 37), (3, 11, 38), (3, 12, 39), (3, 13, 40), (3, 14, 44), (3, 15, 45), (3, 16, 46), (3, 17, 47)]
def dFlds : List (Nat × Nat) := [(0, 0), (0, 4), (0, 3), (0, 1), (3, 2), (3, 6), (3, 5)]
def dInits : List (Nat × Nat) := [(0, 12), (3, 16)]
class LibD (G : Prog) : Prop where
  fn : ∀ f ∈ dFns, G.fn f = Lc.fn f
  meth : ∀ q ∈ dMeths, G.meth q.1 q.2.1 = some q.2.2
  flds : ∀ q ∈ dFlds, G.flds q.1 q.2 = true
  init : ∀ q ∈ dInits, G.init q.1 = some q.2
/-- what the laws share -/
def wFns : List Nat := [2, 4, 6, 9, 10, 11, 13, 19, 20, 24, 32, 33, 41, 48, 49]
class LibW (G : Prog) : Prop where
  fn : ∀ f ∈ wFns, G.fn f = Lc.fn f
end Lc
namespace Lc
/-- what is taken as evC takes it -/
def oldF (f : Nat) : Bool := [21, 26, 28, 29, 30, 31, 34, 36, 38, 39, 40, 43, 44, 45, 46, 47].contains f
end Lc
end

section
set_option autoImplicit false
set_option linter.all false
set_option maxHeartbeats 1000000
/-! Pw2: plain lemmas about the forgetful evaluator. -/
namespace Pv
open PySem (Str)
section
variable {G : Prog} {w : Nat} {old : Nat → Bool} {d f : Nat} {fn : Fn} {ds : List D} {S S' l : Sto}
theorem evQ_open (ho : old f = false) (e : G.fn f = some fn) (h : ds.length = fn.params) : evQ G w old (d + 1) f ds S = gc S (evB G w (evQ G w old d) (mkQ G w old d) fn.body (startD fn.slots ds) S).out := by
  show (if old f = true then gc S (evC G w (d + 1) f ds S) else match G.fn f with
    | some fn => if ds.length = fn.params then gc S (evB G w (evQP G w old d).1 (evQP G w old d).2 fn.body (startD fn.slots ds) S).out else .bad
    | none => .bad) = _
  rw [ho, if_neg (by decide), e]
  simp only [if_pos h]
  rfl
theorem evQ_old (ho : old f = true) : evQ G w old (d + 1) f ds S = gc S (evC G w (d + 1) f ds S) := by
  show (if old f = true then gc S (evC G w (d + 1) f ds S) else match G.fn f with
    | some fn => if ds.length = fn.params then gc S (evB G w (evQP G w old d).1 (evQP G w old d).2 fn.body (startD fn.slots ds) S).out else .bad
    | none => .bad) = _
  rw [ho, if_pos rfl]
theorem mkQ_open : mkQ G w old (d + 1) = evQ G w old d := rfl
@[simp] theorem newD_non (n : Nat) : newD n .non = [] := rfl
@[simp] theorem newD_bl (n : Nat) (b : Bool) : newD n (.bl b) = [] := rfl
@[simp] theorem newD_int (n : Nat) (b : Int) : newD n (.int b) = [] := rfl
@[simp] theorem newD_str (n : Nat) (b : Str) : newD n (.str b) = [] := rfl
@[simp] theorem newD_tup (n : Nat) (b : List D) : newD n (.tup b) = newL n b := rfl
@[simp] theorem newD_ktup (n : Nat) (b : List D) : newD n (.ktup b) = newL n b := rfl
@[simp] theorem newD_klst (n : Nat) (b : List D) : newD n (.klst b) = newL n b := rfl
theorem newD_ref (n k : Nat) : newD n (.ref k) = if k < n then [] else [k] := rfl
@[simp] theorem newL_nil (n : Nat) : newL n [] = [] := rfl
@[simp] theorem newL_cons (n : Nat) (x : D) (r : List D) : newL n (x :: r) = newD n x ++ newL n r := rfl
@[simp] theorem newL_append (n : Nat) : ∀ a b : List D, newL n (a ++ b) = newL n a ++ newL n b
  | [], b => rfl
  | x :: a, b => by rw [List.cons_append, newL_cons, newL_cons, newL_append n a b, List.append_assoc]
theorem newL_all {n : Nat} : ∀ {xs : List D}, (∀ x ∈ xs, newD n x = []) → newL n xs = []
  | [], _ => rfl
  | x :: r, h => by rw [newL_cons, h x List.mem_cons_self, newL_all fun y hy => h y (List.mem_cons_of_mem _ hy)]; rfl
theorem newL_map {α : Type} {n : Nat} {g : α → D} (h : ∀ x, newD n (g x) = []) (xs : List α) : newL n (xs.map g) = [] := newL_all fun x hx => by
  obtain ⟨y, _, rfl⟩ := List.mem_map.mp hx
  exact h y
@[simp] theorem newL_ints (n : Nat) (xs : List Int) : newL n (xs.map D.int) = [] := newL_map (fun _ => rfl) xs
@[simp] theorem newL_nats (n : Nat) (xs : List Nat) : newL n (xs.map fun i => D.int (i : Nat)) = [] := newL_map (fun _ => rfl) xs
@[simp] theorem newL_bls (n : Nat) (xs : List Bool) : newL n (xs.map D.bl) = [] := newL_map (fun _ => rfl) xs
@[simp] theorem newO_lst (n : Nat) (xs : List D) : newO n (.lst xs) = newL n xs := rfl
@[simp] theorem newO_dK (n : Nat) (xs : List (L2.Key × D)) : newO n (.dK xs) = newL n (xs.map (·.2)) := rfl
@[simp] theorem newO_dT (n : Nat) (xs : List (List L2.Key × D)) : newO n (.dT xs) = newL n (xs.map (·.2)) := rfl
@[simp] theorem newO_ins (n c : Nat) (xs : List (Nat × D)) : newO n (.ins c xs) = newL n (xs.map (·.2)) := rfl
theorem OldOk.app : OldOk S (S ++ l) := ⟨by simp, fun i hi => .inl (List.getElem?_append_left hi)⟩
theorem reach_nil (n f : Nat) : reach S n f [] = [] := by cases f <;> rfl
theorem gc_pos {x : D} {ρ : List Nat} (e : reach S' S.length 5 (newD S.length x) = ρ) (c : GcOk S S' x ρ) : gc S (.ok x S') = .ok (renD S.length ρ x) (gcS S.length S' ρ) := by
  subst e
  unfold gc
  simp only [if_pos c]
theorem gc_chg {x : D} (h : newD S.length x = []) (o : OldOk S S') : gc S (.ok x S') = .ok x (S'.take S.length) := by
  have e : reach S' S.length 5 (newD S.length x) = [] := by rw [h]; rfl
  rw [gc_pos e ⟨o, List.nodup_nil, fun k hk => by (rw [h] at hk; cases hk), fun k hk => nomatch hk⟩, renD_same h]
  unfold gcS
  simp
theorem gc_app {x : D} (h : newD S.length x = []) : gc S (.ok x (S ++ l)) = .ok x S := by
  rw [gc_chg h OldOk.app]
  simp
theorem gc_same {x : D} (h : newD S.length x = []) : gc S (.ok x S) = .ok x S := by
  have := gc_app (l := []) h
  simpa using this
theorem gc_ref {k : Nat} {o : Ob} (hk : S'[k]? = some o) (h1 : S.length ≤ k) (h : newO S.length o = []) (ok : OldOk S S') : gc S (.ok (.ref k) S') = .ok (.ref S.length) (S'.take S.length ++ [o]) := by
  have e0 : newD S.length (.ref k) = [k] := by rw [newD_ref, if_neg (by omega)]
  have e : reach S' S.length 5 (newD S.length (.ref k)) = [k] := by
    rw [e0]
    show [k] ++ reach S' S.length 4 ((newO S.length ((S'[k]?).getD .dead)) ++ []) = [k]
    rw [hk]
    show [k] ++ reach S' S.length 4 (newO S.length o ++ []) = [k]
    rw [h]; rfl
  rw [gc_pos e ⟨ok, by simp, fun j hj => by (rw [e0] at hj; exact hj), fun j hj => ?_⟩]
  · unfold gcS renD
    rw [if_neg (by omega)]
    simp [hk, renO_same h]
  · have hj : j = k := by simpa using hj
    subst hj
    refine ⟨h1, (List.getElem?_eq_some_iff.mp hk).1, fun i hi => ?_⟩
    rw [hk] at hi
    have hi : i ∈ newO S.length o := hi
    rw [h] at hi; cases hi
theorem gc_refA {j : Nat} {o : Ob} (hk : l[j]? = some o) (h : newO S.length o = []) : gc S (.ok (.ref (S.length + j)) (S ++ l)) = .ok (.ref S.length) (S ++ [o]) := by
  rw [gc_ref (o := o) (by rw [List.getElem?_append_right (by omega), Nat.add_sub_cancel_left]; exact hk) (by omega) h OldOk.app]
  simp
theorem gc_ref0 {o : Ob} (h : newO S.length o = []) : gc S (.ok (.ref S.length) (S ++ o :: l)) = .ok (.ref S.length) (S ++ [o]) := by
  have := gc_refA (S := S) (l := o :: l) (j := 0) (o := o) rfl h
  simpa using this
theorem gc_exc {c : Nat} (o : OldOk S S') : gc S (.exc ⟨c, []⟩ S') = .exc ⟨c, []⟩ (S'.take S.length) := by
  unfold gc
  simp only
  rw [if_pos ⟨o, rfl⟩]
theorem gc_excA {c : Nat} : gc S (.exc ⟨c, []⟩ (S ++ l)) = .exc ⟨c, []⟩ S := by
  rw [gc_exc OldOk.app]; simp
theorem gc_bad : gc S .bad = .bad := rfl
/-! ### the store's end -/
theorem app_old {i : Nat} {o : Ob} (h : S[i]? = some o) : (S ++ l)[i]? = some o := by
  rw [List.getElem?_append_left (List.getElem?_eq_some_iff.mp h).1]; exact h
@[simp] theorem app_at0 (o : Ob) : (S ++ o :: l)[S.length]? = some o := by simp
@[simp] theorem app_at (k : Nat) : (S ++ l)[S.length + k]? = l[k]? := by
  rw [List.getElem?_append_right (by omega), Nat.add_sub_cancel_left]
@[simp] theorem app_set0 (o o' : Ob) : (S ++ o :: l).set S.length o' = S ++ o' :: l := by simp [List.set_append]
@[simp] theorem app_set (k : Nat) (o' : Ob) : (S ++ l).set (S.length + k) o' = S ++ l.set k o' := by
  rw [List.set_append_right (h := by omega), Nat.add_sub_cancel_left]
/-! ### comprehensions whose turns leave all as it is -/
theorem comp_pureS {src : IS} {n : Nat} {xs : List D} {turn : D → Sto → R (Option D)} (g : D → Option D) (hsrc : ∀ i o, src.at i (S ++ [o]) = some xs[i]?) (hl : xs.length < 16000000) (ht : ∀ x ∈ xs, ∀ o, turn x (S ++ [o]) = .ok (g x) (S ++ [o])) :
    ∀ (k i : Nat) (acc : List D), xs.length - i < k → acc.length ≤ i → loopC src S.length turn k i (S ++ [.lst acc]) = .ok (.ref S.length) (S ++ [.lst (acc ++ (xs.drop i).filterMap g)]) := by
  have sz : 16000000 ≤ PySem.sizeLine := by decide
  intro k
  induction k with
  | zero => intro i acc h; omega
  | succ k ih =>
    intro i acc hk hi
    unfold loopC
    rw [hsrc]
    by_cases c : i < xs.length
    · have e : xs[i]? = some xs[i] := by simp [c]
      have hd : xs.drop i = xs[i] :: xs.drop (i + 1) := (List.drop_eq_getElem_cons c)
      rw [e]
      simp only [ht xs[i] (List.getElem_mem c)]
      cases hg : g xs[i] with
      | none =>
        simp only
        rw [ih (i + 1) acc (by omega) (by omega), hd, List.filterMap_cons, hg]
      | some y =>
        have e3 : acc.length < PySem.sizeLine := by omega
        simp only [app_at0, if_pos e3, app_set0]
        rw [ih (i + 1) (acc ++ [y]) (by omega) (by simp; omega), hd, List.filterMap_cons, hg, List.append_assoc]
        rfl
    · have e : xs[i]? = none := by simp; omega
      have hd : xs.drop i = [] := List.drop_eq_nil_of_le (by omega)
      rw [e, hd]
      simp
theorem comp_f {src : IS} {n : Nat} {xs : List D} {turn : D → Sto → R (Option D)} (g : D → Option D) (hsrc : ∀ i o, src.at i (S ++ [o]) = some xs[i]?) (hn : xs.length < n) (hl : xs.length < 16000000) (ht : ∀ x ∈ xs, ∀ o, turn x (S ++ [o]) = .ok (g x) (S ++ [o])) :
    loopC src S.length turn n 0 (S ++ [.lst []]) = .ok (.ref S.length) (S ++ [.lst (xs.filterMap g)]) := by
  have := comp_pureS (n := n) g hsrc hl ht n 0 [] (by omega) (by simp)
  simpa using this
theorem comp_m {α : Type} {src : IS} {n : Nat} {ys : List α} {e : α → D} {turn : D → Sto → R (Option D)} (g : α → D) (hsrc : ∀ i o, src.at i (S ++ [o]) = some (ys.map e)[i]?) (hn : ys.length < n) (hl : ys.length < 16000000) (ht : ∀ y ∈ ys, ∀ o, turn (e y) (S ++ [o]) = .ok (some (g y)) (S ++ [o])) :
    loopC src S.length turn n 0 (S ++ [.lst []]) = .ok (.ref S.length) (S ++ [.lst (ys.map g)]) := by
  have sz : 16000000 ≤ PySem.sizeLine := by decide
  have key : ∀ (k i : Nat) (acc : List D), ys.length - i < k → acc.length ≤ i → loopC src S.length turn k i (S ++ [.lst acc]) = .ok (.ref S.length) (S ++ [.lst (acc ++ (ys.drop i).map g)]) := by
    intro k
    induction k with
    | zero => intro i acc h; omega
    | succ k ih =>
      intro i acc hk hi
      unfold loopC
      rw [hsrc]
      by_cases c : i < ys.length
      · have e1 : (ys.map e)[i]? = some (e ys[i]) := by simp [c]
        have hd : ys.drop i = ys[i] :: ys.drop (i + 1) := (List.drop_eq_getElem_cons c)
        have e3 : acc.length < PySem.sizeLine := by omega
        rw [e1]
        simp only [ht ys[i] (List.getElem_mem c), app_at0, if_pos e3, app_set0]
        rw [ih (i + 1) (acc ++ [g ys[i]]) (by omega) (by simp; omega), hd, List.map_cons, List.append_assoc]
        rfl
      · have e1 : (ys.map e)[i]? = none := by simp; omega
        have hd : ys.drop i = [] := List.drop_eq_nil_of_le (by omega)
        rw [e1, hd]
        simp
  have := key n 0 [] (by omega) (by simp)
  simpa using this
theorem src_fix {xs : List D} : ∀ i (o : Ob), (IS.fix xs).at i (S ++ [o]) = some xs[i]? := fun i o => rfl
theorem src_lst {k : Nat} {xs : List D} (h : S[k]? = some (.lst xs)) : ∀ i (o : Ob), (IS.lst k).at i (S ++ [o]) = some xs[i]? := fun i o => by
  simp only [IS.at, app_old h]
theorem src_rng {lo st : Int} {m : Nat} : ∀ i (o : Ob), (IS.rng lo st m).at i (S ++ [o]) = some ((List.range m).map fun i : Nat => D.int (lo + (i : Int) * st))[i]? := fun i o => by
  by_cases c : i < m <;> simp [IS.at, c]
theorem src_rng0 {m : Nat} : ∀ i (o : Ob), (IS.rng 0 1 m).at i (S ++ [o]) = some ((List.range m).map fun i : Nat => D.int i)[i]? := fun i o => by
  by_cases c : i < m <;> simp [IS.at, c]
end
end Pv
end

section
set_option autoImplicit false
set_option linter.all false
set_option maxHeartbeats 1000000
set_option maxRecDepth 10000
/-! K74p1: the small checks of the program. -/
namespace K74
open Pv Lc
open PySem (Str)
theorem szl : 5000 ≤ PySem.sizeLine := by decide
@[simp] theorem boolsOf_map {α : Type} (p : α → Bool) : ∀ l : List α, boolsOf (l.map fun x => D.bl (p x)) = some (l.map p)
  | [] => rfl
  | b :: r => by
    show (boolsOf (r.map fun x => D.bl (p x))).map (fun l => p b :: l) = _
    rw [boolsOf_map p r]
    rfl
section
variable {G : Prog} [LibD G] {n d : Nat} {S : Sto}
theorem fn34 : G.fn 34 = some ⟨1, 1, c_is_whole⟩ := LibD.fn 34 (by decide)
theorem is_whole_int (i : Int) : evC G n (d + 1) 34 [.int i] S = .ok (.bl true) S := by
  rw [evC_open fn34 rfl]
  simp [c_is_whole, startD, tyIs]
theorem fn21 : G.fn 21 = some ⟨2, 2, c_is_below⟩ := LibD.fn 21 (by decide)
theorem is_below_int (i b : Int) : evC G n (d + 2) 21 [.int i, .int b] S = .ok (.bl (decide (0 ≤ i) && decide (i < b))) S := by
  rw [evC_open fn21 rfl]
  by_cases h : 0 ≤ i <;> simp [c_is_below, startD, is_whole_int, cmpop, h]
/-- [g x for x in a tuple]: turns that change nothing that is there -/
theorem comp_fix {turn : D → Sto → R (Option D)} {S0 : Sto} {xs : List D} (g : D → D) (hn : 5000 ≤ n) (hl : xs.length < 5000) (ht : ∀ x S, x ∈ xs → Grow S0 S → ∃ S', turn x S = .ok (some (g x)) S' ∧ Grow S S') :
    ∃ S', loopC (.fix xs) S0.length turn n 0 (S0 ++ [.lst []]) = .ok (.ref S0.length) S' ∧ S'[S0.length]? = some (.lst (xs.map g)) ∧ Grow S0 S' := by
  have sz := szl
  obtain ⟨S', e, gr⟩ := loopC_map (src := .fix xs) (turn := turn) (S0 := S0) (xs := xs) (f := fun i => g ((xs[i]?).getD .non)) (w := n) (by omega) (by omega) (fun i S _ => rfl)
    (fun i x S hx gr => by
      obtain ⟨S', e, g'⟩ := ht x S (List.mem_of_getElem? hx) gr
      exact ⟨S', by rw [e, hx]; rfl, g'⟩)
  have em : (List.range xs.length).map (fun i => g ((xs[i]?).getD .non)) = xs.map g := by
    apply List.ext_getElem
    · simp
    · intro i h1 h2
      simp at h2
      simp [h2]
  rw [em] at gr
  exact ⟨S', e, gr.at (by simp), (Grow.snoc S0 _).trans gr⟩
theorem fn43 : G.fn 43 = some ⟨2, 3, c_are_below⟩ := LibD.fn 43 (by decide)
theorem are_below_ints (hn : 5000 ≤ n) (xs : List Int) (b : Int) (hl : xs.length < 5000) : ∃ S', evC G n (d + 3) 43 [.tup (xs.map D.int), .int b] S = .ok (.bl (xs.all fun i => decide (0 ≤ i) && decide (i < b))) S' ∧ Grow S S' := by
  rw [evC_open fn43 rfl]
  obtain ⟨S', e, e2, g⟩ := comp_fix (n := n) (S0 := S) (xs := xs.map D.int) (fun x => match x with | .int i => .bl (decide (0 ≤ i) && decide (i < b)) | _ => .non) (turn := turnE G n (evC G n (d + 2)) (evP G n (d + 2)).2 (.call 21 (.cons (.var 2) (.cons (.var 1) .nil))) (.var 2) .nil [2] [some (.tup (xs.map D.int)), some (.int b), none]) hn (by simpa using hl)
    (fun x S1 hx _ => by
      obtain ⟨i, _, rfl⟩ := List.mem_map.mp hx
      exact ⟨S1, by simp [turnE, wipeD, is_below_int], Grow.refl _⟩)
  refine ⟨S', ?_, g⟩
  simp [c_are_below, startD, tyIs, walkOf, e, builtin, e2, Function.comp_def, List.all_map]
theorem fn23 : G.fn 23 = some ⟨1, 2, c_are_flags⟩ := LibD.fn 23 (by decide)
def isBl : D → Bool
  | .bl _ => true
  | _ => false
theorem fn42 : G.fn 42 = some ⟨3, 3, c_is_told⟩ := LibD.fn 42 (by decide)
theorem fn26 : G.fn 26 = some ⟨1, 1, c_shifted⟩ := LibD.fn 26 (by decide)
theorem shifted_int (k : Nat) (hk : k ≤ 1000) : evC G n (d + 1) 26 [.int k] S = .ok (.int (2 ^ k)) S := by
  rw [evC_open fn26 rfl]
  have h : (0 : Int) ≤ k ∧ (k : Int) ≤ 1000000 ∧ (1 : Int).natAbs < 2 ^ 64 := ⟨by omega, by omega, by decide⟩
  simp [c_shifted, startD, binop, h]
end
end K74
end

section
set_option autoImplicit false
set_option linter.all false
set_option maxHeartbeats 1000000
/-! K74d1: what a diagram's number stands for. -/
namespace Dia
/-- the nodes behind the two ends: flag, low, high -/
abbrev Nds := List (Nat × Nat × Nat)
abbrev Fun := (Nat → Bool) → Bool
/-- number i stands for g; all its flags are at least t and below m -/
inductive Den (m : Nat) (N : Nds) : Nat → Fun → Nat → Prop
  | zero (t : Nat) : Den m N 0 (fun _ => false) t
  | one (t : Nat) : Den m N 1 (fun _ => true) t
  | node (i f l h t : Nat) (gl gh : Fun) : N[i]? = some (f, l, h) → t ≤ f → f < m → l < i + 2 → h < i + 2 → Den m N l gl (f + 1) → Den m N h gh (f + 1) → Den m N (i + 2) (fun x => if x f = true then gh x else gl x) t
variable {m : Nat} {N : Nds}
theorem Den.grow {i : Nat} {g : Fun} {t : Nat} (h : Den m N i g t) (l : Nds) : Den m (N ++ l) i g t := by
  induction h with
  | zero t => exact .zero t
  | one t => exact .one t
  | node i f lo hi t gl gh e h1 h2 h3 h4 _ _ ih1 ih2 =>
    refine .node i f lo hi t gl gh ?_ h1 h2 h3 h4 ih1 ih2
    rw [List.getElem?_append_left (List.getElem?_eq_some_iff.mp e).1]
    exact e
theorem Den.low {i : Nat} {g : Fun} {t : Nat} (h : Den m N i g t) {t' : Nat} (ht : t' ≤ t) : Den m N i g t' := by
  cases h with
  | zero => exact .zero _
  | one => exact .one _
  | node i f lo hi t gl gh e h1 h2 h3 h4 d1 d2 => exact .node i f lo hi t' gl gh e (Nat.le_trans ht h1) h2 h3 h4 d1 d2
theorem Den.lt {i : Nat} {g : Fun} {t : Nat} (h : Den m N i g t) : i < N.length + 2 := by
  cases h with
  | zero => omega
  | one => omega
  | node i f lo hi t gl gh e h1 h2 h3 h4 d1 d2 =>
    have := (List.getElem?_eq_some_iff.mp e).1
    omega
theorem Den.back {i : Nat} {g : Fun} {t : Nat} {l : Nds} (h : Den m (N ++ l) i g t) (hi : i < N.length + 2) : Den m N i g t := by
  generalize hM : N ++ l = M at h
  induction h with
  | zero t => exact .zero t
  | one t => exact .one t
  | node i f lo hi' t gl gh e h1 h2 h3 h4 d1 d2 ih1 ih2 =>
    subst hM
    refine .node i f lo hi' t gl gh ?_ h1 h2 h3 h4 (ih1 (by omega)) (ih2 (by omega))
    rw [List.getElem?_append_left (by omega)] at e
    exact e
theorem Den.uniq {i : Nat} {g g' : Fun} {t t' : Nat} (h : Den m N i g t) (h' : Den m N i g' t') : g = g' := by
  induction h generalizing g' t' with
  | zero t => cases h'; rfl
  | one t => cases h'; rfl
  | node i f lo hi' t gl gh e h1 h2 h3 h4 d1 d2 ih1 ih2 =>
    cases h' with
    | node _ f2 lo2 hi2 _ gl2 gh2 e2 k1 k2 k3 k4 c1 c2 =>
      rw [e] at e2
      cases e2
      rw [ih1 c1, ih2 c2]
/-- the flag of a number's node; none at the ends -/
def flagOf (N : Nds) (i : Nat) : Option Nat := if i < 2 then none else (N[i - 2]?).map (·.1)
/-- a number's part where the flag f is false, or true -/
def part (N : Nds) (f : Nat) (b : Bool) (i : Nat) : Nat :=
  if i < 2 then i else match N[i - 2]? with
    | some (f', l, h) => if f' = f then (if b = true then h else l) else i
    | none => i
/-- the cofactor -/
theorem Den.part {i : Nat} {g : Fun} {t f : Nat} (h : Den m N i g t) (hf : ∀ f', flagOf N i = some f' → f ≤ f') : ∃ gl gh, Den m N (part N f false i) gl (f + 1) ∧ Den m N (part N f true i) gh (f + 1) ∧ g = fun x => if x f = true then gh x else gl x := by
  cases h with
  | zero => exact ⟨_, _, by unfold Dia.part; exact .zero _, by unfold Dia.part; exact .zero _, by funext x; simp⟩
  | one => exact ⟨_, _, by unfold Dia.part; exact .one _, by unfold Dia.part; exact .one _, by funext x; simp⟩
  | node i f2 lo hi t gl gh e h1 h2 h3 h4 d1 d2 =>
    have hle : f ≤ f2 := hf f2 (by
      unfold flagOf
      rw [if_neg (by omega), Nat.add_sub_cancel, e]; rfl)
    have hp : ∀ b, Dia.part N f b (i + 2) = if f2 = f then (if b = true then hi else lo) else i + 2 := fun b => by
      unfold Dia.part
      rw [if_neg (by omega), Nat.add_sub_cancel, e]
    rw [hp, hp]
    by_cases c : f2 = f
    · subst c
      simp only [if_true]
      exact ⟨gl, gh, d1, d2, rfl⟩
    · rw [if_neg c, if_neg c]
      have d : Den m N (i + 2) (fun x => if x f2 = true then gh x else gl x) (f + 1) := .node i f2 lo hi _ gl gh e (by omega) h2 h3 h4 d1 d2
      exact ⟨_, _, d, d, by funext x; simp⟩
def ite3 (a b c : Fun) : Fun := fun x => if a x = true then b x else c x
/-- one choice by the choices of the parts -/
theorem ite3_parts {al ah bl bh cl ch : Fun} {f : Nat} : ite3 (fun x => if x f = true then ah x else al x) (fun x => if x f = true then bh x else bl x) (fun x => if x f = true then ch x else cl x) = fun x => if x f = true then ite3 ah bh ch x else ite3 al bl cl x := by
  funext x
  unfold ite3
  by_cases h : x f = true <;> simp [h]
/-- what settled tells -/
def settled (a b c : Nat) : Option Nat := if a < 2 then some (if a = 1 then b else c) else if b = c then some b else if b = 1 ∧ c = 0 then some a else none
theorem settled_ok {a b c r : Nat} {ga gb gc : Fun} {t : Nat} (ha : Den m N a ga t) (hb : Den m N b gb t) (hc : Den m N c gc t) (e : settled a b c = some r) : Den m N r (ite3 ga gb gc) t := by
  unfold settled at e
  by_cases h1 : a < 2
  · rw [if_pos h1] at e
    cases ha with
    | zero =>
      simp at e; subst e
      have : ite3 (fun _ => false) gb gc = gc := by funext x; simp [ite3]
      rw [this]; exact hc
    | one =>
      simp at e; subst e
      have : ite3 (fun _ => true) gb gc = gb := by funext x; simp [ite3]
      rw [this]; exact hb
    | node => omega
  · rw [if_neg h1] at e
    by_cases h2 : b = c
    · rw [if_pos h2] at e
      cases e
      subst h2
      have hg := hb.uniq hc
      subst hg
      have : ite3 ga gb gb = gb := by funext x; simp [ite3]
      rw [this]; exact hb
    · rw [if_neg h2] at e
      by_cases h3 : b = 1 ∧ c = 0
      · rw [if_pos h3] at e
        cases e
        obtain ⟨e1, e2⟩ := h3
        subst e1; subst e2
        cases hb; cases hc
        have : ite3 ga (fun _ => true) (fun _ => false) = ga := by funext x; cases h : ga x <;> simp [ite3, h]
        rw [this]; exact ha
      · rw [if_neg h3] at e; cases e
/-- a node made -/
theorem Den.put {l h : Nat} {gl gh : Fun} {f t : Nat} (hl : Den m N l gl (f + 1)) (hh : Den m N h gh (f + 1)) (ht : t ≤ f) (hf : f < m) : Den m (N ++ [(f, l, h)]) (N.length + 2) (fun x => if x f = true then gh x else gl x) t :=
  .node N.length f l h t gl gh (by simp) ht hf hl.lt hh.lt (hl.grow _) (hh.grow _)
end Dia
end

section
set_option autoImplicit false
set_option linter.all false
set_option maxHeartbeats 2000000
set_option maxRecDepth 10000
/-! K74d2: the diagrams in the store; put, parts. -/
namespace K74
open Pv Dia Lc
open PySem (Str)
open L2 (Key)
theorem szl2 : 1000000 ≤ PySem.sizeLine := by decide
def nodeD (q : Nat × Nat × Nat) : D := .tup [.int q.1, .int q.2.1, .int q.2.2]
def nodesD (N : Nds) : List D := .non :: .non :: N.map nodeD
def key3 (a b c : Nat) : List Key := [.inl a, .inl b, .inl c]
/-- the diagrams at o: nodes at a, known at b, kept at c -/
structure Ok (m : Nat) (S : Sto) (o a b c : Nat) (N : Nds) (K P : List (List Key × D)) : Prop where
  ins : S[o]? = some (.ins 3 [(2, .ref a), (6, .ref b), (5, .ref c)])
  nds : S[a]? = some (.lst (nodesD N))
  kn : S[b]? = some (.dT K)
  kp : S[c]? = some (.dT P)
  ap : o ≠ a ∧ o ≠ b ∧ o ≠ c ∧ a ≠ b ∧ a ≠ c ∧ b ≠ c
  kno : ∀ k v, lookA k K = some v → ∃ f l h i, k = key3 f l h ∧ v = .int (i + 2 : Nat) ∧ N[i]? = some (f, l, h) ∧ l < i + 2 ∧ h < i + 2
  kep : ∀ k v, lookA k P = some v → ∃ x y z r, k = key3 x y z ∧ v = .int (r : Nat) ∧ x < N.length + 2 ∧ y < N.length + 2 ∧ z < N.length + 2 ∧ ∀ (j : Nat) (gx gy gz : Fun) (t : Nat), Den j N x gx t → Den j N y gy t → Den j N z gz t → Den j N r (ite3 gx gy gz) t
  kl : K.length ≤ N.length
  knf : ∀ q ∈ K, ∃ i : Nat, q.2 = .int i
  kpf : ∀ q ∈ P, ∃ i : Nat, q.2 = .int i
section
variable {G : Prog} [LibD G] {n d m : Nat} {S : Sto} {o a b c : Nat} {N : Nds} {K P : List (List Key × D)}
theorem fl0 : G.flds 3 2 = true := LibD.flds (3, 2) (by decide)
theorem fl1 : G.flds 3 6 = true := LibD.flds (3, 6) (by decide)
theorem fl2 : G.flds 3 5 = true := LibD.flds (3, 5) (by decide)
theorem Ok.any (h : Ok m S o a b c N K P) (m' : Nat) : Ok m' S o a b c N K P := ⟨h.ins, h.nds, h.kn, h.kp, h.ap, h.kno, h.kep, h.kl, h.knf, h.kpf⟩
theorem Ok.nodes (h : Ok m S o a b c N K P) : getattr G (.ref o) 2 S = .ok (.ref a) S := by
  simp [getattr, h.ins, fl0, lookA]
theorem Ok.known (h : Ok m S o a b c N K P) : getattr G (.ref o) 6 S = .ok (.ref b) S := by
  simp [getattr, h.ins, fl1, lookA]
theorem Ok.kept (h : Ok m S o a b c N K P) : getattr G (.ref o) 5 S = .ok (.ref c) S := by
  simp [getattr, h.ins, fl2, lookA]
theorem hasA_look {κ β : Type} [DecidableEq κ] (k : κ) : ∀ l : List (κ × β), hasA k l = (lookA k l).isSome
  | [] => rfl
  | p :: r => by
    unfold hasA lookA
    by_cases h : p.1 = k
    · rw [if_pos h, if_pos h]; rfl
    · rw [if_neg h, if_neg h]; exact hasA_look k r
theorem lookA_app {κ β : Type} [DecidableEq κ] (k k' : κ) (v : β) : ∀ l : List (κ × β), lookA k (l ++ [(k', v)]) = match lookA k l with
    | some x => some x
    | none => if k' = k then some v else none
  | [] => rfl
  | p :: r => by
    show (if p.1 = k then some p.2 else lookA k (r ++ [(k', v)])) = _
    by_cases h : p.1 = k
    · rw [if_pos h]
      have : lookA k (p :: r) = some p.2 := by unfold lookA; rw [if_pos h]
      rw [this]
    · rw [if_neg h, lookA_app k k' v r]
      have : lookA k (p :: r) = lookA k r := by
        show (if p.1 = k then some p.2 else lookA k r) = _
        rw [if_neg h]
      rw [this]
theorem getAt_nat (xs : List D) (i : Nat) (h : i < xs.length) : getAt xs (i : Int) = xs[i]? := by
  unfold getAt L2.atI L2.ixN
  rw [if_pos (by omega), if_pos (by omega)]
  simp
@[simp] theorem getAt_0 (x : D) (r : List D) : getAt (x :: r) 0 = some x := by
  have := getAt_nat (x :: r) 0 (by simp)
  simpa using this
@[simp] theorem getAt_1 (x y : D) (r : List D) : getAt (x :: y :: r) 1 = some y := by
  have := getAt_nat (x :: y :: r) 1 (by simp)
  simpa using this
@[simp] theorem getAt_2 (x y z : D) (r : List D) : getAt (x :: y :: z :: r) 2 = some z := by
  have := getAt_nat (x :: y :: z :: r) 2 (by simp)
  simpa using this
theorem key3_inj {x y z x' y' z' : Nat} (h : key3 x y z = key3 x' y' z') : x = x' ∧ y = y' ∧ z = z' := by
  unfold key3 at h
  simp at h
  omega
theorem nodes_at {i : Nat} (N : Nds) : (nodesD N)[i + 2]? = (N[i]?).map nodeD := by
  unfold nodesD
  simp
theorem fn40 : G.fn 40 = some ⟨4, 4, c_Diagrams_put⟩ := LibD.fn 40 (by decide)
theorem put_spec (hS : Ok m S o a b c N K P) {f l h : Nat} {gl gh : Fun} (hl : Den m N l gl (f + 1)) (hh : Den m N h gh (f + 1)) (hf : f < m) (hN : N.length < 190000) :
    ∃ S' x K' r, evC G n (d + 1) 40 [.ref o, .int f, .int l, .int h] S = .ok (.int (r : Nat)) S' ∧ Ok m S' o a b c (N ++ x) K' P ∧ Chg [a, b] S S' ∧ x.length ≤ 1 ∧ ∀ (j : Nat) (gl gh : Fun), Den j N l gl (f + 1) → Den j N h gh (f + 1) → f < j → Den j (N ++ x) r (fun x => if x f = true then gh x else gl x) f := by
  have sz := szl2
  rw [evC_open fn40 rfl]
  by_cases e : l = h
  · subst e
    refine ⟨S, [], K, l, ?_, by rw [List.append_nil]; exact hS, Chg.refl _ _, by simp, fun j gl gh hl hh hf => ?_⟩
    · simp [c_Diagrams_put, startD, cmpop, eqS]
    · have hg := hl.uniq hh
      subst hg
      rw [List.append_nil]
      have : (fun x : Nat → Bool => if x f = true then gl x else gl x) = gl := by funext x; simp
      rw [this]
      exact hl.low (by omega)
  · have e' : ¬ ((l : Int) = h) := by omega
    have nt : newTup [.int (f : Nat), .int (l : Nat), .int (h : Nat)] = fun S => R.ok (.tup [.int (f : Nat), .int (l : Nat), .int (h : Nat)]) S := by
      funext S
      unfold newTup
      rw [if_pos (by simp; omega)]
    have kk : tkeyOf (.tup [.int (f : Nat), .int (l : Nat), .int (h : Nat)]) = some (key3 f l h) := rfl
    cases ek : lookA (key3 f l h) K with
    | some v =>
      obtain ⟨f', l', h', i, e1, e2, e3, o1, o2⟩ := hS.kno _ _ ek
      have e1 := key3_inj e1
      obtain ⟨q1, q2, q3⟩ := e1
      subst q1; subst q2; subst q3; subst e2
      refine ⟨S, [], K, i + 2, ?_, by rw [List.append_nil]; exact hS, Chg.refl _ _, by simp, fun j gl gh hl hh hf => ?_⟩
      · simp [c_Diagrams_put, startD, cmpop, eqS, e', nt, hS.known, isIn, hS.kn, kk, ek, subscr]
      · rw [List.append_nil]
        exact .node i f l h f gl gh e3 (Nat.le_refl _) hf o1 o2 hl hh
    | none =>
      have hla : (nodesD N).length = N.length + 2 := by unfold nodesD; simp
      have hkl := hS.kl
      obtain ⟨p1, p2, p3, p4, p5, p6⟩ := hS.ap
      have hb : b < S.length := (List.getElem?_eq_some_iff.mp hS.kn).1
      have hput : putA (key3 f l h) (D.int ((N.length + 2 : Nat) : Int)) K = K ++ [(key3 f l h, D.int ((N.length + 2 : Nat) : Int))] := by
        unfold putA
        rw [hasA_look, ek]
        simp
      have big : ¬ ((200000 : Int) ≤ (nodesD N).length) := by rw [hla]; omega
      obtain ⟨V, hV⟩ : ∃ V, V = D.int ((N.length + 2 : Nat) : Int) := ⟨_, rfl⟩
      rw [← hV] at hput
      obtain ⟨S1, hS1⟩ : ∃ S1, S1 = S.set b (.dT (K ++ [(key3 f l h, V)])) := ⟨_, rfl⟩
      obtain ⟨S2, hS2⟩ : ∃ S2, S2 = S1.set a (.lst (nodesD (N ++ [(f, l, h)]))) := ⟨_, rfl⟩
      obtain ⟨tp, htp⟩ : ∃ tp, tp = D.tup [.int (f : Nat), .int (l : Nat), .int (h : Nat)] := ⟨_, rfl⟩
      have z1 : K.length < PySem.sizeLine := by omega
      have z2 : (nodesD N).length < PySem.sizeLine := by omega
      have q1 : S1[o]? = some (.ins 3 [(2, .ref a), (6, .ref b), (5, .ref c)]) := by rw [hS1, List.getElem?_set_ne (Ne.symm p2)]; exact hS.ins
      have q2 : S1[a]? = some (.lst (nodesD N)) := by rw [hS1, List.getElem?_set_ne (Ne.symm p4)]; exact hS.nds
      have q3 : S1[b]? = some (.dT (K ++ [(key3 f l h, V)])) := by rw [hS1]; exact List.getElem?_set_self hb
      have q5 : S1[c]? = some (.dT P) := by rw [hS1, List.getElem?_set_ne p6]; exact hS.kp
      have s1 : S2[o]? = some (.ins 3 [(2, .ref a), (6, .ref b), (5, .ref c)]) := by rw [hS2, List.getElem?_set_ne (Ne.symm p1)]; exact q1
      have s2 : S2[b]? = some (.dT (K ++ [(key3 f l h, V)])) := by rw [hS2, List.getElem?_set_ne p4]; exact q3
      have s3 : S2[a]? = some (.lst (nodesD (N ++ [(f, l, h)]))) := by rw [hS2]; exact List.getElem?_set_self (List.getElem?_eq_some_iff.mp q2).1
      have s5 : S2[c]? = some (.dT P) := by rw [hS2, List.getElem?_set_ne p5]; exact q5
      have sl : lookA (key3 f l h) (K ++ [(key3 f l h, V)]) = some V := by rw [lookA_app, ek]; simp
      have w0 : newTup [.int (f : Nat), .int (l : Nat), .int (h : Nat)] = fun S => R.ok tp S := by rw [nt, htp]
      have kt : tkeyOf tp = some (key3 f l h) := by rw [htp]; exact kk
      have w1 : getattr G (.ref o) 6 S1 = .ok (.ref b) S1 := by simp [getattr, q1, fl1, lookA]
      have w2 : getattr G (.ref o) 2 S1 = .ok (.ref a) S1 := by simp [getattr, q1, fl0, lookA]
      have w3 : getattr G (.ref o) 6 S2 = .ok (.ref b) S2 := by simp [getattr, s1, fl1, lookA]
      have w4 : builtin .len [.ref a] S = .ok V S := by
        have : V = D.int (nodesD N).length := by rw [hV, hla]
        rw [this]
        simp [builtin, hS.nds]
      have w5 : setitem (.ref b) tp V S = some S1 := by simp [setitem, hS.kn, kt, z1, hput, hS1]
      have w6 : bmRecv .append (.ref a) S1 = true := by simp [bmRecv, q2]
      have w7 : bmethod .append (.ref a) [tp] S1 = .ok .non S2 := by
        have q4 : nodesD N ++ [tp] = nodesD (N ++ [(f, l, h)]) := by rw [htp]; unfold nodesD nodeD; simp
        simp [bmethod, q2, z2, q4, hS2]
      have w8 : subscr (.ref b) tp S2 = .ok V S2 := by simp [subscr, s2, kt, sl]
      have w9 : cmpop .notin tp (.ref b) S = .ok (.bl true) S := by simp [cmpop, isIn, hS.kn, kt, ek]
      have w10 : cmpop .ge V (.int 200000) S = .ok (.bl false) S := by
        rw [hV]
        simp [cmpop]
        omega
      refine ⟨S2, [(f, l, h)], K ++ [(key3 f l h, V)], N.length + 2, ?_, ?_, ?_, by simp, fun j gl gh hl hh hf => ?_⟩
      · have ce : cmpop .eq (.int (l : Nat)) (.int (h : Nat)) S = .ok (.bl false) S := by simp [cmpop, eqS, e']
        simp [c_Diagrams_put, startD, ce, w0, hS.known, hS.nodes, w9, w4, w10, w5, w1, w2, w6, w7, w3, w8]
        rw [hV]
        simp
      · refine ⟨?_, ?_, ?_, ?_, hS.ap, fun k v e => ?_, fun k v e => ?_, ?_, fun q hq => ?_, hS.kpf⟩
        · exact s1
        · exact s3
        · exact s2
        · exact s5
        · rw [lookA_app] at e
          cases e2 : lookA k K with
          | some v2 =>
            rw [e2] at e
            obtain ⟨f', l', h', i, a1, a2, a3, a4, a5⟩ := hS.kno k v2 e2
            have e : v2 = v := Option.some.inj e
            subst e
            exact ⟨f', l', h', i, a1, a2, by rw [List.getElem?_append_left (List.getElem?_eq_some_iff.mp a3).1]; exact a3, a4, a5⟩
          | none =>
            rw [e2] at e
            by_cases z : key3 f l h = k
            · simp only [if_pos z] at e
              have e : V = v := Option.some.inj e
              exact ⟨f, l, h, N.length, z.symm, by rw [← e, hV], by simp, hl.lt, hh.lt⟩
            · simp only [if_neg z] at e; cases e
        · obtain ⟨x, y, zz, r, a1, a2, a3, a4, a5, a6⟩ := hS.kep k v e
          refine ⟨x, y, zz, r, a1, a2, by simp; omega, by simp; omega, by simp; omega, fun j gx gy gz t b1 b2 b3 => ?_⟩
          exact (a6 j gx gy gz t (b1.back a3) (b2.back a4) (b3.back a5)).grow _
        · simp; exact hkl
        · rcases List.mem_append.mp hq with h | h
          · exact hS.knf q h
          · have : q = _ := List.mem_singleton.mp h
            exact ⟨N.length + 2, by rw [this, hV]⟩
      · rw [hS2, hS1]
        exact (Chg.set _ (by simp)).trans (Chg.set _ (by simp))
      · exact Den.put hl hh (Nat.le_refl _) hf
end
end K74
end

section
set_option autoImplicit false
set_option linter.all false
set_option maxHeartbeats 2000000
set_option maxRecDepth 10000
/-! K74d3: settled, known_choice, parts, first_flag. -/
namespace K74
open Pv Dia Lc
open PySem (Str)
open L2 (Key)
/-- a comprehension whose turns leave the store as it is -/
theorem comp_pureA {S0 : Sto} {xs : List D} {turn : D → Sto → R (Option D)} (g : D → Option D) (hl : xs.length < 5000) (ht : ∀ x ∈ xs, ∀ o, turn x (S0 ++ [o]) = .ok (g x) (S0 ++ [o])) :
    ∀ (w i : Nat) (acc : List D), xs.length - i < w → acc.length ≤ i → i ≤ xs.length → loopC (.fix xs) S0.length turn w i (S0 ++ [.lst acc]) = .ok (.ref S0.length) (S0 ++ [.lst (acc ++ (xs.drop i).filterMap g)]) := by
  have sz := szl
  intro w
  induction w with
  | zero => intro i acc h; omega
  | succ w ih =>
    intro i acc hw ha hi
    unfold loopC
    by_cases c : i < xs.length
    · have e : xs[i]? = some xs[i] := by simp [c]
      have hd : xs.drop i = xs[i] :: xs.drop (i + 1) := (List.drop_eq_getElem_cons c)
      have at_ : (IS.fix xs).at i (S0 ++ [.lst acc]) = some (some xs[i]) := by simp [IS.at, e]
      rw [at_]
      simp only [ht xs[i] (List.getElem_mem c)]
      cases hg : g xs[i] with
      | none =>
        simp only
        rw [ih (i + 1) acc (by omega) (by omega) (by omega), hd, List.filterMap_cons, hg]
      | some y =>
        have e2 : (S0 ++ [Ob.lst acc])[S0.length]? = some (.lst acc) := by simp
        have e3 : acc.length < PySem.sizeLine := by omega
        simp only [e2, if_pos e3]
        have e4 : (S0 ++ [Ob.lst acc]).set S0.length (.lst (acc ++ [y])) = S0 ++ [.lst (acc ++ [y])] := by simp [List.set_append]
        rw [e4, ih (i + 1) (acc ++ [y]) (by omega) (by simp; omega) (by omega), hd, List.filterMap_cons, hg, List.append_assoc]
        rfl
    · have at_ : (IS.fix xs).at i (S0 ++ [.lst acc]) = some none := by simp [IS.at]; omega
      rw [at_]
      have hd : xs.drop i = [] := List.drop_eq_nil_of_le (by omega)
      rw [hd]
      simp
theorem comp_pure {n : Nat} {S0 : Sto} {xs : List D} {turn : D → Sto → R (Option D)} (g : D → Option D) (hn : 5000 ≤ n) (hl : xs.length < 5000) (ht : ∀ x ∈ xs, ∀ o, turn x (S0 ++ [o]) = .ok (g x) (S0 ++ [o])) :
    loopC (.fix xs) S0.length turn n 0 (S0 ++ [.lst []]) = .ok (.ref S0.length) (S0 ++ [.lst (xs.filterMap g)]) := by
  have := comp_pureA g hl ht n 0 [] (by omega) (by simp) (by omega)
  simpa using this
section
variable {G : Prog} [LibD G] {n d m : Nat} {S : Sto} {o a b c : Nat} {N : Nds} {K P : List (List Key × D)}
theorem fn47 : G.fn 47 = some ⟨4, 4, c_Diagrams_settled⟩ := LibD.fn 47 (by decide)
def optI : Option Nat → D
  | some r => .int r
  | none => .non
theorem settled_spec (z : D) (i j k : Nat) : evC G n (d + 1) 47 [z, .int i, .int j, .int k] S = .ok (optI (Dia.settled i j k)) S := by
  have sz := szl2
  rw [evC_open fn47 rfl]
  have nt : ∀ (u v : D) (S : Sto), newTup [u, v] S = .ok (.tup [u, v]) S := fun u v S => by
    unfold newTup
    rw [if_pos (by simp; omega)]
  unfold Dia.settled
  by_cases h1 : i < 2
  · have h1' : ((i : Int) < 2) := by omega
    by_cases h2 : i = 1
    · subst h2
      simp [c_Diagrams_settled, startD, cmpop, eqS, optI]
    · have h2' : ¬ ((i : Int) = 1) := by omega
      simp [c_Diagrams_settled, startD, cmpop, eqS, optI, h1, h1', h2, h2']
  · have h1' : ¬ ((i : Int) < 2) := by omega
    by_cases h2 : j = k
    · subst h2
      simp [c_Diagrams_settled, startD, cmpop, eqS, optI, h1, h1']
    · have h2' : ¬ ((j : Int) = k) := by omega
      have he : ∀ S, eqS S (.tup [.int (j : Nat), .int (k : Nat)]) (.tup [.int 1, .int 0]) = some (decide (j = 1 ∧ k = 0)) := fun S => by
        show eqP (some (.tuple [.int (j : Nat), .int (k : Nat)])) (some (.tuple [.int 1, .int 0])) = _
        unfold eqP
        have e1 : (PySem.SeqAt.shaped (.tuple [.int (j : Nat), .int (k : Nat)]) && PySem.SeqAt.shaped (.tuple [.int 1, .int 0])) = true := by rfl
        simp only [e1, if_true]
        congr 1
        by_cases q1 : j = 1
        · subst q1
          by_cases q2 : k = 0
          · subst q2
            simp [PySem.PyData.eqv, PySem.PyData.eqvAll]
          · simp [PySem.PyData.eqv, PySem.PyData.eqvAll, q2]
        · have q1' : ¬ ((j : Int) = 1) := by omega
          simp [PySem.PyData.eqv, PySem.PyData.eqvAll, q1, q1']
      have ce : ∀ S, cmpop .eq (.int (j : Nat)) (.int (k : Nat)) S = .ok (.bl false) S := fun S => by simp [cmpop, eqS, h2']
      have ce2 : ∀ S, cmpop .eq (.tup [.int (j : Nat), .int (k : Nat)]) (.tup [.int 1, .int 0]) S = .ok (.bl (decide (j = 1 ∧ k = 0))) S := fun S => by simp only [cmpop, he, ofOpt]
      have ce3 : ∀ S, cmpop .lt (.int (i : Nat)) (.int 2) S = .ok (.bl false) S := fun S => by simp [cmpop, h1']
      by_cases h3 : j = 1 ∧ k = 0
      · have ce2' : ∀ S, cmpop .eq (.tup [.int (j : Nat), .int (k : Nat)]) (.tup [.int 1, .int 0]) S = .ok (.bl true) S := fun S => by rw [ce2, decide_eq_true h3]
        rw [if_neg h1, if_neg h2, if_pos h3]
        simp [c_Diagrams_settled, startD, ce, ce2', ce3, optI, nt]
      · have ce2' : ∀ S, cmpop .eq (.tup [.int (j : Nat), .int (k : Nat)]) (.tup [.int 1, .int 0]) S = .ok (.bl false) S := fun S => by rw [ce2, decide_eq_false h3]
        rw [if_neg h1, if_neg h2, if_neg h3]
        simp [c_Diagrams_settled, startD, ce, ce2', ce3, optI, nt]
theorem fn44 : G.fn 44 = some ⟨2, 3, c_Diagrams_known_choice⟩ := LibD.fn 44 (by decide)
theorem ms17 : G.meth 3 17 = some 47 := LibD.meth (3, 17, 47) (by decide)
theorem Ok.no17 : lookA 17 [(2, D.ref a), (6, .ref b), (5, .ref c)] = none := rfl
/-- what is known of a choice -/
def choiceD (P : List (List Key × D)) (i j k : Nat) : D := match Dia.settled i j k with
  | some r => .int r
  | none => (lookA (key3 i j k) P).getD .non
theorem known_choice_spec (hS : Ok m S o a b c N K P) (i j k : Nat) : evC G n (d + 2) 44 [.ref o, .tup [.int i, .int j, .int k]] S = .ok (choiceD P i j k) S := by
  rw [evC_open fn44 rfl]
  have kt : tkeyOf (.tup [.int (i : Nat), .int (j : Nat), .int (k : Nat)]) = some (key3 i j k) := rfl
  have g1 : bmRecv .get (.ref c) S = true := by simp [bmRecv, hS.kp]
  have g2 : bmethod .get (.ref c) [.tup [.int (i : Nat), .int (j : Nat), .int (k : Nat)]] S = .ok ((lookA (key3 i j k) P).getD .non) S := by simp [bmethod, hS.kp, kt]
  unfold choiceD
  cases e : Dia.settled i j k with
  | some r => simp [c_Diagrams_known_choice, startD, hS.ins, ms17, lookA, settled_spec, e, optI, cmpop, isNone]
  | none => simp [c_Diagrams_known_choice, startD, hS.ins, ms17, lookA, settled_spec, e, optI, cmpop, isNone, hS.kept, g1, g2]
end
end K74
end

section
set_option autoImplicit false
set_option linter.all false
set_option maxHeartbeats 2000000
set_option maxRecDepth 10000
/-! K74d4: parts, first_flag. -/
namespace K74
open Pv Dia Lc
open PySem (Str)
open L2 (Key)
section
variable {G : Prog} [LibD G] {n d m : Nat} {S : Sto} {o a b c : Nat} {N : Nds} {K P : List (List Key × D)}
theorem fn45 : G.fn 45 = some ⟨3, 3, c_Diagrams_parts⟩ := LibD.fn 45 (by decide)
theorem node_get (hS : S[a]? = some (.lst (nodesD N))) {i : Nat} {f l h : Nat} (e : N[i]? = some (f, l, h)) : subscr (.ref a) (.int ((i + 2 : Nat) : Int)) S = .ok (nodeD (f, l, h)) S := by
  have hi := (List.getElem?_eq_some_iff.mp e).1
  have hl : (nodesD N).length = N.length + 2 := by unfold nodesD; simp
  have g : getAt (nodesD N) ((i + 2 : Nat) : Int) = some (nodeD (f, l, h)) := by
    rw [getAt_nat _ _ (by rw [hl]; omega), nodes_at, e]
    rfl
  simp only [subscr, hS, g]
theorem cut1 (x y z : D) : sliced (.tup [x, y, z]) (some 1) none S = .ok (.tup [y, z]) S := by
  simp [sliced, cutD, HT.sIx]
theorem tup2 (x y : D) : newTup [x, y] S = .ok (.tup [x, y]) S := by
  have sz := szl2
  unfold newTup
  rw [if_pos (by simp; omega)]
theorem tup3 (x y z : D) : newTup [x, y, z] S = .ok (.tup [x, y, z]) S := by
  have sz := szl2
  unfold newTup
  rw [if_pos (by simp; omega)]
theorem getattr_nodes (hS : Ok m S o a b c N K P) (l : Sto) : getattr G (.ref o) 2 (S ++ l) = .ok (.ref a) (S ++ l) := by
  have : (S ++ l)[o]? = some (.ins 3 [(2, .ref a), (6, .ref b), (5, .ref c)]) := by rw [List.getElem?_append_left (List.getElem?_eq_some_iff.mp hS.ins).1]; exact hS.ins
  simp [getattr, this, fl0, lookA]
theorem node_flag (f l h : Nat) : subscr (nodeD (f, l, h)) (.int 0) S = .ok (.int (f : Nat)) S := by simp [subscr, nodeD]
theorem node_cut (f l h : Nat) : sliced (nodeD (f, l, h)) (some 1) none S = .ok (.tup [.int (l : Nat), .int (h : Nat)]) S := cut1 _ _ _
theorem parts_spec (hS : Ok m S o a b c N K P) (i f : Nat) (hi : i < N.length + 2) : evC G n (d + 1) 45 [.ref o, .int i, .int f] S = .ok (.tup [.int (part N f false i : Nat), .int (part N f true i : Nat)]) S := by
  rw [evC_open fn45 rfl]
  by_cases h : i < 2
  · have h' : (i : Int) < 2 := by omega
    have p : ∀ b, part N f b i = i := fun b => by unfold part; rw [if_pos h]
    simp [c_Diagrams_parts, startD, cmpop, h', tup2, p]
  · obtain ⟨j, rfl⟩ : ∃ j, i = j + 2 := ⟨i - 2, by omega⟩
    have hj : j < N.length := by omega
    obtain ⟨⟨f', l, hh⟩, e⟩ : ∃ q, N[j]? = some q := ⟨N[j], by simp [hj]⟩
    have sg := node_get hS.nds e
    obtain ⟨V, hV⟩ : ∃ V, V = D.int ((j + 2 : Nat) : Int) := ⟨_, rfl⟩
    have c1 : cmpop .lt V (.int 2) S = .ok (.bl false) S := by
      rw [hV]; simp [cmpop]; omega
    rw [← hV] at sg ⊢
    by_cases e2 : f' = f
    · subst e2
      have p : ∀ b, part N f' b (j + 2) = if b = true then hh else l := fun b => by unfold part; rw [if_neg (by omega), Nat.add_sub_cancel, e]; simp
      have c2 : cmpop .ne (.int (f' : Nat)) (.int (f' : Nat)) S = .ok (.bl false) S := by simp [cmpop, eqS]
      simp [c_Diagrams_parts, startD, c1, hS.nodes, sg, node_flag, c2, node_cut, p]
    · have e2' : ¬ ((f' : Int) = f) := by omega
      have p : ∀ b, part N f b (j + 2) = j + 2 := fun b => by unfold part; rw [if_neg (by omega), Nat.add_sub_cancel, e]; simp [e2]
      rw [p, p, ← hV]
      have c2 : cmpop .ne (.int (f' : Nat)) (.int (f : Nat)) S = .ok (.bl true) S := by simp [cmpop, eqS, e2']
      simp [c_Diagrams_parts, startD, c1, hS.nodes, sg, node_flag, c2, tup2]
theorem minInts_le : ∀ (l : List Int) (x : Int), minInts l = some x → (∀ y ∈ l, x ≤ y) ∧ x ∈ l
  | [], x, h => by cases h
  | [a], x, h => by
    have h : a = x := Option.some.inj h
    subst h
    simp
  | a :: b :: r, x, h => by
    have h : (minInts (b :: r)).map (fun m => if a ≤ m then a else m) = some x := h
    cases e : minInts (b :: r) with
    | none => rw [e] at h; cases h
    | some m =>
      rw [e] at h
      have h : (if a ≤ m then a else m) = x := Option.some.inj h
      obtain ⟨h1, h2⟩ := minInts_le (b :: r) m e
      by_cases c : a ≤ m
      · rw [if_pos c] at h
        subst h
        refine ⟨fun y hy => ?_, List.mem_cons_self⟩
        rcases List.mem_cons.mp hy with q | q
        · omega
        · have := h1 y q; omega
      · rw [if_neg c] at h
        subst h
        refine ⟨fun y hy => ?_, List.mem_cons_of_mem _ h2⟩
        rcases List.mem_cons.mp hy with q | q
        · omega
        · exact h1 y q
theorem minInts_some : ∀ l : List Int, l ≠ [] → ∃ x, minInts l = some x
  | [], h => absurd rfl h
  | [a], _ => ⟨a, rfl⟩
  | a :: b :: r, _ => by
    obtain ⟨x, e⟩ := minInts_some (b :: r) (by simp)
    exact ⟨if a ≤ x then a else x, by show (minInts (b :: r)).map _ = _; rw [e]; rfl⟩
theorem intsOf_map : ∀ l : List Int, intsOf (l.map D.int) = some l
  | [] => rfl
  | a :: r => by
    show (intsOf (r.map D.int)).map (fun l => a :: l) = _
    rw [intsOf_map r]; rfl
theorem fn46 : G.fn 46 = some ⟨2, 3, c_Diagrams_first_flag⟩ := LibD.fn 46 (by decide)
/-- the flag that the turn asks -/
def ffD (N : Nds) (i : Nat) : Option D := (flagOf N i).map fun f => D.int (f : Nat)
theorem flagOf_some {i : Nat} (h : 2 ≤ i) (hi : i < N.length + 2) : ∃ f l hh j, i = j + 2 ∧ N[j]? = some (f, l, hh) ∧ flagOf N i = some f := by
  obtain ⟨j, rfl⟩ : ∃ j, i = j + 2 := ⟨i - 2, by omega⟩
  have hj : j < N.length := by omega
  obtain ⟨⟨f, l, hh⟩, e⟩ : ∃ q, N[j]? = some q := ⟨N[j], by simp [hj]⟩
  refine ⟨f, l, hh, j, rfl, e, ?_⟩
  unfold flagOf
  rw [if_neg (by omega), Nat.add_sub_cancel, e]
  rfl
theorem first_flag_spec (hS : Ok m S o a b c N K P) (hn : 5000 ≤ n) (i j k : Nat) (hi : i < N.length + 2) (hj : j < N.length + 2) (hk : k < N.length + 2) (h2 : 2 ≤ i) :
    ∃ S' f, evC G n (d + 1) 46 [.ref o, .tup [.int i, .int j, .int k]] S = .ok (.int (f : Nat)) S' ∧ Grow S S' ∧ (∀ x ∈ [i, j, k], ∀ f', flagOf N x = some f' → f ≤ f') ∧ ∃ x ∈ [i, j, k], flagOf N x = some f := by
  obtain ⟨L, hL⟩ : ∃ L, L = ([i, j, k].filterMap (flagOf N)) := ⟨_, rfl⟩
  have hne : L ≠ [] := by
    obtain ⟨f, l, hh, q, e1, e2, e3⟩ := flagOf_some h2 hi
    intro z
    have : f ∈ L := by rw [hL]; exact List.mem_filterMap.mpr ⟨i, by simp, e3⟩
    rw [z] at this
    cases this
  obtain ⟨x, hx⟩ := minInts_some (L.map fun f : Nat => (f : Int)) (by simpa using hne)
  obtain ⟨m1, m2⟩ := minInts_le _ x hx
  obtain ⟨f, hf, rfl⟩ := List.mem_map.mp m2
  have turn : ∀ y ∈ [D.int (i : Nat), .int (j : Nat), .int (k : Nat)], ∀ q, turnE G n (evC G n d) (evP G n d).2 (.sub (.sub (.attr (.var 0) 2) (.var 2)) (.con (.int 0))) (.var 2) (.cons (.cmp .gt (.var 2) (.con (.int 1))) .nil) [2] [some (.ref o), some (.tup [.int i, .int j, .int k]), none] y (S ++ [q]) = .ok ((fun y => match y with | .int z => ffD N z.toNat | _ => none) y) (S ++ [q]) := by
    intro y hy q
    obtain ⟨z, rfl, hz⟩ : ∃ z : Nat, y = .int z ∧ z < N.length + 2 := by
      simp at hy
      rcases hy with hy | hy | hy
      · exact ⟨i, hy, hi⟩
      · exact ⟨j, hy, hj⟩
      · exact ⟨k, hy, hk⟩
    by_cases c : 2 ≤ z
    · obtain ⟨f, l, hh, w, rfl, e2, e3⟩ := flagOf_some c hz
      have ha : (S ++ [q])[a]? = some (.lst (nodesD N)) := by rw [List.getElem?_append_left (List.getElem?_eq_some_iff.mp hS.nds).1]; exact hS.nds
      have sg := node_get ha e2
      have c1 : cmpop .gt (.int ((w + 2 : Nat) : Int)) (.int 1) (S ++ [q]) = .ok (.bl true) (S ++ [q]) := by simp [cmpop]; omega
      have tn : ((w + 2 : Nat) : Int).toNat = w + 2 := by omega
      simp only [tn, ffD, e3]
      obtain ⟨V, hV⟩ : ∃ V, V = D.int ((w + 2 : Nat) : Int) := ⟨_, rfl⟩
      rw [← hV] at sg c1 ⊢
      simp [turnE, wipeD, c1, getattr_nodes hS, sg, nodeD]
      simp [subscr]
    · have c1 : cmpop .gt (.int (z : Int)) (.int 1) (S ++ [q]) = .ok (.bl false) (S ++ [q]) := by simp [cmpop]; omega
      have e3 : flagOf N z = none := by unfold flagOf; rw [if_pos (by omega)]
      have tn : (z : Int).toNat = z := by omega
      simp only [tn, ffD, e3]
      simp [turnE, wipeD, c1]
  have lc := comp_pure (n := n) (S0 := S) (fun y => match y with | .int z => ffD N z.toNat | _ => none) hn (by simp) turn
  have em : [D.int (i : Nat), .int (j : Nat), .int (k : Nat)].filterMap (fun y => match y with | .int z => ffD N z.toNat | _ => none) = (L.map fun f : Nat => (f : Int)).map D.int := by
    rw [hL]
    have g : ∀ z : Nat, (match D.int (z : Nat) with | .int z => ffD N z.toNat | _ => none) = (flagOf N z).map fun f => D.int (f : Nat) := fun z => by
      simp [ffD]
    simp only [List.filterMap_cons, List.filterMap_nil, g]
    cases flagOf N i <;> cases flagOf N j <;> cases flagOf N k <;> simp
  rw [em] at lc
  refine ⟨S ++ [.lst ((L.map fun f : Nat => (f : Int)).map D.int)], f, ?_, Grow.snoc _ _, fun x hx f' e => ?_, ?_⟩
  · rw [evC_open fn46 rfl]
    have e2 : (S ++ [Ob.lst ((L.map fun f : Nat => (f : Int)).map D.int)])[S.length]? = some (.lst ((L.map fun f : Nat => (f : Int)).map D.int)) := by simp
    have e3 : builtin .min [.ref S.length] (S ++ [Ob.lst ((L.map fun f : Nat => (f : Int)).map D.int)]) = .ok (.int (f : Nat)) (S ++ [Ob.lst ((L.map fun f : Nat => (f : Int)).map D.int)]) := by
      simp only [builtin, e2, intsOf_map, hx]
    obtain ⟨S2, hS2⟩ : ∃ S2, S2 = S ++ [Ob.lst ((L.map fun f : Nat => (f : Int)).map D.int)] := ⟨_, rfl⟩
    rw [← hS2] at lc e3 ⊢
    simp [c_Diagrams_first_flag, startD, walkOf, lc, e3]
  · have : f' ∈ L := by rw [hL]; exact List.mem_filterMap.mpr ⟨x, hx, e⟩
    have := m1 _ (List.mem_map.mpr ⟨f', this, rfl⟩)
    omega
  · rw [hL] at hf
    obtain ⟨x, h1, h2⟩ := List.mem_filterMap.mp hf
    exact ⟨x, h1, h2⟩
end
end K74
end

section
set_option autoImplicit false
set_option linter.all false
set_option maxHeartbeats 4000000
set_option maxRecDepth 10000
/-! K74d5: one turn of chosen's loop. -/
namespace K74
open Pv Dia Lc
open PySem (Str)
open L2 (Key)
abbrev Tri := Nat × Nat × Nat
def tripD (q : Tri) : D := .tup [.int q.1, .int q.2.1, .int q.2.2]
def keyT (q : Tri) : List Key := key3 q.1 q.2.1 q.2.2
theorem tkey_trip (q : Tri) : tkeyOf (tripD q) = some (keyT q) := rfl
/-- the loop's body -/
def chBody : C := match c_Diagrams_chosen with
  | .cons _ (.cons (.whl _ b) _) => b
  | _ => .nil
def chSlots (o w : Nat) (x y z : D) (s5 s6 s7 s8 s9 s10 s11 s12 : Option D) : Sl := [some (.ref o), some x, some y, some z, some (.ref w), s5, s6, s7, s8, s9, s10, s11, s12]
section
variable {G : Prog} [LibD G] {n d m : Nat} {S : Sto} {o a b c w : Nat} {N : Nds} {K P : List (List Key × D)}
theorem fn36 : G.fn 36 = some ⟨4, 13, c_Diagrams_chosen⟩ := LibD.fn 36 (by decide)
theorem ms16 : G.meth 3 16 = some 46 := LibD.meth (3, 16, 46) (by decide)
theorem ms15 : G.meth 3 15 = some 45 := LibD.meth (3, 15, 45) (by decide)
theorem ms14 : G.meth 3 14 = some 44 := LibD.meth (3, 14, 44) (by decide)
theorem ms13 : G.meth 3 13 = some 40 := LibD.meth (3, 13, 40) (by decide)
/-- the loop's head: the stack stands at w -/
structure Hd (m : Nat) (σ : Sl) (S : Sto) (o a b c w : Nat) (x y z : D) (N : Nds) (K P : List (List Key × D)) (stk : List Tri) : Prop where
  ok : Ok m S o a b c N K P
  wt : S[w]? = some (.lst (stk.map tripD))
  ne : w ≠ o ∧ w ≠ a ∧ w ≠ b ∧ w ≠ c
  sl : ∃ s5 s6 s7 s8 s9 s10 s11 s12, σ = chSlots o w x y z s5 s6 s7 s8 s9 s10 s11 s12
theorem getAt_last (xs : List D) (y : D) : getAt (xs ++ [y]) (-1) = some y := by
  unfold getAt L2.atI L2.ixN
  rw [if_neg (by omega), if_pos (by simp; omega)]
  have e : (-1 + ((xs ++ [y]).length : Int)).toNat = xs.length := by simp; omega
  show (some (-1 + ((xs ++ [y]).length : Int)).toNat).bind _ = _
  rw [e]
  simp
theorem Ok.setW (h : Ok m S o a b c N K P) (ne : w ≠ o ∧ w ≠ a ∧ w ≠ b ∧ w ≠ c) (ob : Ob) : Ok m (S.set w ob) o a b c N K P :=
  ⟨by rw [List.getElem?_set_ne ne.1]; exact h.ins, by rw [List.getElem?_set_ne ne.2.1]; exact h.nds, by rw [List.getElem?_set_ne ne.2.2.1]; exact h.kn, by rw [List.getElem?_set_ne ne.2.2.2]; exact h.kp, h.ap, h.kno, h.kep, h.kl, h.knf, h.kpf⟩
theorem Ok.grow (h : Ok m S o a b c N K P) {S' : Sto} (g : Grow S S') : Ok m S' o a b c N K P := ⟨g.at h.ins, g.at h.nds, g.at h.kn, g.at h.kp, h.ap, h.kno, h.kep, h.kl, h.knf, h.kpf⟩
/-- known: the top goes -/
theorem turn_known {σ : Sl} {x y z : D} {stk : List Tri} {q : Tri} (h : Hd m σ S o a b c w x y z N K P (stk ++ [q])) (hk : Dia.settled q.1 q.2.1 q.2.2 ≠ none ∨ lookA (keyT q) P ≠ none) :
    ∃ σ' S', evB G n (evC G n (d + 3)) (evP G n (d + 3)).2 chBody σ S = .nx σ' S' ∧ Hd m σ' S' o a b c w x y z N K P stk ∧ Chg [w] S S' := by
  obtain ⟨hok, hw, ne, s5, s6, s7, s8, s9, s10, s11, s12, rfl⟩ := h
  have hwl := (List.getElem?_eq_some_iff.mp hw).1
  rw [List.map_append, List.map_cons, List.map_nil] at hw
  have g1 : subscr (.ref w) (.int (-1)) S = .ok (tripD q) S := by simp only [subscr, hw, getAt_last]
  have g2 : bmRecv .pop (.ref w) S = true := by simp [bmRecv, hw]
  obtain ⟨S', hS'⟩ : ∃ S', S' = S.set w (.lst (stk.map tripD)) := ⟨_, rfl⟩
  have g3 : bmethod .pop (.ref w) [] S = .ok (tripD q) S' := by
    simp only [bmethod, hw]
    have : (List.map tripD stk ++ [tripD q])[(List.map tripD stk ++ [tripD q]).length - 1]? = some (tripD q) := by simp
    simp [hS']
  have hd : Hd m (chSlots o w x y z (some (tripD q)) (some (optI (Dia.settled q.1 q.2.1 q.2.2))) s7 s8 s9 s10 s11 s12) S' o a b c w x y z N K P stk := by
    rw [hS']
    exact ⟨hok.setW ne _, List.getElem?_set_self hwl, ne, _, _, _, _, _, _, _, _, rfl⟩
  refine ⟨_, S', ?_, hd, by rw [hS']; exact Chg.set _ (by simp)⟩
  obtain ⟨q1, q2, q3⟩ := q
  simp only at hk
  have kt : tkeyOf (tripD (q1, q2, q3)) = some (keyT (q1, q2, q3)) := rfl
  cases e : Dia.settled q1 q2 q3 with
  | some r =>
    obtain ⟨tp, htp⟩ : ∃ tp, tp = tripD (q1, q2, q3) := ⟨_, rfl⟩
    have c1 : ∀ S, cmpop .isN (.int (r : Nat)) .non S = .ok (.bl false) S := fun S => rfl
    have htp' : tp = .tup [.int (q1 : Nat), .int (q2 : Nat), .int (q3 : Nat)] := htp
    rw [← htp] at g1 g3
    have g1' := g1
    rw [htp'] at g1'
    simp [chBody, c_Diagrams_chosen, chSlots, g1', hok.ins, ms17, lookA, settled_spec, e, optI, c1, g2, g3]
    rfl
  | none =>
    obtain ⟨tp, htp⟩ : ∃ tp, tp = tripD (q1, q2, q3) := ⟨_, rfl⟩
    have c1 : ∀ S, cmpop .isN .non .non S = .ok (.bl true) S := fun S => rfl
    have hk : lookA (keyT (q1, q2, q3)) P ≠ none := by
      rcases hk with hk | hk
      · exact absurd e hk
      · exact hk
    have htp' : tp = .tup [.int (q1 : Nat), .int (q2 : Nat), .int (q3 : Nat)] := htp
    have c2 : cmpop .notin tp (.ref c) S = .ok (.bl false) S := by
      have z : (lookA (keyT (q1, q2, q3)) P).isSome = true := by
        cases h : lookA (keyT (q1, q2, q3)) P with
        | none => exact absurd h hk
        | some _ => rfl
      rw [htp]
      simp [cmpop, isIn, hok.kp, kt, z]
    rw [← htp] at g1 g3
    have g1' := g1
    rw [htp'] at g1' c2
    simp [chBody, c_Diagrams_chosen, chSlots, g1', hok.ins, ms17, lookA, settled_spec, e, optI, c1, hok.kept, c2, g2, g3]
    rfl
end
end K74
end

section
set_option autoImplicit false
set_option linter.all false
set_option maxHeartbeats 4000000
set_option maxRecDepth 10000
/-! K74d6: a turn of chosen's loop at an unknown triple. -/
namespace K74
open Pv Dia Lc
open PySem (Str)
open L2 (Key)
def partT (N : Nds) (f : Nat) (b : Bool) (q : Tri) : Tri := (part N f b q.1, part N f b q.2.1, part N f b q.2.2)
section
variable {G : Prog} [LibD G] {n d m : Nat} {S : Sto} {o a b c w : Nat} {N : Nds} {K P : List (List Key × D)}
def eltP (i : Int) : C := .sub (.meth (.var 0) 15 (.cons (.var 9) (.cons (.var 7) .nil))) (.con (.int i))
theorem sub_01 (x y : D) (b : Bool) : subscr (.tup [x, y]) (.int (if b = true then 1 else 0)) S = .ok (if b = true then y else x) S := by
  cases b <;> simp [subscr]
theorem comp_parts3 (hok : Ok m S o a b c N K P) (hn : 5000 ≤ n) {q : Tri} (h1 : q.1 < N.length + 2) (h2 : q.2.1 < N.length + 2) (h3 : q.2.2 < N.length + 2) (bb : Bool) (f : Nat) (x y z tp u : D) (s8 s9 s10 s11 s12 : Option D) :
    loopC (.fix [.int q.1, .int q.2.1, .int q.2.2]) S.length (turnE G n (evC G n (d + 3)) (evP G n (d + 3)).2 (eltP (if bb = true then 1 else 0)) (.var 9) .nil [9] [some (.ref o), some x, some y, some z, some (.ref w), some tp, some u, some (.int (f : Nat)), s8, s9, s10, s11, s12]) n 0 (S ++ [.lst []]) =
      .ok (.ref S.length) (S ++ [.lst [.int (part N f bb q.1 : Nat), .int (part N f bb q.2.1 : Nat), .int (part N f bb q.2.2 : Nat)]]) := by
  have lc := comp_pure (n := n) (S0 := S) (xs := [.int q.1, .int q.2.1, .int q.2.2]) (turn := turnE G n (evC G n (d + 3)) (evP G n (d + 3)).2 (eltP (if bb = true then 1 else 0)) (.var 9) .nil [9] [some (.ref o), some x, some y, some z, some (.ref w), some tp, some u, some (.int (f : Nat)), s8, s9, s10, s11, s12]) (fun y => match y with | .int z => some (.int (part N f bb z.toNat : Nat)) | _ => none) hn (by simp) ?_
  · rw [lc]
    simp
  · intro v hv ob
    obtain ⟨i, rfl, hi⟩ : ∃ i : Nat, v = .int i ∧ i < N.length + 2 := by
      simp at hv
      rcases hv with hv | hv | hv
      · exact ⟨q.1, hv, h1⟩
      · exact ⟨q.2.1, hv, h2⟩
      · exact ⟨q.2.2, hv, h3⟩
    have hok' : Ok m (S ++ [ob]) o a b c N K P := hok.grow (Grow.snoc S ob)
    have ps := parts_spec (G := G) (n := n) (d := d + 2) hok' i f hi
    have sb := sub_01 (S := S ++ [ob]) (.int (part N f false i : Nat)) (.int (part N f true i : Nat)) bb
    have tn : ((i : Nat) : Int).toNat = i := by omega
    obtain ⟨V, hV⟩ : ∃ V, V = D.int (if bb = true then 1 else 0) := ⟨_, rfl⟩
    simp only [tn, eltP]
    rw [← hV] at sb ⊢
    simp [turnE, wipeD, hok'.ins, ms15, lookA, ps, sb]
    cases bb <;> rfl
theorem builtin_tuple {l : Nat} {xs : List D} (e : S[l]? = some (.lst xs)) : builtin .tuple [.ref l] S = .ok (.tup xs) S := by
  simp [builtin, e]
/-- which of the two parts are not known -/
def leftL (P : List (List Key × D)) (l h : Tri) : List Tri := [l, h].filter fun t => match choiceD P t.1 t.2.1 t.2.2 with
  | .non => true
  | _ => false
theorem comp_left (hok : Ok m S o a b c N K P) (hn : 5000 ≤ n) (l h : Tri) (hl : ∃ r, choiceD P l.1 l.2.1 l.2.2 = optI r) (hh : ∃ r, choiceD P h.1 h.2.1 h.2.2 = optI r) (x y z tp u v : D) (s8 s9 s10 s11 s12 : Option D) :
    loopC (.fix [tripD l, tripD h]) S.length (turnE G n (evC G n (d + 3)) (evP G n (d + 3)).2 (.var 12) (.var 12) (.cons (.cmp .isN (.meth (.var 0) 14 (.cons (.var 12) .nil)) (.con .non)) .nil) [12] [some (.ref o), some x, some y, some z, some (.ref w), some tp, some u, some v, s8, s9, s10, s11, s12]) n 0 (S ++ [.lst []]) =
      .ok (.ref S.length) (S ++ [.lst ((leftL P l h).map tripD)]) := by
  have lc := comp_pure (n := n) (S0 := S) (xs := [tripD l, tripD h]) (turn := turnE G n (evC G n (d + 3)) (evP G n (d + 3)).2 (.var 12) (.var 12) (.cons (.cmp .isN (.meth (.var 0) 14 (.cons (.var 12) .nil)) (.con .non)) .nil) [12] [some (.ref o), some x, some y, some z, some (.ref w), some tp, some u, some v, s8, s9, s10, s11, s12])
    (fun y => match y with | .tup [.int i, .int j, .int k] => (match choiceD P i.toNat j.toNat k.toNat with | .non => some y | _ => none) | _ => none) hn (by simp) ?_
  · rw [lc]
    obtain ⟨l1, l2, l3⟩ := l
    obtain ⟨h1, h2, h3⟩ := h
    have tn : ∀ i : Nat, ((i : Nat) : Int).toNat = i := fun i => by omega
    obtain ⟨r1, e1⟩ := hl
    obtain ⟨r2, e2⟩ := hh
    simp only at e1 e2
    cases r1 <;> cases r2 <;> simp [leftL, tripD, e1, e2, optI, List.filter, List.filterMap]
  · intro t ht ob
    obtain ⟨q, rfl, hq⟩ : ∃ q : Tri, t = tripD q ∧ ∃ r, choiceD P q.1 q.2.1 q.2.2 = optI r := by
      simp at ht
      rcases ht with ht | ht
      · exact ⟨l, ht, hl⟩
      · exact ⟨h, ht, hh⟩
    have hok' : Ok m (S ++ [ob]) o a b c N K P := hok.grow (Grow.snoc S ob)
    have kc := known_choice_spec (G := G) (n := n) (d := d + 1) hok' q.1 q.2.1 q.2.2
    obtain ⟨r, e⟩ := hq
    rw [e] at kc
    have tn : ∀ i : Nat, ((i : Nat) : Int).toNat = i := fun i => by omega
    cases r with
    | none =>
      have c1 : ∀ S, cmpop .isN .non .non S = .ok (.bl true) S := fun S => rfl
      simp only [tripD, tn, e, optI] at kc ⊢
      simp [turnE, wipeD, hok'.ins, ms14, lookA, kc, c1]
    | some r =>
      have c1 : ∀ S, cmpop .isN (.int (r : Nat)) .non S = .ok (.bl false) S := fun S => rfl
      simp only [tripD, tn, e, optI] at kc ⊢
      simp [turnE, wipeD, hok'.ins, ms14, lookA, kc, c1]
end
end K74
end

section
set_option autoImplicit false
set_option linter.all false
set_option maxHeartbeats 8000000
set_option maxRecDepth 10000
/-! K74d7: a turn of chosen's loop at an unknown triple, whole. -/
namespace K74
open Pv Dia Lc
open PySem (Str)
open L2 (Key)
section
variable {G : Prog} [LibD G] {n d m : Nat} {S : Sto} {o a b c w : Nat} {N : Nds} {K P : List (List Key × D)}
theorem choice_optI (hok : Ok m S o a b c N K P) (i j k : Nat) : ∃ r, choiceD P i j k = optI r := by
  unfold choiceD
  cases e : Dia.settled i j k with
  | some r => exact ⟨some r, rfl⟩
  | none =>
    cases e2 : lookA (key3 i j k) P with
    | none => exact ⟨none, rfl⟩
    | some v =>
      obtain ⟨x, y, z, r, _, h2, _⟩ := hok.kep _ _ e2
      exact ⟨some r, h2⟩
/-- f is the first flag of the triple -/
def FF (N : Nds) (q : Tri) (f : Nat) : Prop := (∀ x ∈ [q.1, q.2.1, q.2.2], ∀ f', flagOf N x = some f' → f ≤ f') ∧ ∃ x ∈ [q.1, q.2.1, q.2.2], flagOf N x = some f
theorem turn_unknown {σ : Sl} {x y z : D} {stk : List Tri} {q : Tri} (h : Hd m σ S o a b c w x y z N K P (stk ++ [q])) (hn : 5000 ≤ n) (h1 : q.1 < N.length + 2) (h2 : q.2.1 < N.length + 2) (h3 : q.2.2 < N.length + 2)
    (hs : Dia.settled q.1 q.2.1 q.2.2 = none) (hk : lookA (keyT q) P = none) (hst : stk.length ≤ 500000) (hP : P.length ≤ 500000) (hN : N.length < 190000) :
    ∃ f, FF N q f ∧ (leftL P (partT N f false q) (partT N f true q) ≠ [] → ∃ σ' S', evB G n (evC G n (d + 3)) (evP G n (d + 3)).2 chBody σ S = .ct σ' S' ∧ Hd m σ' S' o a b c w x y z N K P (stk ++ [q] ++ leftL P (partT N f false q) (partT N f true q)) ∧ Chg [w] S S') ∧
      ∀ (rl rh : Nat) (gl gh : Fun), leftL P (partT N f false q) (partT N f true q) = [] → choiceD P (partT N f false q).1 (partT N f false q).2.1 (partT N f false q).2.2 = .int rl → choiceD P (partT N f true q).1 (partT N f true q).2.1 (partT N f true q).2.2 = .int rh →
        f < m → Den m N rl gl (f + 1) → Den m N rh gh (f + 1) →
        (∀ (j : Nat) (gx gy gz : Fun) (t : Nat), Den j N q.1 gx t → Den j N q.2.1 gy t → Den j N q.2.2 gz t → t ≤ f ∧ f < j ∧ ∃ gl gh, Den j N rl gl (f + 1) ∧ Den j N rh gh (f + 1) ∧ ite3 gx gy gz = fun x => if x f = true then gh x else gl x) →
        ∃ σ' S' xx K' r, evB G n (evC G n (d + 3)) (evP G n (d + 3)).2 chBody σ S = .nx σ' S' ∧ Hd m σ' S' o a b c w x y z (N ++ xx) K' (P ++ [(keyT q, .int (r : Nat))]) stk ∧ Chg [w, a, b, c] S S' ∧ xx.length ≤ 1 ∧ Den m (N ++ xx) r (fun x => if x f = true then gh x else gl x) f := by
  have sz := szl2
  obtain ⟨hok, hw, ne, s5, s6, s7, s8, s9, s10, s11, s12, rfl⟩ := h
  have hwl := (List.getElem?_eq_some_iff.mp hw).1
  rw [List.map_append, List.map_cons, List.map_nil] at hw
  have g1 : subscr (.ref w) (.int (-1)) S = .ok (tripD q) S := by simp only [subscr, hw, getAt_last]
  have q2 : 2 ≤ q.1 := by
    unfold Dia.settled at hs
    by_cases z : q.1 < 2
    · rw [if_pos z] at hs; cases hs
    · omega
  obtain ⟨S1, f, ff, gr1, ff1, ff2⟩ := first_flag_spec (G := G) (n := n) (d := d + 2) hok hn q.1 q.2.1 q.2.2 h1 h2 h3 q2
  refine ⟨f, ⟨ff1, ff2⟩, ?_⟩
  obtain ⟨tp, htp⟩ : ∃ tp, tp = tripD q := ⟨_, rfl⟩
  have ok1 := hok.grow gr1
  obtain ⟨lo, hlo⟩ : ∃ lo, lo = partT N f false q := ⟨_, rfl⟩
  obtain ⟨hi, hhi⟩ : ∃ hi, hi = partT N f true q := ⟨_, rfl⟩
  have cl := comp_parts3 (G := G) (n := n) (d := d) (w := w) ok1 hn (q := q) h1 h2 h3 false f x y z tp .non s8 s9 s10 s11 s12
  obtain ⟨S2, hS2⟩ : ∃ S2, S2 = S1 ++ [Ob.lst [.int (part N f false q.1 : Nat), .int (part N f false q.2.1 : Nat), .int (part N f false q.2.2 : Nat)]] := ⟨_, rfl⟩
  rw [← hS2] at cl
  have gr2 : Grow S1 S2 := by rw [hS2]; exact Grow.snoc _ _
  have ok2 := ok1.grow gr2
  have tl : builtin .tuple [.ref S1.length] S2 = .ok (tripD lo) S2 := by
    rw [builtin_tuple (xs := [.int (part N f false q.1 : Nat), .int (part N f false q.2.1 : Nat), .int (part N f false q.2.2 : Nat)]) (by rw [hS2]; simp), hlo]
    rfl
  have ch := comp_parts3 (G := G) (n := n) (d := d) (w := w) ok2 hn (q := q) h1 h2 h3 true f x y z tp .non (some (tripD lo)) s9 s10 s11 s12
  obtain ⟨S3, hS3⟩ : ∃ S3, S3 = S2 ++ [Ob.lst [.int (part N f true q.1 : Nat), .int (part N f true q.2.1 : Nat), .int (part N f true q.2.2 : Nat)]] := ⟨_, rfl⟩
  rw [← hS3] at ch
  have gr3 : Grow S2 S3 := by rw [hS3]; exact Grow.snoc _ _
  have ok3 := ok2.grow gr3
  have th : builtin .tuple [.ref S2.length] S3 = .ok (tripD hi) S3 := by
    rw [builtin_tuple (xs := [.int (part N f true q.1 : Nat), .int (part N f true q.2.1 : Nat), .int (part N f true q.2.2 : Nat)]) (by rw [hS3]; simp), hhi]
    rfl
  have ce := comp_left (G := G) (n := n) (d := d) (w := w) ok3 hn lo hi (choice_optI hok _ _ _) (choice_optI hok _ _ _) x y z tp .non (.int (f : Nat)) (some (tripD lo)) s9 (some (tripD hi)) s11 s12
  obtain ⟨S4, hS4⟩ : ∃ S4, S4 = S3 ++ [Ob.lst ((leftL P lo hi).map tripD)] := ⟨_, rfl⟩
  rw [← hS4] at ce
  have gr4 : Grow S3 S4 := by rw [hS4]; exact Grow.snoc _ _
  have ok4 := ok3.grow gr4
  have gr : Grow S S4 := ((gr1.trans gr2).trans gr3).trans gr4
  have hw4 := gr.at hw
  have hl4 : S4[S3.length]? = some (.lst ((leftL P lo hi).map tripD)) := by rw [hS4]; simp
  have c0 : ∀ S, cmpop .isN .non .non S = .ok (.bl true) S := fun S => rfl
  have c2 : cmpop .notin tp (.ref c) S = .ok (.bl true) S := by
    rw [htp]
    simp [cmpop, isIn, hok.kp, tkey_trip, hk]
  have tr4 : truth S4 (.ref S3.length) = some (!((leftL P lo hi).map tripD).isEmpty) := by simp [truth, hl4]
  have nt2 : newTup [tripD lo, tripD hi] S3 = .ok (.tup [tripD lo, tripD hi]) S3 := tup2 _ _
  have htq : tripD q = .tup [.int (q.1 : Nat), .int (q.2.1 : Nat), .int (q.2.2 : Nat)] := rfl
  have tpq : tp = .tup [.int (q.1 : Nat), .int (q.2.1 : Nat), .int (q.2.2 : Nat)] := htp
  have st := settled_spec (G := G) (n := n) (d := d + 2) (S := S) (.ref o) q.1 q.2.1 q.2.2
  rw [hs] at st
  simp only [optI] at st
  rw [← htp] at g1
  rw [← hlo, ← hhi]
  rw [← tpq] at ff
  have wk : walkOf tp S1 = .ok (.fix [.int (q.1 : Nat), .int (q.2.1 : Nat), .int (q.2.2 : Nat)]) S1 := by rw [tpq]; rfl
  have wk2 : walkOf tp S2 = .ok (.fix [.int (q.1 : Nat), .int (q.2.1 : Nat), .int (q.2.2 : Nat)]) S2 := by rw [tpq]; rfl
  rw [tpq] at g1 c2 wk wk2 cl ch ce
  rw [tpq] at ff
  simp only [eltP, if_true, Bool.false_eq_true, if_false] at cl ch
  refine ⟨fun hne => ?_, fun rl rh gl gh hle hrl hrh hfm dl dh hxx => ?_⟩
  · have e1 : (!((leftL P lo hi).map tripD).isEmpty) = true := by
      cases hq : leftL P lo hi with
      | nil => exact absurd hq hne
      | cons _ _ => rfl
    rw [e1] at tr4
    have b1 : bmRecv .extend (.ref w) S4 = true := by simp [bmRecv, hw4]
    obtain ⟨S5, hS5⟩ : ∃ S5, S5 = S4.set w (.lst (stk.map tripD ++ [tripD q] ++ (leftL P lo hi).map tripD)) := ⟨_, rfl⟩
    have ll : (leftL P lo hi).length ≤ 2 := by unfold leftL; exact Nat.le_trans (List.length_filter_le _ _) (by simp)
    have b2 : bmethod .extend (.ref w) [.ref S3.length] S4 = .ok .non S5 := by
      simp only [bmethod, hw4, hl4]
      rw [if_pos (by simp; omega), hS5]
    refine ⟨chSlots o w x y z (some (.tup [.int (q.1 : Nat), .int (q.2.1 : Nat), .int (q.2.2 : Nat)])) (some .non) (some (.int (f : Nat))) (some (tripD lo)) s9 (some (tripD hi)) (some (.ref S3.length)) s12, S5, ?_, ⟨?_, ?_, ne, _, _, _, _, _, _, _, _, rfl⟩, ?_⟩
    · simp [chBody, c_Diagrams_chosen, chSlots, g1, hok.ins, ms17, lookA, st, c0, hok.kept, c2, ms16, ff, wk, cl, tl, wk2, ch, th, nt2, walkOf, ce, tr4, b1, b2]
    · rw [hS5]; exact ok4.setW ne _
    · rw [hS5, List.getElem?_set_self (by have := (List.getElem?_eq_some_iff.mp hw4).1; exact this)]
      simp
    · exact (Chg.of gr).trans (by rw [hS5]; exact Chg.set _ (by simp))
  · have e1 : (!((leftL P lo hi).map tripD).isEmpty) = false := by
      rw [hle]
      rfl
    rw [e1] at tr4
    have k1 := known_choice_spec (G := G) (n := n) (d := d + 1) ok4 lo.1 lo.2.1 lo.2.2
    have k2 := known_choice_spec (G := G) (n := n) (d := d + 1) ok4 hi.1 hi.2.1 hi.2.2
    rw [hrl] at k1
    rw [hrh] at k2
    obtain ⟨S5, xx, K', r, ep, ok5, ch5, hx, dr⟩ := put_spec (G := G) (n := n) (d := d + 2) ok4 dl dh hfm hN
    have hw5 : S5[w]? = some (.lst (stk.map tripD ++ [tripD q])) := ch5.at (by simp; exact ⟨ne.2.1, ne.2.2.1⟩) hw4
    obtain ⟨S6, hS6⟩ : ∃ S6, S6 = S5.set c (.dT (P ++ [(keyT q, D.int (r : Nat))])) := ⟨_, rfl⟩
    have hpt : putA (keyT q) (D.int (r : Nat)) P = P ++ [(keyT q, D.int (r : Nat))] := by
      unfold putA
      rw [hasA_look, hk]
      simp
    have si : setitem (.ref c) (.tup [.int (q.1 : Nat), .int (q.2.1 : Nat), .int (q.2.2 : Nat)]) (.int (r : Nat)) S5 = some S6 := by
      have kt : tkeyOf (.tup [.int (q.1 : Nat), .int (q.2.1 : Nat), .int (q.2.2 : Nat)]) = some (keyT q) := rfl
      have z : P.length < PySem.sizeLine := by omega
      simp only [setitem, ok5.kp, kt, if_pos z, hpt, hS6]
    have hw6 : S6[w]? = some (.lst (stk.map tripD ++ [tripD q])) := by rw [hS6, List.getElem?_set_ne (Ne.symm ne.2.2.2)]; exact hw5
    have b1 : bmRecv .pop (.ref w) S6 = true := by simp [bmRecv, hw6]
    obtain ⟨S7, hS7⟩ : ∃ S7, S7 = S6.set w (.lst (stk.map tripD)) := ⟨_, rfl⟩
    have b2 : bmethod .pop (.ref w) [] S6 = .ok (tripD q) S7 := by
      simp only [bmethod, hw6]
      have : (List.map tripD stk ++ [tripD q])[(List.map tripD stk ++ [tripD q]).length - 1]? = some (tripD q) := by simp
      simp [hS7]
    have kp5 : getattr G (.ref o) 5 S5 = .ok (.ref c) S5 := ok5.kept
    obtain ⟨p1, p2, p3, p4, p5, p6⟩ := ok5.ap
    have ok6 : Ok m S6 o a b c (N ++ xx) K' (P ++ [(keyT q, D.int (r : Nat))]) := by
      rw [hS6]
      refine ⟨by rw [List.getElem?_set_ne (Ne.symm p3)]; exact ok5.ins, by rw [List.getElem?_set_ne (Ne.symm p5)]; exact ok5.nds, by rw [List.getElem?_set_ne (Ne.symm p6)]; exact ok5.kn, List.getElem?_set_self (List.getElem?_eq_some_iff.mp ok5.kp).1, ok5.ap, ok5.kno, fun k v e => ?_, ok5.kl, ok5.knf, fun q' hq => (List.mem_append.mp hq).elim (ok5.kpf q') fun h => ⟨r, by rw [List.mem_singleton.mp h]⟩⟩
      rw [lookA_app] at e
      cases e2 : lookA k P with
      | some v2 =>
        rw [e2] at e
        have e : v2 = v := Option.some.inj e
        subst e
        exact ok5.kep k v2 e2
      | none =>
        rw [e2] at e
        by_cases z : keyT q = k
        · simp only [if_pos z] at e
          have e : D.int (r : Nat) = v := Option.some.inj e
          refine ⟨q.1, q.2.1, q.2.2, r, z.symm, e.symm, by simp; omega, by simp; omega, by simp; omega, fun j gx gy gz t d1 d2 d3 => ?_⟩
          obtain ⟨ht, hf, gl', gh', e1', e2', he⟩ := hxx j gx gy gz t (d1.back h1) (d2.back h2) (d3.back h3)
          rw [he]
          exact (dr j gl' gh' e1' e2' hf).low ht
        · simp only [if_neg z] at e; cases e
    refine ⟨chSlots o w x y z (some (.tup [.int (q.1 : Nat), .int (q.2.1 : Nat), .int (q.2.2 : Nat)])) (some .non) (some (.int (f : Nat))) (some (tripD lo)) s9 (some (tripD hi)) (some (.ref S3.length)) s12, S7, xx, K', r, ?_, ⟨?_, ?_, ne, _, _, _, _, _, _, _, _, rfl⟩, ?_, hx, dr m gl gh dl dh hfm⟩
    · have k1' : evC G n (d + 3) 44 [.ref o, tripD lo] S4 = .ok (.int (rl : Nat)) S4 := k1
      have k2' : evC G n (d + 3) 44 [.ref o, tripD hi] S4 = .ok (.int (rh : Nat)) S4 := k2
      simp [chBody, c_Diagrams_chosen, chSlots, g1, hok.ins, ok4.ins, ms17, lookA, st, c0, hok.kept, c2, ms16, ff, wk, cl, tl, wk2, ch, th, nt2, walkOf, ce, tr4, ms13, ms14, k1', k2', ep, kp5, si, b1, b2]
    · rw [hS7]; exact ok6.setW ne _
    · rw [hS7, List.getElem?_set_self (List.getElem?_eq_some_iff.mp hw6).1]
    · refine ((Chg.of gr).trans (ch5.mono (by simp))).trans ?_
      rw [hS7, hS6]
      exact (Chg.set _ (by simp)).trans (Chg.set _ (by simp))
end
end K74
end

section
set_option autoImplicit false
set_option linter.all false
set_option maxHeartbeats 4000000
set_option maxRecDepth 10000
/-! K74d8: chosen. -/
namespace K74
open Pv Dia Lc
open PySem (Str)
open L2 (Key)
section
variable {G : Prog} [LibD G] {n d m : Nat} {S : Sto} {o a b c w : Nat} {N : Nds} {K P : List (List Key × D)}
/-- chosen's loop -/
def chLoop (G : Prog) (n d : Nat) : Nat → Sl → Sto → F := loopW (evT G n (evC G n (d + 3)) (evP G n (d + 3)).2 (.var 4)) (evB G n (evC G n (d + 3)) (evP G n (d + 3)).2 chBody)
/-- so many turns lead from here to there -/
def Runs (G : Prog) (n d k : Nat) (σ : Sl) (S : Sto) (σ' : Sl) (S' : Sto) : Prop := ∀ w, chLoop G n d (w + k) σ S = chLoop G n d w σ' S'
theorem Runs.trans {k k' : Nat} {σ σ1 σ2 : Sl} {S1 S2 : Sto} (h : Runs G n d k σ S σ1 S1) (h2 : Runs G n d k' σ1 S1 σ2 S2) : Runs G n d (k + k') σ S σ2 S2 := fun w => by
  rw [show w + (k + k') = (w + k') + k by omega, h, h2]
theorem Runs.one {σ σ' : Sl} {S' : Sto} {x y z : D} {stk : List Tri} {q : Tri} (h : Hd m σ S o a b c w x y z N K P (stk ++ [q])) (hb : evB G n (evC G n (d + 3)) (evP G n (d + 3)).2 chBody σ S = .nx σ' S' ∨ evB G n (evC G n (d + 3)) (evP G n (d + 3)).2 chBody σ S = .ct σ' S') : Runs G n d 1 σ S σ' S' := fun v => by
  have ht : evT G n (evC G n (d + 3)) (evP G n (d + 3)).2 (.var 4) σ S = .ok true S := by
    obtain ⟨hok, hw, ne, s5, s6, s7, s8, s9, s10, s11, s12, rfl⟩ := h
    have : truth S (.ref w) = some true := by
      simp only [truth, hw]
      simp
    simp [chSlots, this]
  show loopW _ _ (v + 1) σ S = _
  unfold loopW
  rw [ht]
  rcases hb with hb | hb <;> simp only [hb] <;> rfl
theorem FF.uniq {N' : Nds} {q : Tri} {f f' : Nat} (h : FF N q f) (h' : FF N' q f') (e : ∀ x ∈ [q.1, q.2.1, q.2.2], flagOf N x = flagOf N' x) : f = f' := by
  obtain ⟨a1, x, hx, e1⟩ := h
  obtain ⟨b1, y, hy, e2⟩ := h'
  have l1 := b1 x hx f (by rw [← e x hx]; exact e1)
  have l2 := a1 y hy f' (by rw [e y hy]; exact e2)
  omega
theorem flagOf_grow {x : Nat} (xx : Nds) (h : x < N.length + 2) : flagOf (N ++ xx) x = flagOf N x := by
  unfold flagOf
  by_cases c : x < 2
  · rw [if_pos c, if_pos c]
  · rw [if_neg c, if_neg c, List.getElem?_append_left (by omega)]
theorem part_grow {x f : Nat} {bb : Bool} (xx : Nds) (h : x < N.length + 2) : part (N ++ xx) f bb x = part N f bb x := by
  unfold part
  by_cases c : x < 2
  · rw [if_pos c, if_pos c]
  · rw [if_neg c, if_neg c, List.getElem?_append_left (by omega)]
theorem Den.flag_ge {i : Nat} {g : Fun} {t : Nat} (h : Dia.Den m N i g t) {f : Nat} (e : flagOf N i = some f) : t ≤ f ∧ f < m := by
  cases h with
  | zero => cases e
  | one => cases e
  | node i f2 lo hi t gl gh e1 h1 h2 h3 h4 d1 d2 =>
    unfold flagOf at e
    rw [if_neg (by omega), Nat.add_sub_cancel, e1] at e
    cases e
    exact ⟨h1, h2⟩
end
end K74
end

section
set_option autoImplicit false
set_option linter.all false
set_option maxHeartbeats 4000000
set_option maxRecDepth 10000
/-! K74d9: chosen's loop takes a triple off the stack. -/
namespace K74
open Pv Dia Lc
open PySem (Str)
open L2 (Key)
section
variable {G : Prog} [LibD G] {n d m : Nat} {o a b c w : Nat} {x y z : D}
def Tri3 (m : Nat) (N : Nds) (q : Tri) (gx gy gz : Fun) (t : Nat) : Prop := Dia.Den m N q.1 gx t ∧ Dia.Den m N q.2.1 gy t ∧ Dia.Den m N q.2.2 gz t
/-- what a triple's end is -/
def Done (G : Prog) (n d m o a b c w : Nat) (x y z : D) (B : Nat) (q : Tri) (g : Fun) (t : Nat) (stk : List Tri) (σ : Sl) (S : Sto) (N : Nds) (P : List (List Key × D)) : Prop :=
  ∃ k σ' S' xx K' P', k ≤ B ∧ Runs G n d k σ S σ' S' ∧ Hd m σ' S' o a b c w x y z (N ++ xx) K' P' stk ∧ Chg [w, a, b, c] S S' ∧ xx.length ≤ B ∧ P'.length ≤ P.length + B ∧ (∀ k v, lookA k P = some v → lookA k P' = some v) ∧
    ∃ r : Nat, choiceD P' q.1 q.2.1 q.2.2 = .int r ∧ Dia.Den m (N ++ xx) r g t
theorem choice_keep {P P' : List (List Key × D)} (h : ∀ k v, lookA k P = some v → lookA k P' = some v) {i j k : Nat} {r : Nat} (e : choiceD P i j k = .int r) : choiceD P' i j k = .int r := by
  unfold choiceD at e ⊢
  cases e1 : Dia.settled i j k with
  | some r2 => rw [e1] at e; exact e
  | none =>
    rw [e1] at e
    cases e2 : lookA (key3 i j k) P with
    | none => rw [e2] at e; cases e
    | some v =>
      rw [e2] at e
      simp only [h _ _ e2]
      exact e
theorem choice_den {j : Nat} {S : Sto} {N : Nds} {K P : List (List Key × D)} (hok : Ok m S o a b c N K P) {q : Tri} {gx gy gz : Fun} {t r : Nat} (T : Tri3 j N q gx gy gz t) (e : choiceD P q.1 q.2.1 q.2.2 = .int r) : Dia.Den j N r (ite3 gx gy gz) t := by
  unfold choiceD at e
  cases e1 : Dia.settled q.1 q.2.1 q.2.2 with
  | some r2 =>
    rw [e1] at e
    have e : ((r2 : Nat) : Int) = r := by simpa using e
    have : r2 = r := by omega
    subst this
    exact settled_ok T.1 T.2.1 T.2.2 e1
  | none =>
    rw [e1] at e
    cases e2 : lookA (key3 q.1 q.2.1 q.2.2) P with
    | none => rw [e2] at e; cases e
    | some v =>
      rw [e2] at e
      obtain ⟨i, j', k, r2, f1, f2, f3, f4, f5, f6⟩ := hok.kep _ _ e2
      obtain ⟨k1, k2, k3⟩ := key3_inj f1
      subst f2
      have e : ((r2 : Nat) : Int) = r := by simpa using e
      have : r2 = r := by omega
      subst this
      exact f6 j gx gy gz t (k1 ▸ T.1) (k2 ▸ T.2.1) (k3 ▸ T.2.2)
theorem known_or {S : Sto} {N : Nds} {K P : List (List Key × D)} (hok : Ok m S o a b c N K P) (q : Tri) : (∃ r : Nat, choiceD P q.1 q.2.1 q.2.2 = .int r ∧ (Dia.settled q.1 q.2.1 q.2.2 ≠ none ∨ lookA (keyT q) P ≠ none)) ∨ (choiceD P q.1 q.2.1 q.2.2 = .non ∧ Dia.settled q.1 q.2.1 q.2.2 = none ∧ lookA (keyT q) P = none) := by
  unfold choiceD
  cases e1 : Dia.settled q.1 q.2.1 q.2.2 with
  | some r => exact .inl ⟨r, rfl, .inl (by simp)⟩
  | none =>
    cases e2 : lookA (keyT q) P with
    | none =>
      have e3 : lookA (key3 q.1 q.2.1 q.2.2) P = none := e2
      rw [e3]
      exact .inr ⟨rfl, rfl, rfl⟩
    | some v =>
      have e3 : lookA (key3 q.1 q.2.1 q.2.2) P = some v := e2
      obtain ⟨i, j, k, r, _, f2, _⟩ := hok.kep _ _ e3
      rw [e3]
      exact .inl ⟨r, f2, .inr (by simp)⟩
/-- the parts of a triple -/
theorem tri_parts {N : Nds} {q : Tri} {gx gy gz : Fun} {t f : Nat} (T : Tri3 m N q gx gy gz t) (hf : FF N q f) : t ≤ f ∧ f < m ∧ ∃ al bl cl ah bh ch, Tri3 m N (partT N f false q) al bl cl (f + 1) ∧ Tri3 m N (partT N f true q) ah bh ch (f + 1) ∧ ite3 gx gy gz = fun v => if v f = true then ite3 ah bh ch v else ite3 al bl cl v := by
  obtain ⟨h1, x, hx, e⟩ := hf
  have hb : t ≤ f ∧ f < m := by
    simp at hx
    rcases hx with hx | hx | hx <;> subst hx
    · exact Den.flag_ge T.1 e
    · exact Den.flag_ge T.2.1 e
    · exact Den.flag_ge T.2.2 e
  obtain ⟨al, ah, a1, a2, a3⟩ := T.1.part (f := f) fun f' e => h1 q.1 (by simp) f' e
  obtain ⟨bl, bh, b1, b2, b3⟩ := T.2.1.part (f := f) fun f' e => h1 q.2.1 (by simp) f' e
  obtain ⟨cl, ch, c1, c2, c3⟩ := T.2.2.part (f := f) fun f' e => h1 q.2.2 (by simp) f' e
  refine ⟨hb.1, hb.2, al, bl, cl, ah, bh, ch, ⟨a1, b1, c1⟩, ⟨a2, b2, c2⟩, ?_⟩
  subst a3; subst b3; subst c3
  exact ite3_parts
theorem left_nil {P : List (List Key × D)} {l h : Tri} {rl rh : Nat} (el : choiceD P l.1 l.2.1 l.2.2 = .int rl) (eh : choiceD P h.1 h.2.1 h.2.2 = .int rh) : leftL P l h = [] := by
  simp [leftL, el, eh]
/-- the last turn: the parts are known -/
theorem fin_turn {σ : Sl} {S : Sto} {N : Nds} {K P : List (List Key × D)} {stk : List Tri} {q : Tri} {gx gy gz : Fun} {t f : Nat} (hn : 5000 ≤ n) (h : Hd m σ S o a b c w x y z N K P (stk ++ [q])) (T : Tri3 m N q gx gy gz t) (hf : FF N q f) {rl rh : Nat}
    (el : choiceD P (partT N f false q).1 (partT N f false q).2.1 (partT N f false q).2.2 = .int rl) (eh : choiceD P (partT N f true q).1 (partT N f true q).2.1 (partT N f true q).2.2 = .int rh)
    (hst : stk.length ≤ 500000) (hP : P.length ≤ 500000) (hN : N.length < 190000) : Done G n d m o a b c w x y z 1 q (ite3 gx gy gz) t stk σ S N P := by
  obtain ⟨b1, b2, al, bl, cl, ah, bh, ch, TL, TH, hi⟩ := tri_parts T hf
  rcases known_or h.ok q with ⟨r, e, hk⟩ | ⟨e, hs, hk⟩
  · obtain ⟨σ', S', eb, hd, hc⟩ := turn_known (G := G) (n := n) (d := d) h hk
    exact ⟨1, σ', S', [], K, P, Nat.le_refl _, Runs.one h (.inl eb), by rw [List.append_nil]; exact hd, hc.mono (by simp), by simp, by omega, fun _ _ z => z, r, e, by rw [List.append_nil]; exact choice_den h.ok T e⟩
  · obtain ⟨f', ff, _, k2⟩ := turn_unknown (G := G) (n := n) (d := d) h hn T.1.lt T.2.1.lt T.2.2.lt hs hk hst hP hN
    have := FF.uniq hf ff fun _ _ => rfl
    subst this
    obtain ⟨σ', S', xx, K', r, eb, hd, hc, hx, dr⟩ := k2 rl rh _ _ (left_nil el eh) el eh b2 (choice_den h.ok TL el) (choice_den h.ok TH eh) fun j gx' gy' gz' t' d1 d2 d3 => by
      obtain ⟨w1, w2, al', bl', cl', ah', bh', ch', TL', TH', hi'⟩ := tri_parts (m := j) ⟨d1, d2, d3⟩ hf
      exact ⟨w1, w2, _, _, choice_den h.ok TL' el, choice_den h.ok TH' eh, hi'⟩
    refine ⟨1, σ', S', xx, K', _, Nat.le_refl _, Runs.one h (.inl eb), hd, hc, hx, by simp, fun k v e2 => ?_, r, ?_, ?_⟩
    · rw [lookA_app, e2]
    · unfold choiceD
      rw [hs]
      have : lookA (key3 q.1 q.2.1 q.2.2) (P ++ [(keyT q, D.int (r : Nat))]) = some (.int (r : Nat)) := by
        rw [lookA_app]
        have : lookA (key3 q.1 q.2.1 q.2.2) P = none := hk
        rw [this]
        simp [keyT]
      simp [this]
    · rw [hi]; exact dr.low b1
end
end K74
end

section
set_option autoImplicit false
set_option linter.all false
set_option maxHeartbeats 4000000
set_option maxRecDepth 10000
/-! K74da: chosen's loop, whole. -/
namespace K74
open Pv Dia Lc
open PySem (Str)
open L2 (Key)
section
variable {G : Prog} [LibD G] {n d m : Nat} {o a b c w : Nat} {x y z : D}
theorem Done.then {B B2 : Nat} {q1 q : Tri} {g1 g : Fun} {t1 t : Nat} {stk1 stk : List Tri} {σ : Sl} {S : Sto} {N : Nds} {P : List (List Key × D)} (h : Done G n d m o a b c w x y z B q1 g1 t1 stk1 σ S N P)
    (k : ∀ σ' S' xx K' P', Hd m σ' S' o a b c w x y z (N ++ xx) K' P' stk1 → xx.length ≤ B → P'.length ≤ P.length + B → (∀ k v, lookA k P = some v → lookA k P' = some v) → (∃ r : Nat, choiceD P' q1.1 q1.2.1 q1.2.2 = .int r) → Done G n d m o a b c w x y z B2 q g t stk σ' S' (N ++ xx) P') : Done G n d m o a b c w x y z (B + B2) q g t stk σ S N P := by
  obtain ⟨k1, σ1, S1, xx, K1, P1, e1, e2, e3, e4, e5, e6, e7, r, e8, e9⟩ := h
  obtain ⟨k2, σ2, S2, xx2, K2, P2, f1, f2, f3, f4, f5, f6, f7, f8⟩ := k σ1 S1 xx K1 P1 e3 e5 e6 e7 ⟨r, e8⟩
  rw [List.append_assoc] at f3 f8
  exact ⟨k1 + k2, σ2, S2, xx ++ xx2, K2, P2, by omega, e2.trans f2, f3, e4.trans f4, by rw [List.length_append]; omega, by omega, fun k v h => f7 k v (e7 k v h), f8⟩
theorem Done.mono {B B' : Nat} {q : Tri} {g : Fun} {t : Nat} {stk : List Tri} {σ : Sl} {S : Sto} {N : Nds} {P : List (List Key × D)} (h : Done G n d m o a b c w x y z B q g t stk σ S N P) (hB : B ≤ B') : Done G n d m o a b c w x y z B' q g t stk σ S N P := by
  obtain ⟨k1, σ1, S1, xx, K1, P1, e1, e2, e3, e4, e5, e6, e7⟩ := h
  exact ⟨k1, σ1, S1, xx, K1, P1, by omega, e2, e3, e4, by omega, by omega, e7⟩
/-- one turn that leaves the diagrams as they are, then the rest -/
theorem Done.step {B : Nat} {q : Tri} {g : Fun} {t : Nat} {stk : List Tri} {σ σ1 : Sl} {S S1 : Sto} {N : Nds} {P : List (List Key × D)} (e2 : Runs G n d 1 σ S σ1 S1) (e4 : Chg [w] S S1) (h : Done G n d m o a b c w x y z B q g t stk σ1 S1 N P) : Done G n d m o a b c w x y z (B + 1) q g t stk σ S N P := by
  obtain ⟨k2, σ2, S2, xx2, K2, P2, f1, f2, f3, f4, f5, f6, f7, f8⟩ := h
  exact ⟨1 + k2, σ2, S2, xx2, K2, P2, by omega, e2.trans f2, f3, (e4.mono (by simp)).trans f4, by omega, by omega, f7, f8⟩
theorem Tri3.grow {N : Nds} {q : Tri} {gx gy gz : Fun} {t : Nat} (T : Tri3 m N q gx gy gz t) (l : Nds) : Tri3 m (N ++ l) q gx gy gz t := ⟨T.1.grow l, T.2.1.grow l, T.2.2.grow l⟩
theorem process (hn : 5000 ≤ n) : ∀ (lev t : Nat) (q : Tri) (stk : List Tri) (σ : Sl) (S : Sto) (N : Nds) (K P : List (List Key × D)) (gx gy gz : Fun), Hd m σ S o a b c w x y z N K P (stk ++ [q]) → Tri3 m N q gx gy gz t → m - t ≤ lev → stk.length + 3 * lev ≤ 400000 →
    P.length + 3 * 2 ^ lev ≤ 400000 → N.length + 3 * 2 ^ lev < 190000 → Done G n d m o a b c w x y z (3 * 2 ^ lev - 2) q (ite3 gx gy gz) t stk σ S N P := by
  intro lev
  induction lev with
  | zero =>
    intro t q stk σ S N K P gx gy gz h T hl hst hP hN
    rcases known_or h.ok q with ⟨r, e, hk⟩ | ⟨e, hs, hk⟩
    · obtain ⟨σ', S', eb, hd, hc⟩ := turn_known (G := G) (n := n) (d := d) h hk
      exact ⟨1, σ', S', [], K, P, by simp, Runs.one h (.inl eb), by rw [List.append_nil]; exact hd, hc.mono (by simp), by simp, by omega, fun _ _ z => z, r, e, by rw [List.append_nil]; exact choice_den h.ok T e⟩
    · obtain ⟨f, ff, _⟩ := turn_unknown (G := G) (n := n) (d := d) h hn T.1.lt T.2.1.lt T.2.2.lt hs hk (by omega) (by omega) (by omega)
      obtain ⟨b1, b2, _⟩ := tri_parts T ff
      omega
  | succ lev ih =>
    intro t q stk σ S N K P gx gy gz h T hl hst hP hN
    have hp : 2 ^ (lev + 1) = 2 * 2 ^ lev := by rw [Nat.pow_succ]; omega
    have hp0 : 1 ≤ 2 ^ lev := Nat.one_le_two_pow
    rw [hp] at hP hN ⊢
    obtain ⟨u, hu⟩ : ∃ u, u = 2 ^ lev := ⟨_, rfl⟩
    rw [← hu] at hP hN hp0 ih ⊢
    rcases known_or h.ok q with ⟨r, e, hk⟩ | ⟨e, hs, hk⟩
    · obtain ⟨σ', S', eb, hd, hc⟩ := turn_known (G := G) (n := n) (d := d) h hk
      exact ⟨1, σ', S', [], K, P, by omega, Runs.one h (.inl eb), by rw [List.append_nil]; exact hd, hc.mono (by simp), by simp, by omega, fun _ _ z => z, r, e, by rw [List.append_nil]; exact choice_den h.ok T e⟩
    · obtain ⟨f, ff, k1, _⟩ := turn_unknown (G := G) (n := n) (d := d) h hn T.1.lt T.2.1.lt T.2.2.lt hs hk (by omega) (by omega) (by omega)
      obtain ⟨b1, b2, al, bl, cl, ah, bh, ch, TL, TH, _⟩ := tri_parts T ff
      -- the end, wherever the diagrams have grown to
      have fin : ∀ (σ' : Sl) (S' : Sto) (xx : Nds) (K' P' : List (List Key × D)), Hd m σ' S' o a b c w x y z (N ++ xx) K' P' (stk ++ [q]) → xx.length ≤ 6 * u - 4 → P'.length ≤ P.length + (6 * u - 4) →
          (∃ r : Nat, choiceD P' (partT N f false q).1 (partT N f false q).2.1 (partT N f false q).2.2 = .int r) → (∃ r : Nat, choiceD P' (partT N f true q).1 (partT N f true q).2.1 (partT N f true q).2.2 = .int r) → Done G n d m o a b c w x y z 1 q (ite3 gx gy gz) t stk σ' S' (N ++ xx) P' := by
        intro σ' S' xx K' P' hd l1 l2 ⟨rl, el⟩ ⟨rh, eh⟩
        have pt : ∀ bb, partT (N ++ xx) f bb q = partT N f bb q := fun bb => by
          unfold partT
          rw [part_grow xx T.1.lt, part_grow xx T.2.1.lt, part_grow xx T.2.2.lt]
        have ff' : FF (N ++ xx) q f := by
          obtain ⟨p1, v, hv, p2⟩ := ff
          have fg : ∀ v ∈ [q.1, q.2.1, q.2.2], flagOf (N ++ xx) v = flagOf N v := fun v hv => by
            simp at hv
            rcases hv with hv | hv | hv <;> subst hv
            · exact flagOf_grow xx T.1.lt
            · exact flagOf_grow xx T.2.1.lt
            · exact flagOf_grow xx T.2.2.lt
          exact ⟨fun v hv f' e => p1 v hv f' (by rw [← fg v hv]; exact e), v, hv, by rw [fg v hv]; exact p2⟩
        exact fin_turn hn hd (T.grow xx) ff' (rl := rl) (rh := rh) (by rw [pt]; exact el) (by rw [pt]; exact eh) (by omega) (by omega) (by rw [List.length_append]; omega)
      obtain ⟨lo, hlo⟩ : ∃ lo, lo = partT N f false q := ⟨_, rfl⟩
      obtain ⟨hi, hhi⟩ : ∃ hi, hi = partT N f true q := ⟨_, rfl⟩
      rw [← hlo] at TL fin k1
      rw [← hhi] at TH fin k1
      rcases known_or h.ok lo with ⟨rl, el, _⟩ | ⟨el, _, _⟩ <;> rcases known_or h.ok hi with ⟨rh, eh, _⟩ | ⟨eh, _, _⟩
      · have z := fin σ S [] K P (by rw [List.append_nil]; exact h) (by simp) (by omega) ⟨rl, el⟩ ⟨rh, eh⟩
        rw [List.append_nil] at z
        exact z.mono (by omega)
      · have hL : leftL P lo hi = [hi] := by simp [leftL, el, eh]
        rw [hL] at k1
        obtain ⟨σ1, S1, eb, hd1, hc1⟩ := k1 (by simp)
        refine (Done.step (Runs.one h (.inr eb)) hc1 ((ih (f + 1) hi (stk ++ [q]) σ1 S1 N K P _ _ _ hd1 TH (by omega) (by simp; omega) (by omega) (by omega)).then (B2 := 1) fun σ2 S2 xx K2 P2 hd2 l1 l2 kp ⟨r2, er2⟩ => ?_)).mono (by omega)
        exact fin σ2 S2 xx K2 P2 hd2 (by omega) (by omega) ⟨rl, choice_keep kp el⟩ ⟨r2, er2⟩
      · have hL : leftL P lo hi = [lo] := by simp [leftL, el, eh]
        rw [hL] at k1
        obtain ⟨σ1, S1, eb, hd1, hc1⟩ := k1 (by simp)
        refine (Done.step (Runs.one h (.inr eb)) hc1 ((ih (f + 1) lo (stk ++ [q]) σ1 S1 N K P _ _ _ hd1 TL (by omega) (by simp; omega) (by omega) (by omega)).then (B2 := 1) fun σ2 S2 xx K2 P2 hd2 l1 l2 kp ⟨r2, er2⟩ => ?_)).mono (by omega)
        exact fin σ2 S2 xx K2 P2 hd2 (by omega) (by omega) ⟨r2, er2⟩ ⟨rh, choice_keep kp eh⟩
      · have hL : leftL P lo hi = [lo, hi] := by simp [leftL, el, eh]
        rw [hL] at k1
        obtain ⟨σ1, S1, eb, hd1, hc1⟩ := k1 (by simp)
        have hd1' : Hd m σ1 S1 o a b c w x y z N K P ((stk ++ [q] ++ [lo]) ++ [hi]) := by
          have e : (stk ++ [q] ++ [lo]) ++ [hi] = stk ++ [q] ++ [lo, hi] := by simp
          rw [e]; exact hd1
        refine (Done.step (Runs.one h (.inr eb)) hc1 ((ih (f + 1) hi (stk ++ [q] ++ [lo]) σ1 S1 N K P _ _ _ hd1' TH (by omega) (by simp; omega) (by omega) (by omega)).then (B2 := (3 * u - 2) + 1) fun σ2 S2 xx K2 P2 hd2 l1 l2 kp ⟨r2, er2⟩ => ?_)).mono (by omega)
        refine (ih (f + 1) lo (stk ++ [q]) σ2 S2 (N ++ xx) K2 P2 _ _ _ hd2 (TL.grow xx) (by omega) (by simp; omega) (by omega) (by rw [List.length_append]; omega)).then (B2 := 1) fun σ3 S3 xx3 K3 P3 hd3 l3 l4 kp3 ⟨r3, er3⟩ => ?_
        rw [List.append_assoc] at hd3 ⊢
        exact fin σ3 S3 (xx ++ xx3) K3 P3 hd3 (by rw [List.length_append]; omega) (by omega) ⟨r3, er3⟩ ⟨r2, choice_keep kp3 er2⟩
end
end K74
end

section
set_option autoImplicit false
set_option linter.all false
set_option maxHeartbeats 4000000
set_option maxRecDepth 10000
/-! K74db: chosen. -/
namespace K74
open Pv Dia Lc
open PySem (Str)
open L2 (Key)
section
variable {G : Prog} [LibD G] {n d m : Nat} {S : Sto} {o a b c : Nat} {N : Nds} {K P : List (List Key × D)}
/-- a call that has kept the diagrams well -/
def Kept (m : Nat) (S S' : Sto) (o a b c : Nat) (N : Nds) (P : List (List Key × D)) (B : Nat) (Q : Nds → Prop) : Prop :=
  ∃ xx K' P', Ok m S' o a b c (N ++ xx) K' P' ∧ Chg [a, b, c] S S' ∧ xx.length ≤ B ∧ P'.length ≤ P.length + B ∧ Q (N ++ xx)
theorem chosen_spec (hS : Ok m S o a b c N K P) (hn : 5000 ≤ n) (hm : m ≤ 7) {i j k : Nat} {gx gy gz : Fun} {t : Nat} (T : Tri3 m N (i, j, k) gx gy gz t) (hP : P.length ≤ 300000) (hN : N.length ≤ 180000) :
    ∃ S' r, evC G n (d + 4) 36 [.ref o, .int i, .int j, .int k] S = .ok (.int (r : Nat)) S' ∧ Kept m S S' o a b c N P 400 fun N' => Dia.Den m N' r (ite3 gx gy gz) t := by
  have sz := szl2
  have lv : 3 * 2 ^ m ≤ 384 := by
    have : 2 ^ m ≤ 2 ^ 7 := Nat.pow_le_pow_right (by omega) hm
    omega
  obtain ⟨S1, hS1⟩ : ∃ S1, S1 = S ++ [Ob.lst [tripD (i, j, k)]] := ⟨_, rfl⟩
  have gr : Grow S S1 := by rw [hS1]; exact Grow.snoc _ _
  have ok1 := hS.grow gr
  have lt : ∀ {v : Nat} {ob : Ob}, S[v]? = some ob → S.length ≠ v := fun {v ob} e => by
    have := (List.getElem?_eq_some_iff.mp e).1
    omega
  have hd : Hd m (chSlots o S.length (.int (i : Nat)) (.int (j : Nat)) (.int (k : Nat)) none none none none none none none none) S1 o a b c S.length (.int (i : Nat)) (.int (j : Nat)) (.int (k : Nat)) N K P ([] ++ [(i, j, k)]) :=
    ⟨ok1, by rw [hS1]; simp, ⟨lt hS.ins, lt hS.nds, lt hS.kn, lt hS.kp⟩, _, _, _, _, _, _, _, _, rfl⟩
  obtain ⟨kk, σ', S', xx, K', P', e1, e2, e3, e4, e5, e6, e7, r, e8, e9⟩ := process (G := G) (n := n) (d := d) hn m t (i, j, k) [] _ S1 N K P gx gy gz hd T (by omega) (by simp; omega) (by omega) (by omega)
  have hw := e3.wt
  obtain ⟨s5, s6, s7, s8, s9, s10, s11, s12, rfl⟩ := e3.sl
  have lp : chLoop G n d n (chSlots o S.length (.int (i : Nat)) (.int (j : Nat)) (.int (k : Nat)) none none none none none none none none) S1 = .nx (chSlots o S.length (.int (i : Nat)) (.int (j : Nat)) (.int (k : Nat)) s5 s6 s7 s8 s9 s10 s11 s12) S' := by
    obtain ⟨v, hv⟩ : ∃ v, n = (v + 1) + kk := ⟨n - kk - 1, by omega⟩
    have e2 := e2 (v + 1)
    rw [← hv] at e2
    rw [e2]
    have ht : truth S' (.ref S.length) = some false := by
      simp only [truth, hw]
      rfl
    show loopW _ _ (v + 1) _ _ = _
    unfold loopW
    have : evT G n (evC G n (d + 3)) (evP G n (d + 3)).2 (.var 4) (chSlots o S.length (.int (i : Nat)) (.int (j : Nat)) (.int (k : Nat)) s5 s6 s7 s8 s9 s10 s11 s12) S' = .ok false S' := by simp [chSlots, ht]
    rw [this]
  refine ⟨S', r, ?_, xx, K', P', e3.ok, ?_, by omega, by omega, e9⟩
  · have kc := known_choice_spec (G := G) (n := n) (d := d + 1) e3.ok i j k
    have e8 : choiceD P' i j k = .int (r : Nat) := e8
    rw [e8] at kc
    have t3 : ∀ S, newTup [.int (i : Nat), .int (j : Nat), .int (k : Nat)] S = .ok (.tup [.int (i : Nat), .int (j : Nat), .int (k : Nat)]) S := fun S => tup3 _ _ _
    have nl : newLst [.tup [.int (i : Nat), .int (j : Nat), .int (k : Nat)]] S = .ok (.ref S.length) S1 := by
      unfold newLst alloc
      rw [if_pos (by simp; omega), hS1]
      rfl
    rw [evC_open fn36 rfl]
    simp only [chLoop, chSlots, chBody, c_Diagrams_chosen] at lp
    have ins' := e3.ok.ins
    simp [c_Diagrams_chosen, startD, t3, nl, lp, ins', ms14, lookA, kc]
  · refine ⟨Nat.le_trans gr.len e4.1, fun v hv hvm => ?_⟩
    obtain ⟨ob, ho⟩ : ∃ ob, S[v]? = some ob := ⟨S[v], by simp [hv]⟩
    have h1 := gr.at ho
    rw [ho, ← h1]
    refine e4.2 v (List.getElem?_eq_some_iff.mp h1).1 ?_
    simp at hvm ⊢
    exact ⟨by omega, hvm⟩
end
end K74
end

section
set_option autoImplicit false
set_option linter.all false
set_option maxHeartbeats 4000000
set_option maxRecDepth 10000
/-! K74e1: flag, turned, every. -/
namespace K74
open Pv Dia Lc
open PySem (Str)
open L2 (Key)
section
variable {G : Prog} [LibD G] {n d m : Nat} {S : Sto} {o a b c : Nat} {N : Nds} {K P : List (List Key × D)}
theorem fn38 : G.fn 38 = some ⟨2, 2, c_Diagrams_turned⟩ := LibD.fn 38 (by decide)
theorem fn31 : G.fn 31 = some ⟨2, 2, c_Diagrams_flag⟩ := LibD.fn 31 (by decide)
theorem ms9 : G.meth 3 9 = some 36 := LibD.meth (3, 9, 36) (by decide)
theorem turned_spec (hS : Ok m S o a b c N K P) (hn : 5000 ≤ n) (hm : m ≤ 7) {i : Nat} {g : Fun} {t : Nat} (T : Dia.Den m N i g t) (hP : P.length ≤ 300000) (hN : N.length ≤ 180000) :
    ∃ S' r, evC G n (d + 5) 38 [.ref o, .int i] S = .ok (.int (r : Nat)) S' ∧ Kept m S S' o a b c N P 400 fun N' => Dia.Den m N' r (fun x => !g x) t := by
  obtain ⟨S', r, e, k⟩ := chosen_spec (G := G) (n := n) (d := d) (i := i) (j := 0) (k := 1) hS hn hm ⟨T, .zero t, .one t⟩ hP hN
  refine ⟨S', r, ?_, ?_⟩
  · rw [evC_open fn38 rfl]
    have e : evC G n (d + 4) 36 [.ref o, .int i, .int 0, .int 1] S = .ok (.int (r : Nat)) S' := e
    simp [c_Diagrams_turned, startD, hS.ins, ms9, lookA, e]
  · obtain ⟨xx, K', P', k1, k2, k3, k4, k5⟩ := k
    refine ⟨xx, K', P', k1, k2, k3, k4, ?_⟩
    have : ite3 g (fun _ => false) (fun _ => true) = fun x => !g x := by funext x; unfold ite3; cases g x <;> rfl
    rw [this] at k5
    exact k5
theorem flag_spec (hS : Ok m S o a b c N K P) {f : Nat} (hf : f < m) (hN : N.length < 190000) :
    ∃ S' x K' r, evC G n (d + 2) 31 [.ref o, .int f] S = .ok (.int (r : Nat)) S' ∧ Ok m S' o a b c (N ++ x) K' P ∧ Chg [a, b] S S' ∧ x.length ≤ 1 ∧ Dia.Den m (N ++ x) r (fun x => x f) f := by
  obtain ⟨S', x, K', r, e, k1, k2, k3, k4⟩ := put_spec (G := G) (n := n) (d := d) (l := 0) (h := 1) hS (.zero _) (.one _) hf hN
  refine ⟨S', x, K', r, ?_, k1, k2, k3, ?_⟩
  · rw [evC_open fn31 rfl]
    have e : evC G n (d + 1) 40 [.ref o, .int f, .int 0, .int 1] S = .ok (.int (r : Nat)) S' := e
    simp [c_Diagrams_flag, startD, hS.ins, ms13, lookA, e]
  · have : (fun x : Nat → Bool => if x f = true then true else false) = fun x => x f := by funext x; cases x f <;> rfl
    rw [← this]
    exact k4 m _ _ (.zero _) (.one _) hf
theorem fn39 : G.fn 39 = some ⟨2, 4, c_Diagrams_every⟩ := LibD.fn 39 (by decide)
/-- each number stands for its function -/
def DenAll (m : Nat) (N : Nds) (t : Nat) (is : List Nat) (gs : List Fun) : Prop := is.length = gs.length ∧ ∀ (k i : Nat) (g : Fun), is[k]? = some i → gs[k]? = some g → Dia.Den m N i g t
theorem DenAll.grow {t : Nat} {is : List Nat} {gs : List Fun} (h : DenAll m N t is gs) (l : Nds) : DenAll m (N ++ l) t is gs := ⟨h.1, fun k i g e1 e2 => (h.2 k i g e1 e2).grow l⟩
theorem every_spec (hS : Ok m S o a b c N K P) (hn : 5000 ≤ n) (hm : m ≤ 7) {l : Nat} {is : List Nat} {gs : List Fun} {t : Nat} (hl : S[l]? = some (.lst (is.map fun i => D.int (i : Nat)))) (hne : l ∉ [a, b, c]) (T : DenAll m N t is gs) (h10 : is.length ≤ 10)
    (hP : P.length ≤ 290000) (hN : N.length ≤ 170000) :
    ∃ S' r, evC G n (d + 5) 39 [.ref o, .ref l] S = .ok (.int (r : Nat)) S' ∧ Kept m S S' o a b c N P 4000 fun N' => Dia.Den m N' r (fun x => gs.all fun g => g x) t := by
  obtain ⟨σ', S', e, h⟩ := loopF_lst (n := l) (xs := is.map fun i => D.int (i : Nat)) (body := turnF G n (evC G n (d + 4)) (evP G n (d + 4)).2 (.var 3) (.cons (.asg (.var 2) (.meth (.var 0) 9 (.cons (.var 2) (.cons (.var 3) (.cons (.con (.int 0)) .nil))))) .nil))
    (fun k σ S' => ∃ (r : Nat) (s3 : Option D), σ = [some (.ref o), some (.ref l), some (.int (r : Nat)), s3] ∧ Kept m S S' o a b c N P (400 * k) fun N' => Dia.Den m N' r (fun x => (gs.take k).all fun g => g x) t)
    (w := n) (σ := [some (.ref o), some (.ref l), some (.int (1 : Nat)), none]) (S := S) (by simp; omega)
    ⟨1, none, rfl, [], K, P, by rw [List.append_nil]; exact hS, Chg.refl _ _, by simp, by simp, .one t⟩
    (fun k σ S' ⟨r, s3, _, xx, K', P', _, hc, _⟩ => hc.at hne hl)
    (fun k v σ S1 hv ⟨r, s3, hσ, xx, K', P', k1, k2, k3, k4, k5⟩ => by
      subst hσ
      rw [List.getElem?_map] at hv
      cases ei : is[k]? with
      | none => rw [ei] at hv; cases hv
      | some i =>
        rw [ei] at hv
        have hv : D.int (i : Nat) = v := Option.some.inj hv
        subst hv
        have hk : k < is.length := (List.getElem?_eq_some_iff.mp ei).1
        have hk2 : k < gs.length := by rw [← T.1]; exact hk
        obtain ⟨g, eg⟩ : ∃ g, gs[k]? = some g := ⟨gs[k], by simp [hk2]⟩
        obtain ⟨S2, r2, e2, yy, K2, P2, q1, q2, q3, q4, q5⟩ := chosen_spec (G := G) (n := n) (d := d) (i := r) (j := i) (k := 0) k1 hn hm ⟨k5, (T.2 k i g ei eg).grow xx, .zero t⟩ (by omega) (by rw [List.length_append]; omega)
        have e2 : evC G n (d + 4) 36 [.ref o, .int r, .int i, .int 0] S1 = .ok (.int (r2 : Nat)) S2 := e2
        refine ⟨[some (.ref o), some (.ref l), some (.int (r2 : Nat)), some (.int (i : Nat))], S2, .inl ?_, r2, _, rfl, xx ++ yy, K2, P2, by rw [← List.append_assoc]; exact q1, k2.trans q2, by rw [List.length_append]; omega, by omega, ?_⟩
        · simp [turnF, k1.ins, ms9, lookA, e2]
        · rw [← List.append_assoc]
          have : ite3 (fun x => (gs.take k).all fun g => g x) g (fun _ => false) = fun x => (gs.take (k + 1)).all fun g => g x := by
            funext x
            show (if (gs.take k).all (fun g => g x) = true then g x else false) = _
            rw [List.take_succ, eg, List.all_append]
            generalize (gs.take k).all (fun g => g x) = A
            cases A <;> simp
          rw [← this]
          exact q5)
  obtain ⟨r, s3, hσ, xx, K', P', k1, k2, k3, k4, k5⟩ := h
  subst hσ
  rw [List.length_map] at k3 k4 k5
  rw [T.1, List.take_length] at k5
  refine ⟨S', r, ?_, xx, K', P', k1, k2, by omega, by omega, k5⟩
  rw [evC_open fn39 rfl]
  have e : loopF (.lst l) (turnF G n (evC G n (d + 4)) (evP G n (d + 4)).2 (.var 3) (.cons (.asg (.var 2) (.meth (.var 0) 9 (.cons (.var 2) (.cons (.var 3) (.cons (.con (.int 0)) .nil))))) .nil)) n 0 [some (.ref o), some (.ref l), some (.int 1), none] S = _ := e
  have wl : walkOf (.ref l) S = .ok (.lst l) S := by simp [walkOf, hl]
  simp [c_Diagrams_every, startD, wl, e]
end
end K74
end

section
set_option autoImplicit false
set_option linter.all false
set_option maxHeartbeats 4000000
set_option maxRecDepth 10000
/-! K74e2: refs, gates. -/
namespace K74
open Pv Dia Lc
open PySem (Str)
open L2 (Key)
section
variable {G : Prog} [LibD G] {n d m : Nat} {S : Sto} {o a b c : Nat} {N : Nds} {K P : List (List Key × D)}
theorem fn28 : G.fn 28 = some ⟨3, 3, c_ref_diagram⟩ := LibD.fn 28 (by decide)
theorem ms11 : G.meth 3 11 = some 38 := LibD.meth (3, 11, 38) (by decide)
/-- what a ref stands for -/
def refF (gs : List Fun) (ref : Nat) : Fun := fun x => ((gs[ref / 2]?).getD (fun _ => false) x) != (ref % 2 == 1)
theorem ref_spec (hS : Ok m S o a b c N K P) (hn : 5000 ≤ n) (hm : m ≤ 7) {fl : Nat} {is : List Nat} {gs : List Fun} {t : Nat} (hl : S[fl]? = some (.lst (is.map fun i => D.int (i : Nat)))) (T : DenAll m N t is gs) {ref : Nat} (hr : ref < 2 * is.length)
    (hP : P.length ≤ 300000) (hN : N.length ≤ 180000) :
    ∃ S' r, evC G n (d + 6) 28 [.ref o, .ref fl, .int ref] S = .ok (.int (r : Nat)) S' ∧ Kept m S S' o a b c N P 400 fun N' => Dia.Den m N' r (refF gs ref) t := by
  have hk : ref / 2 < is.length := by omega
  obtain ⟨i, ei⟩ : ∃ i, is[ref / 2]? = some i := ⟨is[ref / 2], by simp [hk]⟩
  have hk2 : ref / 2 < gs.length := by rw [← T.1]; exact hk
  obtain ⟨g, eg⟩ : ∃ g, gs[ref / 2]? = some g := ⟨gs[ref / 2], by simp [hk2]⟩
  have Ti := T.2 _ i g ei eg
  have b1 : ∀ S, binop .mod (.int (ref : Nat)) (.int 2) S = .ok (.int ((ref % 2 : Nat) : Int)) S := fun S => by
    simp [binop]
  have b2 : ∀ S, binop .fdiv (.int (ref : Nat)) (.int 2) S = .ok (.int ((ref / 2 : Nat) : Int)) S := fun S => by
    simp [binop]
  have sg : subscr (.ref fl) (.int ((ref / 2 : Nat) : Int)) S = .ok (.int (i : Nat)) S := by
    have : getAt (is.map fun i => D.int (i : Nat)) ((ref / 2 : Nat) : Int) = some (.int (i : Nat)) := by
      rw [getAt_nat _ _ (by simpa using hk), List.getElem?_map, ei]
      rfl
    simp only [subscr, hl, this]
  obtain ⟨V, hV⟩ : ∃ V, V = D.int ((ref / 2 : Nat) : Int) := ⟨_, rfl⟩
  rw [← hV] at sg b2
  by_cases h : ref % 2 = 1
  · have c1 : ∀ S, cmpop .eq (.int ((ref % 2 : Nat) : Int)) (.int 1) S = .ok (.bl true) S := fun S => by rw [h]; simp [cmpop, eqS]
    obtain ⟨S', r, e, k⟩ := turned_spec (G := G) (n := n) (d := d) hS hn hm Ti hP hN
    refine ⟨S', r, ?_, ?_⟩
    · rw [evC_open fn28 rfl]
      obtain ⟨U, hU⟩ : ∃ U, U = D.int ((ref % 2 : Nat) : Int) := ⟨_, rfl⟩
      rw [← hU] at b1 c1
      simp [c_ref_diagram, startD, b1, c1, b2, hS.ins, ms11, lookA, sg, e]
    · have : refF gs ref = fun x => !g x := by funext x; simp [refF, eg, h]
      rw [this]; exact k
  · have h0 : ref % 2 = 0 := by omega
    have c1 : ∀ S, cmpop .eq (.int ((ref % 2 : Nat) : Int)) (.int 1) S = .ok (.bl false) S := fun S => by rw [h0]; simp [cmpop, eqS]
    refine ⟨S, i, ?_, [], K, P, by rw [List.append_nil]; exact hS, Chg.refl _ _, by simp, by omega, ?_⟩
    · rw [evC_open fn28 rfl]
      obtain ⟨U, hU⟩ : ∃ U, U = D.int ((ref % 2 : Nat) : Int) := ⟨_, rfl⟩
      rw [← hU] at b1 c1
      simp [c_ref_diagram, startD, b1, c1, b2, sg]
    · rw [List.append_nil]
      have : refF gs ref = g := by funext x; simp [refF, eg, h0]
      rw [this]; exact Ti
end
end K74
end

section
set_option autoImplicit false
set_option linter.all false
set_option maxHeartbeats 4000000
set_option maxRecDepth 10000
/-! K74e3: a comprehension whose turns change the diagrams. -/
namespace K74
open Pv Dia Lc
open PySem (Str)
open L2 (Key)
section
variable {G : Prog} [LibD G] {n d m : Nat} {S : Sto} {o a b c : Nat} {N : Nds} {K P : List (List Key × D)}
theorem compK {src : IS} {turn : D → Sto → R (Option D)} {xs : List D} {fs : List Fun} {t : Nat} (hS : Ok m S o a b c N K P) (hn : 5000 ≤ n) (hlen : xs.length = fs.length) (h10 : xs.length ≤ 10) (hat : ∀ S1, Chg [a, b, c] S S1 → ∀ i, src.at i S1 = some xs[i]?)
    (ht : ∀ i x g S1 xx K' P', xs[i]? = some x → fs[i]? = some g → Ok m S1 o a b c (N ++ xx) K' P' → Chg [a, b, c] S S1 → xx.length ≤ 400 * i → P'.length ≤ P.length + 400 * i → S.length < S1.length →
      ∃ S2 r, turn x S1 = .ok (some (.int (r : Nat))) S2 ∧ Kept m S1 S2 o a b c (N ++ xx) P' 400 fun N' => Dia.Den m N' r g t) :
    ∃ S' rs, loopC src S.length turn n 0 (S ++ [.lst []]) = .ok (.ref S.length) S' ∧ S'[S.length]? = some (.lst (rs.map fun r : Nat => D.int r)) ∧ Kept m S S' o a b c N P 4000 fun N' => DenAll m N' t rs fs := by
  have sz := szl2
  have lt : ∀ {v : Nat} {ob : Ob}, S[v]? = some ob → S.length ≠ v := fun {v ob} e => by
    have := (List.getElem?_eq_some_iff.mp e).1
    omega
  have neL : S.length ∉ [a, b, c] := by
    have h1 := lt hS.nds
    have h2 := lt hS.kn
    have h3 := lt hS.kp
    simp
    exact ⟨h1, h2, h3⟩
  have ne4 : S.length ≠ o ∧ S.length ≠ a ∧ S.length ≠ b ∧ S.length ≠ c := ⟨lt hS.ins, lt hS.nds, lt hS.kn, lt hS.kp⟩
  obtain ⟨acc, S', e, hn', rs, xx, K', P', h1, h2, h3, h4, h5, h6, h7, h8⟩ := loopC_ok (src := src) (n := S.length) (turn := turn) (m := xs.length)
    (fun i acc S1 => ∃ (rs : List Nat) (xx : Nds) (K' P' : List (List Key × D)), acc = rs.map (fun r : Nat => D.int r) ∧ rs.length = i ∧ Ok m S1 o a b c (N ++ xx) K' P' ∧ Chg [a, b, c] S S1 ∧ xx.length ≤ 400 * i ∧ P'.length ≤ P.length + 400 * i ∧ DenAll m (N ++ xx) t rs (fs.take i) ∧ S.length < S1.length)
    (fun i acc S1 hi ⟨rs, xx, K', P', h1, h2, h3, h4, h5, h6, h7, h8⟩ hacc => by
      obtain ⟨x, ex⟩ : ∃ x, xs[i]? = some x := ⟨xs[i], by simp [hi]⟩
      obtain ⟨g, eg⟩ : ∃ g, fs[i]? = some g := ⟨fs[i]'(by omega), by simp [← hlen, hi]⟩
      obtain ⟨S2, r, e2, yy, K2, P2, q1, q2, q3, q4, q5⟩ := ht i x g S1 xx K' P' ex eg h3 h4 h5 h6 h8
      have hal : acc.length = i := by rw [h1, List.length_map, h2]
      have hS2 : S.length < S2.length := Nat.lt_of_lt_of_le h8 q2.1
      refine ⟨x, by rw [hat S1 h4 i, ex], .inr ⟨.int (r : Nat), S2, e2, q2.at neL hacc, by omega, rs ++ [r], xx ++ yy, K2, P2, by rw [h1]; simp, by simp [h2], by rw [← List.append_assoc]; exact q1.setW ne4 _, ?_, by rw [List.length_append]; omega, by omega, ?_, by simpa using hS2⟩⟩
      · have c2 := h4.trans q2
        refine ⟨by simpa using c2.1, fun v hv hvm => ?_⟩
        rw [List.getElem?_set_ne (by omega)]
        exact c2.2 v hv hvm
      · rw [← List.append_assoc]
        refine ⟨by simp [h2]; omega, fun k v g' e3 e4 => ?_⟩
        rw [List.take_succ, eg] at e4
        by_cases hk : k < i
        · rw [List.getElem?_append_left (by omega)] at e3
          rw [List.getElem?_append_left (by rw [List.length_take]; omega)] at e4
          exact (h7.2 k v g' e3 e4).grow yy
        · have hk2 : k = i := by
            have := (List.getElem?_eq_some_iff.mp e3).1
            simp at this
            omega
          subst hk2
          have e6 : (rs ++ [r])[k]? = some r := by rw [← h2]; simp
          have e5 : (List.take k fs ++ (some g).toList)[k]? = some g := by
            have hl : (List.take k fs).length = k := by rw [List.length_take]; omega
            rw [List.getElem?_append_right (by omega), hl]
            simp
          rw [e5] at e4
          cases e4
          rw [e6] at e3
          cases e3
          exact q5)
    (fun acc S1 ⟨_, _, _, _, _, _, _, h4, _⟩ _ => by rw [hat S1 h4]; simp) n 0 [] (S ++ [.lst []]) (Nat.zero_le _) (by omega)
    ⟨[], [], K, P, rfl, rfl, by rw [List.append_nil]; exact hS.grow (Grow.snoc _ _), Chg.of (Grow.snoc _ _), by simp, by simp, ⟨by simp, fun k i g e => by simp at e⟩, by simp⟩ (by simp)
  rw [hlen, List.take_length] at h7
  exact ⟨S', rs, e, by rw [h1] at hn'; exact hn', xx, K', P', h3, h4, by omega, by omega, h7⟩
end
end K74
end

section
set_option autoImplicit false
set_option linter.all false
set_option maxHeartbeats 4000000
set_option maxRecDepth 10000
/-! K74e4: gates. -/
namespace K74
open Pv Dia Lc
open PySem (Str)
open L2 (Key)
inductive Gate where
  | conj (r : List Nat) | disj (r : List Nat) | xor (x y : Nat) | ite (x y z : Nat)
def natD (r : List Nat) : List D := r.map fun i : Nat => D.int i
def Gate.D : Gate → Pv.D
  | .conj r => .tup [.str "and", .tup (natD r)]
  | .disj r => .tup [.str "or", .tup (natD r)]
  | .xor x y => .tup [.str "xor", .int x, .int y]
  | .ite x y z => .tup [.str "if", .int x, .int y, .int z]
def Gate.refs : Gate → List Nat
  | .conj r => r
  | .disj r => r
  | .xor x y => [x, y]
  | .ite x y z => [x, y, z]
/-- a gate over its refs' functions -/
def Gate.fn (g : Gate) (fs : List Fun) : Fun := fun x => match g with
  | .conj _ => fs.all fun f => f x
  | .disj _ => fs.any fun f => f x
  | .xor _ _ => match fs with
    | [f, h] => f x != h x
    | _ => false
  | .ite _ _ _ => match fs with
    | [f, h, k] => if f x = true then h x else k x
    | _ => false
section
variable {G : Prog} [LibD G] {n d m : Nat} {S : Sto} {o a b c : Nat} {N : Nds} {K P : List (List Key × Pv.D)}
theorem fn29 : G.fn 29 = some ⟨3, 4, c_gate_diagram⟩ := LibD.fn 29 (by decide)
theorem ms12 : G.meth 3 12 = some 39 := LibD.meth (3, 12, 39) (by decide)
theorem str_eq (x y : Str) (S : Sto) : cmpop .eq (.str x) (.str y) S = .ok (.bl (decide (x = y))) S := rfl
theorem sub0 (x : Pv.D) (r : List Pv.D) : subscr (.tup (x :: r)) (.int 0) S = .ok x S := by simp [subscr]
theorem gate_conj (hS : Ok m S o a b c N K P) (hn : 5000 ≤ n) (hm : m ≤ 7) {l : Nat} {is : List Nat} {gs : List Fun} {t : Nat} (hl : S[l]? = some (.lst (is.map fun i => Pv.D.int (i : Nat)))) (hne : l ∉ [a, b, c]) (T : DenAll m N t is gs) (h10 : is.length ≤ 10)
    (hP : P.length ≤ 290000) (hN : N.length ≤ 170000) (r : List Nat) :
    ∃ S' v, evC G n (d + 6) 29 [.ref o, (Gate.conj r).D, .ref l] S = .ok (.int (v : Nat)) S' ∧ Kept m S S' o a b c N P 4000 fun N' => Dia.Den m N' v ((Gate.conj r).fn gs) t := by
  obtain ⟨S', v, e, k⟩ := every_spec (G := G) (n := n) (d := d) hS hn hm hl hne T h10 hP hN
  refine ⟨S', v, ?_, k⟩
  have c1 : cmpop .eq (.str "and") (.str "and") S = .ok (.bl true) S := by rw [str_eq]; simp
  rw [evC_open fn29 rfl]
  simp [c_gate_diagram, startD, Gate.D, sub0, c1, hS.ins, ms12, lookA, e]
theorem ats_get {l : Nat} {is : List Nat} (hl : S[l]? = some (.lst (is.map fun i => Pv.D.int (i : Nat)))) {k i : Nat} (e : is[k]? = some i) : subscr (.ref l) (.int (k : Nat)) S = .ok (.int (i : Nat)) S := by
  have : getAt (is.map fun i => Pv.D.int (i : Nat)) (k : Nat) = some (.int (i : Nat)) := by
    rw [getAt_nat _ _ (by rw [List.length_map]; exact (List.getElem?_eq_some_iff.mp e).1), List.getElem?_map, e]
    rfl
  simp only [subscr, hl, this]
theorem gate_ite (hS : Ok m S o a b c N K P) (hn : 5000 ≤ n) (hm : m ≤ 7) {l i j k : Nat} {f g h : Fun} {t : Nat} (hl : S[l]? = some (.lst ([i, j, k].map fun i => Pv.D.int (i : Nat)))) (T : Tri3 m N (i, j, k) f g h t)
    (hP : P.length ≤ 290000) (hN : N.length ≤ 170000) (x y z : Nat) :
    ∃ S' v, evC G n (d + 6) 29 [.ref o, (Gate.ite x y z).D, .ref l] S = .ok (.int (v : Nat)) S' ∧ Kept m S S' o a b c N P 400 fun N' => Dia.Den m N' v ((Gate.ite x y z).fn [f, g, h]) t := by
  obtain ⟨S', v, e, kk⟩ := chosen_spec (G := G) (n := n) (d := d + 1) hS hn hm T (by omega) (by omega)
  refine ⟨S', v, ?_, kk⟩
  have c1 : cmpop .eq (.str "if") (.str "and") S = .ok (.bl false) S := by rw [str_eq]; congr 2
  have c2 : cmpop .eq (.str "if") (.str "or") S = .ok (.bl false) S := by rw [str_eq]; congr 2
  have c3 : cmpop .eq (.str "if") (.str "xor") S = .ok (.bl false) S := by rw [str_eq]; congr 2
  have a0 : subscr (.ref l) (.int 0) S = _ := ats_get hl (k := 0) (i := i) rfl
  have a1 : subscr (.ref l) (.int 1) S = _ := ats_get hl (k := 1) (i := j) rfl
  have a2 : subscr (.ref l) (.int 2) S = _ := ats_get hl (k := 2) (i := k) rfl
  rw [evC_open fn29 rfl]
  simp [c_gate_diagram, startD, Gate.D, sub0, c1, c2, c3, hS.ins, ms9, lookA, a0, a1, a2, e]
theorem gate_xor (hS : Ok m S o a b c N K P) (hn : 5000 ≤ n) (hm : m ≤ 7) {l i j : Nat} {f g : Fun} {t : Nat} (hl : S[l]? = some (.lst ([i, j].map fun i => Pv.D.int (i : Nat)))) (hne : l ∉ [a, b, c]) (T : Dia.Den m N i f t) (T2 : Dia.Den m N j g t)
    (hP : P.length ≤ 290000) (hN : N.length ≤ 170000) (x y : Nat) :
    ∃ S' v, evC G n (d + 6) 29 [.ref o, (Gate.xor x y).D, .ref l] S = .ok (.int (v : Nat)) S' ∧ Kept m S S' o a b c N P 800 fun N' => Dia.Den m N' v ((Gate.xor x y).fn [f, g]) t := by
  obtain ⟨S1, r, e1, xx, K1, P1, k1, k2, k3, k4, k5⟩ := turned_spec (G := G) (n := n) (d := d) hS hn hm T2 (by omega) (by omega)
  have hl1 := k2.at hne hl
  obtain ⟨S', v, e, yy, K2, P2, q1, q2, q3, q4, q5⟩ := chosen_spec (G := G) (n := n) (d := d + 1) (i := i) (j := r) (k := j) k1 hn hm ⟨T.grow xx, k5, T2.grow xx⟩ (by omega) (by rw [List.length_append]; omega)
  refine ⟨S', v, ?_, xx ++ yy, K2, P2, by rw [← List.append_assoc]; exact q1, k2.trans q2, by rw [List.length_append]; omega, by omega, ?_⟩
  · have c1 : cmpop .eq (.str "xor") (.str "and") S = .ok (.bl false) S := by rw [str_eq]; congr 2
    have c2 : cmpop .eq (.str "xor") (.str "or") S = .ok (.bl false) S := by rw [str_eq]; congr 2
    have c3 : cmpop .eq (.str "xor") (.str "xor") S = .ok (.bl true) S := by rw [str_eq]; simp
    have a0 : subscr (.ref l) (.int 0) S = _ := ats_get hl (k := 0) (i := i) rfl
    have a1 : subscr (.ref l) (.int 1) S = _ := ats_get hl (k := 1) (i := j) rfl
    have a1' : subscr (.ref l) (.int 1) S1 = _ := ats_get hl1 (k := 1) (i := j) rfl
    rw [evC_open fn29 rfl]
    simp [c_gate_diagram, startD, Gate.D, sub0, c1, c2, c3, hS.ins, ms9, ms11, lookA, a0, a1, a1', e1, e]
  · rw [← List.append_assoc]
    have : ite3 f (fun x => !g x) g = (Gate.xor x y).fn [f, g] := by
      funext z
      simp only [ite3, Gate.fn]
      cases f z <;> cases g z <;> rfl
    rw [← this]
    exact q5
end
end K74
end

section
set_option autoImplicit false
set_option linter.all false
set_option maxHeartbeats 4000000
set_option maxRecDepth 10000
/-! K74e5: or. -/
namespace K74
open Pv Dia Lc
open PySem (Str)
open L2 (Key)
section
variable {G : Prog} [LibD G] {n d m : Nat} {S : Sto} {o a b c : Nat} {N : Nds} {K P : List (List Key × Pv.D)}
theorem gate_disj (hS : Ok m S o a b c N K P) (hn : 5000 ≤ n) (hm : m ≤ 7) {l : Nat} {is : List Nat} {gs : List Fun} {t : Nat} (hl : S[l]? = some (.lst (is.map fun i => Pv.D.int (i : Nat)))) (hne : l ∉ [a, b, c]) (T : DenAll m N t is gs) (h10 : is.length ≤ 10)
    (hP : P.length ≤ 280000) (hN : N.length ≤ 160000) (r : List Nat) :
    ∃ S' v, evC G n (d + 7) 29 [.ref o, (Gate.disj r).D, .ref l] S = .ok (.int (v : Nat)) S' ∧ Kept m S S' o a b c N P 9000 fun N' => Dia.Den m N' v ((Gate.disj r).fn gs) t := by
  obtain ⟨S1, rs, e1, hl1, xx, K1, P1, k1, k2, k3, k4, k5⟩ := compK (n := n) (src := .lst l) (xs := is.map fun i => Pv.D.int (i : Nat)) (fs := gs.map fun g => fun x => !g x) (t := t)
    (turn := turnE G n (evC G n (d + 6)) (evP G n (d + 6)).2 (.meth (.var 0) 11 (.cons (.var 3) .nil)) (.var 3) .nil [3] [some (.ref o), some (Gate.disj r).D, some (.ref l), none]) hS hn (by simp [T.1]) (by simpa using h10)
    (fun S1 hc i => by
      have := hc.at hne hl
      simp [IS.at, this])
    (fun i x g S1 xx K' P' hx hg ok hc l1 l2 hlt => by
      rw [List.getElem?_map] at hx hg
      have hi : i < is.length := by
        cases e : is[i]? with
        | none => rw [e] at hx; cases hx
        | some v => exact (List.getElem?_eq_some_iff.mp e).1
      obtain ⟨v, ev⟩ : ∃ v, is[i]? = some v := ⟨is[i], by simp [hi]⟩
      obtain ⟨g0, eg⟩ : ∃ g, gs[i]? = some g := ⟨gs[i]'(by rw [← T.1]; exact hi), by simp [← T.1, hi]⟩
      rw [ev] at hx
      rw [eg] at hg
      cases hx
      cases hg
      obtain ⟨S2, r2, e2, k⟩ := turned_spec (G := G) (n := n) (d := d + 1) ok hn hm ((T.2 i v g0 ev eg).grow xx) (by omega) (by rw [List.length_append]; omega)
      exact ⟨S2, r2, by simp [turnE, wipeD, ok.ins, ms11, lookA, e2], k⟩)
  have neL : S.length ∉ [a, b, c] := by
    have h1 := (List.getElem?_eq_some_iff.mp hS.nds).1
    have h2 := (List.getElem?_eq_some_iff.mp hS.kn).1
    have h3 := (List.getElem?_eq_some_iff.mp hS.kp).1
    simp
    omega
  have hrl : rs.length ≤ 10 := by
    have := k5.1
    rw [List.length_map, ← T.1] at this
    omega
  obtain ⟨S2, v, e2, yy, K2, P2, q1, q2, q3, q4, q5⟩ := every_spec (G := G) (n := n) (d := d + 1) k1 hn hm (l := S.length) (is := rs) (gs := gs.map fun g => fun x => !g x) (t := t) hl1 neL k5 hrl (by omega) (by rw [List.length_append]; omega)
  obtain ⟨S3, u, e3, zz, K3, P3, p1, p2, p3, p4, p5⟩ := turned_spec (G := G) (n := n) (d := d + 1) q1 hn hm q5 (by omega) (by rw [List.length_append, List.length_append]; omega)
  refine ⟨S3, u, ?_, xx ++ yy ++ zz, K3, P3, by rw [← List.append_assoc, ← List.append_assoc]; exact p1, (k2.trans q2).trans p2, by rw [List.length_append, List.length_append]; omega, by omega, ?_⟩
  · have c1 : cmpop .eq (.str "or") (.str "and") S = .ok (.bl false) S := by rw [str_eq]; congr 2
    have c2 : cmpop .eq (.str "or") (.str "or") S = .ok (.bl true) S := by rw [str_eq]; simp
    have wl : walkOf (.ref l) S = .ok (.lst l) S := by simp [walkOf, hl]
    simp only [Gate.D] at e1
    rw [evC_open fn29 rfl]
    simp [c_gate_diagram, startD, Gate.D, sub0, c1, c2, hS.ins, ms11, ms12, lookA, wl, e1, e2, e3]
  · rw [← List.append_assoc, ← List.append_assoc]
    have key : ∀ (x : Nat → Bool) (gs : List Fun), (!((gs.map fun g => fun x => !g x).all fun g => g x)) = gs.any fun f => f x := by
      intro x gs
      induction gs with
      | nil => rfl
      | cons g gs ih =>
        rw [List.map_cons, List.all_cons, List.any_cons, Bool.not_and, ih, Bool.not_not]
    have : (fun x => !((gs.map fun g => fun x => !g x).all fun g => g x)) = (Gate.disj r).fn gs := by
      funext x
      exact key x gs
    rw [← this]
    exact p5
end
end K74
end

section
set_option autoImplicit false
set_option linter.all false
set_option maxHeartbeats 4000000
set_option maxRecDepth 10000
/-! K74e6: a gate of any kind. -/
namespace K74
open Pv Dia Lc
open PySem (Str)
open L2 (Key)
section
variable {G : Prog} [LibD G] {n d m : Nat} {S : Sto} {o a b c : Nat} {N : Nds} {K P : List (List Key × Pv.D)}
theorem Kept.mono {S S' : Sto} {B B' : Nat} {Q : Nds → Prop} (h : Kept m S S' o a b c N P B Q) (hB : B ≤ B') : Kept m S S' o a b c N P B' Q := by
  obtain ⟨xx, K', P', k1, k2, k3, k4, k5⟩ := h
  exact ⟨xx, K', P', k1, k2, by omega, by omega, k5⟩
theorem gate_spec (hS : Ok m S o a b c N K P) (hn : 5000 ≤ n) (hm : m ≤ 7) (g : Gate) {l : Nat} {is : List Nat} {fs : List Fun} {t : Nat} (hl : S[l]? = some (.lst (is.map fun i => Pv.D.int (i : Nat)))) (hne : l ∉ [a, b, c]) (T : DenAll m N t is fs) (hlen : is.length = g.refs.length) (h10 : is.length ≤ 10)
    (hP : P.length ≤ 280000) (hN : N.length ≤ 160000) :
    ∃ S' v, evC G n (d + 7) 29 [.ref o, g.D, .ref l] S = .ok (.int (v : Nat)) S' ∧ Kept m S S' o a b c N P 9000 fun N' => Dia.Den m N' v (g.fn fs) t := by
  have T1 := T.1
  cases g with
  | conj r =>
    obtain ⟨S', v, e, k⟩ := gate_conj (G := G) (n := n) (d := d + 1) hS hn hm hl hne T h10 (by omega) (by omega) r
    exact ⟨S', v, e, Kept.mono k (by omega)⟩
  | disj r => exact gate_disj hS hn hm hl hne T h10 hP hN r
  | xor x y =>
    match is, fs, hlen, T1, T, hl with
    | [i, j], [f, h], _, _, T, hl =>
      obtain ⟨S', v, e, k⟩ := gate_xor (G := G) (n := n) (d := d + 1) hS hn hm hl hne (T.2 0 i f rfl rfl) (T.2 1 j h rfl rfl) (by omega) (by omega) x y
      exact ⟨S', v, e, Kept.mono k (by omega)⟩
  | ite x y z =>
    match is, fs, hlen, T1, T, hl with
    | [i, j, k], [f, g, h], _, _, T, hl =>
      obtain ⟨S', v, e, kk⟩ := gate_ite (G := G) (n := n) (d := d + 1) hS hn hm hl ⟨T.2 0 i f rfl rfl, T.2 1 j g rfl rfl, T.2 2 k h rfl rfl⟩ (by omega) (by omega) x y z
      exact ⟨S', v, e, Kept.mono kk (by omega)⟩
end
end K74
end

section
set_option autoImplicit false
set_option linter.all false
set_option maxHeartbeats 4000000
set_option maxRecDepth 10000
/-! K74e7: refs_of, a book's diagram. -/
namespace K74
open Pv Dia Lc
open PySem (Str)
open L2 (Key)
section
variable {G : Prog} [LibD G] {n d m : Nat} {S : Sto} {o a b c : Nat} {N : Nds} {K P : List (List Key × Pv.D)}
theorem fn30 : G.fn 30 = some ⟨1, 1, c_refs_of⟩ := LibD.fn 30 (by decide)
theorem in_two (x y z : Str) : cmpop .isin (.str x) (.tup [.str y, .str z]) S = .ok (.bl (y == x || z == x)) S := by
  simp [cmpop, isIn, flatD, inF, eqF]
theorem refs_of_spec (g : Gate) : evC G n (d + 1) 30 [g.D] S = .ok (.tup (natD g.refs)) S := by
  rw [evC_open fn30 rfl]
  cases g with
  | conj r =>
    have c1 : cmpop .isin (.str "and") (.tup [.str "and", .str "or"]) S = .ok (.bl true) S := by rw [in_two]; rfl
    have s1 : subscr (.tup [.str "and", .tup (natD r)]) (.int 1) S = .ok (.tup (natD r)) S := by simp [subscr]
    simp [c_refs_of, startD, Gate.D, sub0, tup2, c1, s1, Gate.refs]
  | disj r =>
    have c1 : cmpop .isin (.str "or") (.tup [.str "and", .str "or"]) S = .ok (.bl true) S := by rw [in_two]; rfl
    have s1 : subscr (.tup [.str "or", .tup (natD r)]) (.int 1) S = .ok (.tup (natD r)) S := by simp [subscr]
    simp [c_refs_of, startD, Gate.D, sub0, tup2, c1, s1, Gate.refs]
  | xor x y =>
    have c1 : cmpop .isin (.str "xor") (.tup [.str "and", .str "or"]) S = .ok (.bl false) S := by rw [in_two]; rfl
    have s1 : sliced (.tup [.str "xor", .int (x : Nat), .int (y : Nat)]) (some 1) none S = .ok (.tup [.int (x : Nat), .int (y : Nat)]) S := by simp [sliced, cutD, HT.sIx]
    simp [c_refs_of, startD, Gate.D, sub0, tup2, c1, s1, Gate.refs, natD]
  | ite x y z =>
    have c1 : cmpop .isin (.str "if") (.tup [.str "and", .str "or"]) S = .ok (.bl false) S := by rw [in_two]; rfl
    have s1 : sliced (.tup [.str "if", .int (x : Nat), .int (y : Nat), .int (z : Nat)]) (some 1) none S = .ok (.tup [.int (x : Nat), .int (y : Nat), .int (z : Nat)]) S := by simp [sliced, cutD, HT.sIx]
    simp [c_refs_of, startD, Gate.D, sub0, tup2, c1, s1, Gate.refs, natD]
end
end K74
end

section
set_option autoImplicit false
set_option linter.all false
set_option maxHeartbeats 1000000
set_option maxRecDepth 10000
/-! W1: what the laws' own gates come to. -/
namespace K74
open Pv Dia Lc
open PySem (Str)
open L2 (Key)
/-- the forgetful evaluator -/
noncomputable abbrev Q (G : Prog) (n d : Nat) : Call := evQ G n oldF d
def obD : Option Bool → Pv.D
  | none => .non
  | some b => .bl b
@[simp] theorem newD_obD (k : Nat) (x : Option Bool) : newD k (obD x) = [] := by cases x <;> rfl
@[simp] theorem newL_obD (k : Nat) (xs : List (Option Bool)) : newL k (xs.map obD) = [] := newL_map (newD_obD k) xs
theorem flatD_obD (x : Option Bool) : flatD (obD x) = true := by cases x <;> rfl
def lawRef (vs : List (Option Bool)) (r : Nat) : Option Bool := ((vs[r / 2]?).join).map fun b => b != (r % 2 == 1)
def lawAnd (ps : List (Option Bool)) : Option Bool := if some false ∈ ps then some false else if none ∈ ps then none else some true
def negR (r : Nat) : Nat := if r % 2 = 1 then r - 1 else r + 1
def lawGate (vs : List (Option Bool)) : Gate → Option Bool
  | .conj r => lawAnd (r.map (lawRef vs))
  | .disj r => (lawAnd (r.map fun x => lawRef vs (negR x))).map (!·)
  | .xor x y => match lawRef vs x, lawRef vs y with
    | some a, some b => some (a != b)
    | _, _ => none
  | .ite x y z => match lawRef vs x with
    | none => if lawRef vs y = lawRef vs z then lawRef vs y else none
    | some true => lawRef vs y
    | some false => lawRef vs z
section
variable {G : Prog} [LibW G] {n d : Nat} {S : Sto}
theorem wfn {f : Nat} (h : f ∈ wFns) : G.fn f = Lc.fn f := LibW.fn f h
theorem getAt_map {α : Type} (e : α → Pv.D) (xs : List α) (i : Nat) {x : α} (h : xs[i]? = some x) : getAt (xs.map e) (i : Nat) = some (e x) := by
  rw [getAt_nat _ _ (by rw [List.length_map]; exact (List.getElem?_eq_some_iff.mp h).1), List.getElem?_map, h]
  rfl
theorem fdiv2 (r : Nat) (S : Sto) : binop .fdiv (.int (r : Nat)) (.int 2) S = .ok (.int ((r / 2 : Nat) : Int)) S := by simp [binop]
theorem mod2 (r : Nat) (S : Sto) : binop .mod (.int (r : Nat)) (.int 2) S = .ok (.int ((r % 2 : Nat) : Int)) S := by simp [binop]
theorem law_ref_spec {told : Pv.D} {vs : List (Option Bool)} (ht : asSeq S told = some (vs.map obD)) (r : Nat) (hr : r / 2 < vs.length) : Q G n (d + 1) 32 [told, .int r] S = .ok (obD (lawRef vs r)) S := by
  obtain ⟨v, hv⟩ : ∃ v, vs[r / 2]? = some v := ⟨vs[r / 2], by simp [hr]⟩
  have sg : subscr told (.int ((r / 2 : Nat) : Int)) S = .ok (obD v) S := by
    have g := getAt_map obD vs (r / 2) hv
    cases told with
    | tup xs =>
      have e : xs = vs.map obD := Option.some.inj ht
      subst e
      simp only [subscr, g]
    | ktup xs =>
      have e : xs = vs.map obD := Option.some.inj ht
      subst e
      simp only [subscr, g]
    | ref k =>
      have ht : asLst S (.ref k) = some (vs.map obD) := ht
      unfold asLst at ht
      simp only at ht
      cases h : S[k]? with
      | none => rw [h] at ht; cases ht
      | some o =>
        rw [h] at ht
        cases o with
        | lst xs =>
          have e : xs = vs.map obD := Option.some.inj ht
          subst e
          simp only [subscr, h, g]
        | clst xs =>
          have e : xs = vs.map obD := Option.some.inj ht
          subst e
          simp only [subscr, h, g]
        | _ => cases ht
    | _ => cases ht
  have lr : lawRef vs r = v.map fun b => b != (r % 2 == 1) := by unfold lawRef; rw [hv]; rfl
  rw [lr, Q, evQ_open (fn := ⟨2, 3, c__law_ref⟩) rfl (wfn (by decide)) rfl]
  obtain ⟨U, hU⟩ : ∃ U, U = Pv.D.int ((r / 2 : Nat) : Int) := ⟨_, rfl⟩
  have f2 := fdiv2 r S
  rw [← hU] at f2 sg
  cases v with
  | none =>
    have c1 : cmpop .isN .non .non S = .ok (.bl true) S := rfl
    simp [c__law_ref, startD, f2, sg, obD, c1]
    exact gc_same rfl
  | some b =>
    have c1 : cmpop .isN (.bl b) .non S = .ok (.bl false) S := rfl
    have m2 := mod2 r S
    obtain ⟨W, hW⟩ : ∃ W, W = Pv.D.int ((r % 2 : Nat) : Int) := ⟨_, rfl⟩
    have c2 : cmpop .eq W (.int 1) S = .ok (.bl (r % 2 == 1)) S := by
      rw [hW]
      by_cases h : r % 2 = 1
      · rw [h]; rfl
      · have h0 : r % 2 = 0 := by omega
        rw [h0]; rfl
    have c3 : ∀ x y : Bool, cmpop .ne (.bl x) (.bl y) S = .ok (.bl (x != y)) S := fun x y => by cases x <;> cases y <;> rfl
    rw [← hW] at m2
    simp [c__law_ref, startD, f2, sg, obD, c1, m2, c2, c3]
    exact gc_same rfl
theorem asLst_at {k : Nat} {xs : List Pv.D} (h : S[k]? = some (.lst xs)) : asSeq S (.ref k) = some xs := by
  show asLst S (.ref k) = _
  simp only [asLst, h]
theorem inF_obD (x : Option Bool) (ps : List (Option Bool)) : inF (obD x) (ps.map obD) = decide (x ∈ ps) := by
  unfold inF
  rw [List.any_map]
  induction ps with
  | nil => rfl
  | cons p ps ih =>
    rw [List.any_cons, ih]
    have : ((fun y => eqF y (obD x)) ∘ obD) p = decide (x = p) := by
      cases x with
      | none => cases p <;> rfl
      | some a => cases p with
        | none => rfl
        | some b => cases a <;> cases b <;> rfl
    rw [this]
    by_cases h : x = p <;> by_cases h2 : x ∈ ps <;> simp [h, h2]
theorem isIn_obD {k : Nat} {ps : List (Option Bool)} (h : S[k]? = some (.lst (ps.map obD))) (x : Option Bool) : cmpop .isin (obD x) (.ref k) S = .ok (.bl (decide (x ∈ ps))) S := by
  have fl : (ps.map obD).all flatD = true := by
    rw [List.all_eq_true]
    intro y hy
    obtain ⟨z, _, rfl⟩ := List.mem_map.mp hy
    exact flatD_obD z
  simp only [cmpop, isIn, h, flatD_obD, fl, Bool.and_self, if_true, inF_obD]
  rfl
theorem law_and_spec {k : Nat} {ps : List (Option Bool)} (h : S[k]? = some (.lst (ps.map obD))) : Q G n (d + 1) 49 [.ref k] S = .ok (obD (lawAnd ps)) S := by
  rw [Q, evQ_open (fn := ⟨1, 1, c__law_and⟩) rfl (wfn (by decide)) rfl]
  have i1 := isIn_obD h (some false)
  have i2 := isIn_obD h none
  simp only [obD] at i1 i2
  unfold lawAnd
  by_cases c1 : some false ∈ ps
  · simp [c__law_and, startD, i1, c1, obD]
    exact gc_same rfl
  · by_cases c2 : none ∈ ps
    · simp [c__law_and, startD, i1, c1, i2, c2, obD]
      exact gc_same rfl
    · simp [c__law_and, startD, i1, c1, i2, c2, obD]
      exact gc_same rfl
theorem law_not_spec (x : Option Bool) : Q G n (d + 1) 48 [obD x] S = .ok (obD (x.map (!·))) S := by
  rw [Q, evQ_open (fn := ⟨1, 1, c__law_not⟩) rfl (wfn (by decide)) rfl]
  cases x with
  | none =>
    simp [c__law_not, startD, obD, cmpop, isNone]
    exact gc_same rfl
  | some b =>
    simp [c__law_not, startD, obD, cmpop, isNone]
    exact gc_same rfl
end
end K74
end

section
set_option autoImplicit false
set_option linter.all false
set_option maxHeartbeats 2000000
set_option maxRecDepth 10000
/-! W2: a gate's value, as the laws reckon it. -/
namespace K74
open Pv Dia Lc
open PySem (Str)
open L2 (Key)
section
variable {G : Prog} [LibW G] {n d : Nat} {S : Sto}
theorem negR_half (r : Nat) : negR r / 2 = r / 2 := by unfold negR; split <;> omega
theorem smallMul2 (i : Int) : smallMul 2 i = true := by simp [smallMul]
theorem mul2 (i : Int) (S : Sto) : binop .mul (.int 2) (.int i) S = .ok (.int (2 * i)) S := by
  simp only [binop, smallMul2, if_true]
theorem neg_ev (r : Nat) : (r : Int) + 1 - 2 * ((r % 2 : Nat) : Int) = (negR r : Nat) := by
  unfold negR
  split <;> omega
theorem add_int (i j : Int) (S : Sto) : binop .add (.int i) (.int j) S = .ok (.int (i + j)) S := rfl
theorem sub_int (i j : Int) (S : Sto) : binop .sub (.int i) (.int j) S = .ok (.int (i - j)) S := rfl
/-- the values of some refs -/
theorem comp_refs {k : Nat} {vs : List (Option Bool)} (h : S[k]? = some (.lst (vs.map obD))) {rs : List Nat} (hr : ∀ r ∈ rs, r / 2 < vs.length) (hl : rs.length < 5000) (hn : 5000 ≤ n) (x s3 s4 s5 s6 : Option Pv.D) :
    loopC (.fix (natD rs)) S.length (turnE G n (Q G n (d + 1)) (mkQ G n oldF (d + 1)) (.call 32 (.cons (.var 1) (.cons (.var 2) .nil))) (.var 2) .nil [2] [x, some (.ref k), none, s3, s4, s5, s6]) n 0 (S ++ [.lst []]) = .ok (.ref S.length) (S ++ [.lst ((rs.map (lawRef vs)).map obD)]) := by
  have := comp_m (S := S) (src := .fix (natD rs)) (n := n) (ys := rs) (e := fun i : Nat => Pv.D.int i) (turn := turnE G n (Q G n (d + 1)) (mkQ G n oldF (d + 1)) (.call 32 (.cons (.var 1) (.cons (.var 2) .nil))) (.var 2) .nil [2] [x, some (.ref k), none, s3, s4, s5, s6])
    (fun r => obD (lawRef vs r)) (fun i o => rfl) (by omega) (by omega) fun r hm o => by
      have e := law_ref_spec (G := G) (n := n) (d := d) (asLst_at (app_old (l := [o]) h)) r (hr r hm)
      simp [turnE, wipeD, e]
  rw [this, List.map_map]
  rfl
theorem comp_negs {k : Nat} {vs : List (Option Bool)} (h : S[k]? = some (.lst (vs.map obD))) {rs : List Nat} (hr : ∀ r ∈ rs, r / 2 < vs.length) (hl : rs.length < 5000) (hn : 5000 ≤ n) (x s3 s4 s5 s6 : Option Pv.D) :
    loopC (.fix (natD rs)) S.length (turnE G n (Q G n (d + 1)) (mkQ G n oldF (d + 1)) (.call 32 (.cons (.var 1) (.cons (.bin .sub (.bin .add (.var 2) (.con (.int 1))) (.bin .mul (.con (.int 2)) (.bin .mod (.var 2) (.con (.int 2))))) .nil))) (.var 2) .nil [2] [x, some (.ref k), none, s3, s4, s5, s6]) n 0 (S ++ [.lst []]) = .ok (.ref S.length) (S ++ [.lst ((rs.map fun x => lawRef vs (negR x)).map obD)]) := by
  have := comp_m (S := S) (src := .fix (natD rs)) (n := n) (ys := rs) (e := fun i : Nat => Pv.D.int i) (turn := turnE G n (Q G n (d + 1)) (mkQ G n oldF (d + 1)) (.call 32 (.cons (.var 1) (.cons (.bin .sub (.bin .add (.var 2) (.con (.int 1))) (.bin .mul (.con (.int 2)) (.bin .mod (.var 2) (.con (.int 2))))) .nil))) (.var 2) .nil [2] [x, some (.ref k), none, s3, s4, s5, s6])
    (fun r => obD (lawRef vs (negR r))) (fun i o => rfl) (by omega) (by omega) fun r hm o => by
      have e := law_ref_spec (G := G) (n := n) (d := d) (asLst_at (app_old (l := [o]) h)) (negR r) (by rw [negR_half]; exact hr r hm)
      have m2 := mod2 r (S ++ [o])
      rw [← neg_ev] at e
      obtain ⟨W, hW⟩ : ∃ W, W = ((r % 2 : Nat) : Int) := ⟨_, rfl⟩
      rw [← hW] at m2 e
      simp [turnE, wipeD, m2, mul2, add_int, sub_int, e]
  rw [this, List.map_map]
  rfl
theorem sub1 (x y : Pv.D) (r : List Pv.D) : subscr (.tup (x :: y :: r)) (.int 1) S = .ok y S := by simp [subscr]
theorem sub2 (x y z : Pv.D) (r : List Pv.D) : subscr (.tup (x :: y :: z :: r)) (.int 2) S = .ok z S := by simp [subscr]
theorem asSeq_lst {k : Nat} {xs : List Pv.D} (h : S[k]? = some (.lst xs)) : asSeq S (.ref k) = some xs := asLst_at h
theorem obD_eq (x y : Option Bool) (S : Sto) : cmpop .eq (obD x) (obD y) S = .ok (.bl (decide (x = y))) S := by
  cases x with
  | none => cases y with
    | none => rfl
    | some b => cases b <;> rfl
  | some a => cases y with
    | none => cases a <;> rfl
    | some b => cases a <;> cases b <;> rfl
theorem lawGate_xor (vs : List (Option Bool)) (x y : Nat) : lawGate vs (.xor x y) = match lawRef vs x, lawRef vs y with
    | some a, some b => some (a != b)
    | _, _ => none := rfl
theorem lawGate_ite (vs : List (Option Bool)) (x y z : Nat) : lawGate vs (.ite x y z) = match lawRef vs x with
    | none => if lawRef vs y = lawRef vs z then lawRef vs y else none
    | some true => lawRef vs y
    | some false => lawRef vs z := rfl
theorem law_gate_value_spec {k : Nat} {vs : List (Option Bool)} (h : S[k]? = some (.lst (vs.map obD))) (g : Gate) (hr : ∀ r ∈ g.refs, r / 2 < vs.length) (hl : g.refs.length < 5000) (hn : 5000 ≤ n) : Q G n (d + 2) 41 [g.D, .ref k] S = .ok (obD (lawGate vs g)) S := by
  have sz : 16000000 ≤ PySem.sizeLine := by decide
  rw [Q, evQ_open (fn := ⟨2, 7, c__law_gate_value⟩) rfl (wfn (by decide)) rfl]
  cases g with
  | conj r =>
    have c1 : cmpop .eq (.str "and") (.str "and") S = .ok (.bl true) S := by rw [str_eq]; simp
    have co := comp_refs (G := G) (n := n) (d := d) h (rs := r) hr hl hn (some (Gate.conj r).D) none none none none
    have la := law_and_spec (G := G) (n := n) (d := d) (S := S ++ [.lst ((r.map (lawRef vs)).map obD)]) (k := S.length) (ps := r.map (lawRef vs)) (app_at0 _)
    simp only [Gate.D] at co
    simp [c__law_gate_value, startD, Gate.D, sub0, sub1, c1, walkOf, co, la, lawGate, -List.map_map]
    exact gc_app (newD_obD _ _)
  | disj r =>
    have c1 : cmpop .eq (.str "or") (.str "and") S = .ok (.bl false) S := by rw [str_eq]; congr 2
    have c2 : cmpop .eq (.str "or") (.str "or") S = .ok (.bl true) S := by rw [str_eq]; simp
    have co := comp_negs (G := G) (n := n) (d := d) h (rs := r) hr hl hn (some (Gate.disj r).D) none none none none
    have la := law_and_spec (G := G) (n := n) (d := d) (S := S ++ [.lst ((r.map fun x => lawRef vs (negR x)).map obD)]) (k := S.length) (ps := r.map fun x => lawRef vs (negR x)) (app_at0 _)
    have ln := law_not_spec (G := G) (n := n) (d := d) (S := S ++ [.lst ((r.map fun x => lawRef vs (negR x)).map obD)]) (lawAnd (r.map fun x => lawRef vs (negR x)))
    simp only [Gate.D] at co
    simp [c__law_gate_value, startD, Gate.D, sub0, sub1, c1, c2, walkOf, co, la, ln, lawGate, -List.map_map]
    exact gc_app (newD_obD _ _)
  | xor x y =>
    have c1 : cmpop .eq (.str "xor") (.str "and") S = .ok (.bl false) S := by rw [str_eq]; congr 2
    have c2 : cmpop .eq (.str "xor") (.str "or") S = .ok (.bl false) S := by rw [str_eq]; congr 2
    have c3 : cmpop .eq (.str "xor") (.str "xor") S = .ok (.bl true) S := by rw [str_eq]; simp
    have e1 := law_ref_spec (G := G) (n := n) (d := d) (asLst_at h) x (hr x (by simp [Gate.refs]))
    have e2 := law_ref_spec (G := G) (n := n) (d := d) (asLst_at h) y (hr y (by simp [Gate.refs]))
    obtain ⟨X, hX⟩ : ∃ X, X = lawRef vs x := ⟨_, rfl⟩
    obtain ⟨Y, hY⟩ : ∃ Y, Y = lawRef vs y := ⟨_, rfl⟩
    rw [← hX] at e1
    rw [← hY] at e2
    have nl : newLst [obD X, obD Y] S = .ok (.ref S.length) (S ++ [.lst [obD X, obD Y]]) := by
      unfold newLst alloc
      rw [if_pos (by simp; omega)]
    have i1 : cmpop .isin .non (.ref S.length) (S ++ [.lst [obD X, obD Y]]) = .ok (.bl (decide (none ∈ [X, Y]))) (S ++ [.lst [obD X, obD Y]]) := isIn_obD (S := S ++ [Ob.lst [obD X, obD Y]]) (k := S.length) (ps := [X, Y]) (by simp) none
    have g0 : subscr (.ref S.length) (.int 0) (S ++ [.lst [obD X, obD Y]]) = .ok (obD X) (S ++ [.lst [obD X, obD Y]]) := by simp [subscr]
    have g1 : subscr (.ref S.length) (.int 1) (S ++ [.lst [obD X, obD Y]]) = .ok (obD Y) (S ++ [.lst [obD X, obD Y]]) := by simp [subscr]
    have lg : lawGate vs (.xor x y) = if none ∈ [X, Y] then none else some (X != Y) := by
      rw [lawGate_xor, ← hX, ← hY]
      cases X <;> cases Y <;> simp
      rename_i a b
      cases a <;> cases b <;> rfl
    rw [lg]
    have cn : ∀ S, cmpop .ne (obD X) (obD Y) S = .ok (.bl (X != Y)) S := fun S => by
      have := obD_eq X Y S
      simp only [cmpop] at this ⊢
      cases hq : eqS S (obD X) (obD Y) with
      | none => rw [hq] at this; cases this
      | some b =>
        rw [hq] at this
        have this : R.ok (Pv.D.bl b) S = R.ok (Pv.D.bl (decide (X = Y))) S := this
        injection this with e
        injection e with e
        subst e
        show R.ok (Pv.D.bl (!(decide (X = Y)))) S = _
        congr 2
        by_cases h : X = Y <;> simp [h, bne]
    by_cases m : none ∈ [X, Y]
    · rw [if_pos m]
      simp only [m, decide_true] at i1
      simp [c__law_gate_value, startD, Gate.D, sub0, sub1, sub2, c1, c2, c3, e1, e2, nl, i1]
      exact gc_app (x := .non) rfl
    · rw [if_neg m]
      simp only [m, decide_false] at i1
      simp [c__law_gate_value, startD, Gate.D, sub0, sub1, sub2, c1, c2, c3, e1, e2, nl, i1, g0, g1, cn]
      exact gc_app (x := .bl (X != Y)) rfl
  | ite x y z =>
    have c1 : cmpop .eq (.str "if") (.str "and") S = .ok (.bl false) S := by rw [str_eq]; congr 2
    have c2 : cmpop .eq (.str "if") (.str "or") S = .ok (.bl false) S := by rw [str_eq]; congr 2
    have c3 : cmpop .eq (.str "if") (.str "xor") S = .ok (.bl false) S := by rw [str_eq]; congr 2
    have s1 : sliced (.tup [.str "if", .int (x : Nat), .int (y : Nat), .int (z : Nat)]) (some 1) none S = .ok (.tup (natD [x, y, z])) S := by simp [sliced, cutD, HT.sIx, natD]
    have co := comp_refs (G := G) (n := n) (d := d) h (rs := [x, y, z]) hr (by simp) hn (some (Gate.ite x y z).D) none none none none
    obtain ⟨X, hX⟩ : ∃ X, X = lawRef vs x := ⟨_, rfl⟩
    obtain ⟨Y, hY⟩ : ∃ Y, Y = lawRef vs y := ⟨_, rfl⟩
    obtain ⟨Z, hZ⟩ : ∃ Z, Z = lawRef vs z := ⟨_, rfl⟩
    have em : ([x, y, z].map (lawRef vs)).map obD = [obD X, obD Y, obD Z] := by rw [hX, hY, hZ]; rfl
    rw [em] at co
    have sq : asSeq (S ++ [.lst [obD X, obD Y, obD Z]]) (.ref S.length) = some [obD X, obD Y, obD Z] := asLst_at (app_at0 _)
    simp only [Gate.D] at co
    rw [lawGate_ite, ← hX, ← hY, ← hZ]
    cases X with
    | none =>
      have cn : ∀ S, cmpop .isN (obD none) .non S = .ok (.bl true) S := fun S => rfl
      by_cases hq : Y = Z
      · rw [← hq] at co sq ⊢
        simp [c__law_gate_value, startD, Gate.D, sub0, c1, c2, c3, s1, walkOf, co, sq, cn, obD_eq]
        exact gc_app (newD_obD _ _)
      · simp [c__law_gate_value, startD, Gate.D, sub0, c1, c2, c3, s1, walkOf, co, sq, cn, obD_eq, hq]
        exact gc_app (by rfl)
    | some b =>
      have cn : ∀ S, cmpop .isN (obD (some b)) .non S = .ok (.bl false) S := fun S => rfl
      have tb : ∀ S, truth S (obD (some b)) = some b := fun S => rfl
      cases b with
      | true =>
        simp [c__law_gate_value, startD, Gate.D, sub0, c1, c2, c3, s1, walkOf, co, sq, cn, tb]
        exact gc_app (newD_obD _ _)
      | false =>
        simp [c__law_gate_value, startD, Gate.D, sub0, c1, c2, c3, s1, walkOf, co, sq, cn, tb]
        exact gc_app (newD_obD _ _)
end
end K74
end

section
set_option autoImplicit false
set_option linter.all false
set_option maxHeartbeats 2000000
set_option maxRecDepth 10000
/-! W3: all gates' values; who won. -/
namespace K74
open Pv Dia Lc
open PySem (Str)
open L2 (Key)
/-- gates over refs of what stands ahead of them -/
def WfG : Nat → List Gate → Prop
  | _, [] => True
  | m, g :: r => (∀ x ∈ g.refs, x < 2 * m) ∧ g.refs.length ≤ 400 ∧ WfG (m + 1) r
def reck : List Gate → List (Option Bool) → List (Option Bool)
  | [], vs => vs
  | g :: r, vs => reck r (vs ++ [lawGate vs g])
theorem reck_snoc : ∀ (gs : List Gate) (g : Gate) (vs : List (Option Bool)), reck (gs ++ [g]) vs = reck gs vs ++ [lawGate (reck gs vs) g]
  | [], g, vs => rfl
  | h :: gs, g, vs => reck_snoc gs g (vs ++ [lawGate vs h])
theorem reck_length : ∀ (gs : List Gate) (vs : List (Option Bool)), (reck gs vs).length = vs.length + gs.length
  | [], vs => rfl
  | g :: gs, vs => by
    show (reck gs (vs ++ [lawGate vs g])).length = _
    rw [reck_length gs]
    simp
    omega
theorem WfG.at : ∀ {gs : List Gate} {m : Nat}, WfG m gs → ∀ {i : Nat} {g : Gate}, gs[i]? = some g → (∀ x ∈ g.refs, x < 2 * (m + i)) ∧ g.refs.length ≤ 400
  | [], _, _, _, _, e => by simp at e
  | g :: gs, m, ⟨h1, h2, h3⟩, 0, g', e => by
    have e : g = g' := by simpa using e
    subst e
    exact ⟨h1, h2⟩
  | g :: gs, m, ⟨h1, h2, h3⟩, i + 1, g', e => by
    have := WfG.at h3 (i := i) (g := g') (by simpa using e)
    rw [show m + (i + 1) = m + 1 + i by omega]
    exact this
/-- who won: the wish's value -/
def lawWon (gs : List Gate) (wish : Nat) (vs : List (Option Bool)) : Option Bool := lawRef (reck gs vs) wish
section
variable {G : Prog} [LibW G] {n d : Nat} {S : Sto}
theorem law_reckoned_spec {gs : List Gate} {vs : List (Option Bool)} (hw : WfG vs.length gs) (hl : vs.length + gs.length < 4000) (hn : 5000 ≤ n) {told : Pv.D} (ht : ∀ S1, builtin .list [told] (S ++ S1) = alloc (.lst (vs.map obD)) (S ++ S1)) :
    Q G n (d + 3) 33 [.tup (gs.map Gate.D), told] S = .ok (.ref S.length) (S ++ [.lst ((reck gs vs).map obD)]) := by
  have sz : 16000000 ≤ PySem.sizeLine := by decide
  rw [Q, evQ_open (fn := ⟨2, 4, c__law_reckoned⟩) rfl (wfn (by decide)) rfl]
  obtain ⟨σ', S', e, s3, hσ, hS⟩ := loopF_fix (xs := gs.map Gate.D) (body := turnF G n (evQ G n oldF (d + 2)) (mkQ G n oldF (d + 2)) (.var 3) (.cons (.ex (.bm (.var 2) .append (.cons (.call 41 (.cons (.var 3) (.cons (.var 2) .nil))) .nil))) .nil))
    (fun i σ S' => ∃ s3, σ = [some (.tup (gs.map Gate.D)), some told, some (.ref S.length), s3] ∧ S' = S ++ [.lst ((reck (gs.take i) vs).map obD)])
    (w := n) (σ := [some (.tup (gs.map Gate.D)), some told, some (.ref S.length), none]) (S := S ++ [.lst (vs.map obD)]) (by simp; omega) ⟨none, rfl, rfl⟩
    (fun i x σ S' hx ⟨s3, hσ, hS⟩ => by
      subst hσ; subst hS
      rw [List.getElem?_map] at hx
      cases eg : gs[i]? with
      | none => rw [eg] at hx; cases hx
      | some g =>
        rw [eg] at hx
        have hx : g.D = x := Option.some.inj hx
        subst hx
        have hi : i < gs.length := (List.getElem?_eq_some_iff.mp eg).1
        obtain ⟨w1, w2⟩ := hw.at eg
        have len : (reck (gs.take i) vs).length = vs.length + i := by rw [reck_length, List.length_take]; omega
        obtain ⟨V, hV⟩ : ∃ V, V = reck (gs.take i) vs := ⟨_, rfl⟩
        rw [← hV] at len ⊢
        have gv := law_gate_value_spec (G := G) (n := n) (d := d) (S := S ++ [Ob.lst (V.map obD)]) (k := S.length) (vs := V) (by simp) g (fun r hr => by have := w1 r hr; omega) (by omega) hn
        have ap : bmethod .append (.ref S.length) [obD (lawGate V g)] (S ++ [Ob.lst (V.map obD)]) = .ok .non (S ++ [Ob.lst ((V ++ [lawGate V g]).map obD)]) := by
          simp [bmethod]
          omega
        have rc : bmRecv .append (.ref S.length) (S ++ [Ob.lst (V.map obD)]) = true := by simp [bmRecv]
        refine ⟨_, S ++ [Ob.lst ((V ++ [lawGate V g]).map obD)], .inl ?_, some g.D, rfl, ?_⟩
        · simp [turnF, rc, gv, ap, -List.map_append]
        · rw [List.take_succ, eg]
          simp only [Option.toList_some]
          rw [reck_snoc, ← hV])
  subst hσ; subst hS
  have ha := ht []
  rw [List.append_nil] at ha
  simp only [List.length_map, List.take_length] at e
  simp [c__law_reckoned, startD, ha, alloc, walkOf, e]
  exact gc_ref0 (newL_obD _ _)
theorem list_tup (xs : List Pv.D) (S : Sto) : builtin .list [.tup xs] S = alloc (.lst xs) S := rfl
theorem lawRef_ok {vs : List (Option Bool)} {r : Nat} : newD S.length (obD (lawRef vs r)) = [] := newD_obD _ _
theorem law_won_spec {gs : List Gate} {vs : List (Option Bool)} {wish : Nat} (sd : Pv.D) (hw : WfG vs.length gs) (hl : vs.length + gs.length < 4000) (hn : 5000 ≤ n) (hwi : wish < 2 * (vs.length + gs.length)) :
    Q G n (d + 4) 19 [.tup [sd, .tup (gs.map Gate.D), .int wish], .tup (vs.map obD)] S = .ok (obD (lawWon gs wish vs)) S := by
  rw [Q, evQ_open (fn := ⟨2, 2, c__law_won⟩) rfl (wfn (by decide)) rfl]
  have rk := law_reckoned_spec (G := G) (n := n) (d := d) (S := S) hw hl hn (told := .tup (vs.map obD)) fun S1 => rfl
  have lr := law_ref_spec (G := G) (n := n) (d := d + 2) (S := S ++ [Ob.lst ((reck gs vs).map obD)]) (told := .ref S.length) (vs := reck gs vs) (asLst_at (by simp)) wish (by rw [reck_length]; omega)
  have s1 : ∀ S, subscr (.tup [sd, .tup (gs.map Gate.D), .int wish]) (.int 1) S = .ok (.tup (gs.map Gate.D)) S := fun S => sub1 _ _ _
  have s2 : ∀ S, subscr (.tup [sd, .tup (gs.map Gate.D), .int wish]) (.int 2) S = .ok (.int wish) S := fun S => sub2 _ _ _ _
  simp [c__law_won, startD, s1, s2, rk, lr]
  exact gc_app (newD_obD _ _)
end
end K74
end

section
set_option autoImplicit false
set_option linter.all false
set_option maxHeartbeats 2000000
set_option maxRecDepth 10000
/-! W4: cells, rows of digits, bits, gates drawn. -/
namespace K74
open Pv Dia Lc
open PySem (Str)
open L2 (Key)
/-- the script's own value -/
def IsScript (x : Pv.D) (S : Sto) (ns : List Int) : Prop := (x = .ref 0 ∧ S[0]? = some (.clst (ns.map Pv.D.int))) ∨ x = .klst (ns.map Pv.D.int)
theorem IsScript.app {x : Pv.D} {S l : Sto} {ns : List Int} (h : IsScript x S ns) : IsScript x (S ++ l) ns := by
  rcases h with ⟨h1, h2⟩ | h
  · exact .inl ⟨h1, app_old h2⟩
  · exact .inr h
/-- a row of digits below some bounds -/
def RowOk (bs row : List Nat) : Prop := row.length = bs.length ∧ ∀ (k r b : Nat), row[k]? = some r → bs[k]? = some b → r < b
theorem getAt_int (ns : List Int) (k : Nat) {c : Int} (h : ns[k]? = some c) : getAt (ns.map Pv.D.int) (k : Nat) = some (.int c) := getAt_map Pv.D.int ns k h
section
variable {G : Prog} [LibW G] {n d : Nat} {S : Sto}
theorem law_cell_spec {x : Pv.D} {ns : List Int} (h : IsScript x S ns) (k : Nat) : Q G n (d + 1) 11 [x, .int k] S = .ok (.int ((ns[k]?).getD 0)) S := by
  rw [Q, evQ_open (fn := ⟨2, 2, c__law_cell⟩) rfl (wfn (by decide)) rfl]
  have ln : builtin .len [x] S = .ok (.int ns.length) S := by
    rcases h with ⟨h1, h2⟩ | h
    · subst h1; simp [builtin, h2]
    · subst h; simp [builtin]
  by_cases c : k < ns.length
  · have e : ns[k]? = some ns[k] := by simp [c]
    have c1 : cmpop .lt (.int (k : Nat)) (.int ns.length) S = .ok (.bl true) S := by simp [cmpop, c]
    have sg : subscr x (.int (k : Nat)) S = .ok (.int ns[k]) S := by
      have g := getAt_int ns k e
      rcases h with ⟨h1, h2⟩ | h
      · subst h1; simp only [subscr, h2, g]
      · subst h; simp only [subscr, g]
    rw [e]
    simp [c__law_cell, startD, ln, c1, sg]
    exact gc_same rfl
  · have e : ns[k]? = none := by simp; omega
    have c1 : cmpop .lt (.int (k : Nat)) (.int ns.length) S = .ok (.bl false) S := by simp [cmpop]; omega
    rw [e]
    simp [c__law_cell, startD, ln, c1]
    exact gc_same rfl
theorem mod_int (i j : Int) (h : 0 < j) (S : Sto) : binop .mod (.int i) (.int j) S = .ok (.int (i % j)) S := by simp [binop, h]
theorem fdiv_int (i j : Int) (h : 0 < j) (h2 : j < 1073741824) (S : Sto) : binop .fdiv (.int i) (.int j) S = .ok (.int (i / j)) S := by simp [binop, h, h2]
theorem mul_r (i j : Int) (h : -(2 ^ 64) < j ∧ j < 2 ^ 64) (S : Sto) : binop .mul (.int i) (.int j) S = .ok (.int (i * j)) S := by
  have : smallMul i j = true := by
    unfold smallMul
    simp only [Bool.or_eq_true, Bool.and_eq_true, decide_eq_true_eq]
    exact .inr h
  simp only [binop, this, if_true]
theorem mul_l (i j : Int) (h : -(2 ^ 64) < i ∧ i < 2 ^ 64) (S : Sto) : binop .mul (.int i) (.int j) S = .ok (.int (i * j)) S := by
  have : smallMul i j = true := by
    unfold smallMul
    simp only [Bool.or_eq_true, Bool.and_eq_true, decide_eq_true_eq]
    exact .inl h
  simp only [binop, this, if_true]
theorem bi_int (i : Int) (S : Sto) : builtin .int [.int i] S = .ok (.int i) S := rfl
theorem append_at {l : Sto} {k : Nat} {xs : List Pv.D} {y : Pv.D} (h : S[k]? = some (.lst xs)) (hl : xs.length < 16000000) : bmethod .append (.ref k) [y] S = .ok .non (S.set k (.lst (xs ++ [y]))) := by
  have sz : 16000000 ≤ PySem.sizeLine := by decide
  simp only [bmethod, h]
  rw [if_pos (by omega)]
theorem recv_append {k : Nat} {xs : List Pv.D} (h : S[k]? = some (.lst xs)) : bmRecv .append (.ref k) S = true := by simp [bmRecv, h]
theorem rng_at (m i : Nat) (h : i < m) (S : Sto) : (IS.rng 0 1 m).at i S = some (some (.int i)) := by simp [IS.at, h]
theorem newLst_ok {xs : List Pv.D} (h : xs.length < 16000000) : newLst xs S = .ok (.ref S.length) (S ++ [.lst xs]) := by
  have sz : 16000000 ≤ PySem.sizeLine := by decide
  unfold newLst alloc
  rw [if_pos (by omega)]
theorem pow1018 (S : Sto) : binop .pow (.int 10) (.int 18) S = .ok (.int (10 ^ 18)) S := by simp [binop]
def rowBody : C := match c__law_row with
  | .cons _ (.cons _ (.cons _ (.cons _ (.cons (.forr _ _ b) _)))) => b
  | _ => .nil
/-- the loop's stand -/
def RowP (S : Sto) (cell : Int) (bl : Nat) (great : Bool) (bs : List Nat) (i : Nat) (σ : Sl) (S' : Sto) : Prop := ∃ (left mixed : Int) (s6 : Option Pv.D) (row : List Nat), σ = [some (.int cell), some (.ref bl), some (.int left), some (.bl great), some (.int mixed), some (.ref S.length), s6] ∧ S' = S ++ [Ob.lst (natD row)] ∧ row.length = i ∧ 0 ≤ left ∧ 0 ≤ mixed ∧
      ∀ (k r b : Nat), row[k]? = some r → bs[k]? = some b → r < b
theorem row_turn (cell : Int) {bl : Nat} {great : Bool} {bs : List Nat} (hb : S[bl]? = some (.lst (natD bs))) (hpos : ∀ b ∈ bs, 0 < b ∧ b < 1073741824) (hl : bs.length < 4000) (i : Nat) (σ : Sl) (S' : Sto) (hi : i < bs.length) (hp : RowP S cell bl great bs i σ S') :
    ∃ σ2 S2, (turnF G n (evQ G n oldF d) (mkQ G n oldF d) (.var 6) rowBody (.int (0 + (i : Int) * 1)) σ S' = .nx σ2 S2 ∨ turnF G n (evQ G n oldF d) (mkQ G n oldF d) (.var 6) rowBody (.int (0 + (i : Int) * 1)) σ S' = .ct σ2 S2) ∧ RowP S cell bl great bs (i + 1) σ2 S2 := by
  obtain ⟨left, mixed, s6, row, hσ, hS, h1, h2, h3, h4⟩ := hp
  subst hσ; subst hS
  rw [show (0 : Int) + (i : Int) * 1 = i by omega]
  obtain ⟨b, eb⟩ : ∃ b, bs[i]? = some b := ⟨bs[i], by simp [hi]⟩
  obtain ⟨bp, bq⟩ := hpos b (List.mem_of_getElem? eb)
  obtain ⟨mx, hmx⟩ : ∃ m, m = ((mixed * 48271 + 29 * i + 17) % 2147483647 * 69621 + 13 * i + 5) % 2147483629 := ⟨_, rfl⟩
  have mx0 : 0 ≤ mx := by rw [hmx]; exact Int.emod_nonneg _ (by decide)
  have sb : ∀ xs : List Pv.D, subscr (.ref bl) (.int (i : Nat)) (S ++ [Ob.lst xs]) = .ok (.int (b : Nat)) (S ++ [Ob.lst xs]) := fun _ => by
    have g := getAt_map (fun i : Nat => Pv.D.int i) bs i eb
    have g : getAt (natD bs) (i : Nat) = some (.int (b : Nat)) := g
    simp only [subscr, app_old hb, g]
  have rc : bmRecv .append (.ref S.length) (S ++ [Ob.lst (natD row)]) = true := recv_append (xs := natD row) (by simp)
  have ap : ∀ y, bmethod .append (.ref S.length) [y] (S ++ [Ob.lst (natD row)]) = .ok .non (S ++ [Ob.lst (natD row ++ [y])]) := fun y => by
    rw [append_at (l := []) (xs := natD row) (by simp) (by unfold natD; simp; omega), app_set0]
  have m1 : ∀ (x : Int) (S : Sto), binop .mul (.int x) (.int 48271) S = .ok (.int (x * 48271)) S := fun x S => mul_r _ _ (by decide) S
  have m2 : ∀ (x : Int) (S : Sto), binop .mul (.int 29) (.int x) S = .ok (.int (29 * x)) S := fun x S => mul_l _ _ (by decide) S
  have m3 : ∀ (x : Int) (S : Sto), binop .mul (.int x) (.int 69621) S = .ok (.int (x * 69621)) S := fun x S => mul_r _ _ (by decide) S
  have m4 : ∀ (x : Int) (S : Sto), binop .mul (.int 13) (.int x) S = .ok (.int (13 * x)) S := fun x S => mul_l _ _ (by decide) S
  have d1 : ∀ (x : Int) (S : Sto), binop .mod (.int x) (.int 2147483647) S = .ok (.int (x % 2147483647)) S := fun x S => mod_int _ _ (by decide) S
  have d2 : ∀ (x : Int) (S : Sto), binop .mod (.int x) (.int 2147483629) S = .ok (.int (x % 2147483629)) S := fun x S => mod_int _ _ (by decide) S
  have d3 : ∀ (x : Int) (S : Sto), binop .fdiv (.int x) (.int 7) S = .ok (.int (x / 7)) S := fun x S => fdiv_int _ _ (by decide) (by decide) S
  have d4 : ∀ (x : Int) (S : Sto), binop .mod (.int x) (.int (b : Nat)) S = .ok (.int (x % b)) S := fun x S => mod_int _ _ (by omega) S
  have d5 : ∀ (x : Int) (S : Sto), binop .fdiv (.int x) (.int (b : Nat)) S = .ok (.int (x / b)) S := fun x S => fdiv_int _ _ (by omega) (by omega) S
  have c1 : ∀ (x : Int) (S : Sto), cmpop .gt (.int x) (.int 0) S = .ok (.bl (decide (0 < x))) S := fun x S => rfl
  have fin : ∀ (left' v : Int), 0 ≤ left' → 0 ≤ v → v < b → ∃ (left mixed : Int) (s6 : Option Pv.D) (row' : List Nat), [some (Pv.D.int cell), some (.ref bl), some (.int left'), some (.bl great), some (.int mx), some (.ref S.length), some (.int (i : Nat))] = [some (.int cell), some (.ref bl), some (.int left), some (.bl great), some (.int mixed), some (.ref S.length), s6] ∧
      S ++ [Ob.lst (natD row ++ [.int v])] = S ++ [.lst (natD row')] ∧ row'.length = i + 1 ∧ 0 ≤ left ∧ 0 ≤ mixed ∧ ∀ (k r b : Nat), row'[k]? = some r → bs[k]? = some b → r < b := fun left' v a1 a2 a3 => by
    refine ⟨left', mx, _, row ++ [v.toNat], rfl, ?_, by simp [h1], a1, mx0, fun k r b' e1 e2 => ?_⟩
    · have : ((v.toNat : Nat) : Int) = v := Int.toNat_of_nonneg a2
      simp [natD, this]
    · by_cases hk : k < row.length
      · rw [List.getElem?_append_left hk] at e1
        exact h4 k r b' e1 e2
      · have hk2 : k = i := by
          have := (List.getElem?_eq_some_iff.mp e1).1
          simp at this
          omega
        subst hk2
        rw [eb] at e2
        cases e2
        rw [List.getElem?_append_right (by omega), h1] at e1
        simp at e1
        omega
  by_cases cg : great = true ∧ 0 < left
  · obtain ⟨g1, g2⟩ := cg
    refine ⟨_, _, .inl ?_, fin (left / b) (left % b) (Int.ediv_nonneg h2 (by omega)) (Int.emod_nonneg _ (by omega)) (Int.emod_lt_of_pos _ (by omega))⟩
    subst g1
    simp [turnF, rowBody, c__law_row, m1, m2, m3, m4, d1, d2, bi_int, add_int, c1, g2, rc, sb, d4, ap, d5, hmx]
  · refine ⟨_, _, .inl ?_, fin left (mx / 7 % b) h2 (Int.emod_nonneg _ (by omega)) (Int.emod_lt_of_pos _ (by omega))⟩
    by_cases g1 : great = true
    · have g2 : ¬ 0 < left := fun h => cg ⟨g1, h⟩
      subst g1
      simp [turnF, rowBody, c__law_row, m1, m2, m3, m4, d1, d2, bi_int, add_int, c1, g2, rc, sb, d4, ap, d3, hmx]
    · have g1 : great = false := by simpa using g1
      subst g1
      simp [turnF, rowBody, c__law_row, m1, m2, m3, m4, d1, d2, bi_int, add_int, c1, rc, sb, d4, ap, d3, hmx]
theorem law_row_spec (cell : Int) {bl : Nat} {bs : List Nat} (hb : S[bl]? = some (.lst (natD bs))) (hpos : ∀ b ∈ bs, 0 < b ∧ b < 1073741824) (hl : bs.length < 4000) (hn : 5000 ≤ n) :
    ∃ row, RowOk bs row ∧ Q G n (d + 1) 10 [.int cell, .ref bl] S = .ok (.ref S.length) (S ++ [.lst (natD row)]) := by
  have sz : 16000000 ≤ PySem.sizeLine := by decide
  obtain ⟨great, hgreat⟩ : ∃ g, g = decide ((10 : Int) ^ 18 ≤ if cell < 0 then -cell else cell) := ⟨_, rfl⟩
  obtain ⟨left0, hleft0⟩ : ∃ l, l = (if cell < 0 then -cell else cell) := ⟨_, rfl⟩
  have l0 : 0 ≤ left0 := by rw [hleft0]; split <;> omega
  obtain ⟨σ', S', e, left, mixed, s6, row, hσ, hS, h1, h2, h3, h4⟩ := loopF_rng (lo := 0) (st := 1) (m := bs.length) (body := turnF G n (evQ G n oldF d) (mkQ G n oldF d) (.var 6) rowBody) (RowP S cell bl great bs)
    (w := n) (σ := [some (.int cell), some (.ref bl), some (.int left0), some (.bl great), some (.int (left0 % 2147483647)), some (.ref S.length), none]) (S := S ++ [.lst []]) (by omega)
    ⟨left0, left0 % 2147483647, none, [], rfl, rfl, rfl, l0, Int.emod_nonneg _ (by decide), fun k r b h => by simp at h⟩ (row_turn cell hb hpos hl)
  subst hσ; subst hS
  refine ⟨row, ⟨h1, h4⟩, ?_⟩
  rw [Q, evQ_open (fn := ⟨2, 7, c__law_row⟩) rfl (wfn (by decide)) rfl]
  have ab : builtin .abs [.int cell] S = .ok (.int left0) S := by simp [builtin, hleft0]
  have c1 : ∀ (j : Int) (S : Sto), cmpop .ge (.int left0) (.int j) S = .ok (.bl (decide (j ≤ left0))) S := fun j S => rfl
  have pw : ∀ S, binop .pow (.int 10) (.int 18) S = .ok (.int (10 ^ 18)) S := pow1018
  have d1 : ∀ (x : Int) (S : Sto), binop .mod (.int x) (.int 2147483647) S = .ok (.int (x % 2147483647)) S := fun x S => mod_int _ _ (by decide) S
  have nl := newLst_ok (xs := []) (S := S) (by simp)
  have ln : builtin .len [.ref bl] (S ++ [.lst []]) = .ok (.int bs.length) (S ++ [.lst []]) := by simp [builtin, app_old hb, natD]
  have ra : ∀ S, rangeOf [.int bs.length] S = .ok (.rng 0 1 bs.length) S := fun S => by
    have : inRange62 (bs.length : Int) = true := by simp [inRange62]; omega
    simp [rangeOf, this]
  rw [← hleft0] at hgreat
  obtain ⟨T18, hT⟩ : ∃ T : Int, T = 10 ^ 18 := ⟨_, rfl⟩
  rw [← hT] at hgreat pw
  rw [hgreat] at e
  simp only [rowBody, c__law_row] at e
  simp -implicitDefEqProofs [c__law_row, startD, ab, pw, c1, d1, bi_int, nl, ln, ra, e]
  exact gc_ref0 (by simp [natD])
end
end K74
end

section
set_option autoImplicit false
set_option linter.all false
set_option maxHeartbeats 2000000
set_option maxRecDepth 10000
/-! W5: bits, plays, a drawn gate. -/
namespace K74
open Pv Dia Lc
open PySem (Str)
open L2 (Key)
/-- all plays of so many flags, in order -/
def allPlays : Nat → List (List Bool)
  | 0 => [[]]
  | m + 1 => (allPlays m).flatMap fun p => [p ++ [false], p ++ [true]]
theorem allPlays_length (m : Nat) : (allPlays m).length = 2 ^ m := by
  induction m with
  | zero => rfl
  | succ m ih =>
    have : ∀ l : List (List Bool), (l.flatMap fun p => [p ++ [false], p ++ [true]]).length = 2 * l.length := fun l => by
      induction l with
      | nil => rfl
      | cons p l ih => rw [List.flatMap_cons, List.length_append, ih]; simp; omega
    show ((allPlays m).flatMap _).length = _
    rw [this, ih, Nat.pow_succ]; omega
theorem allPlays_mem {m : Nat} {p : List Bool} (h : p ∈ allPlays m) : p.length = m := by
  induction m generalizing p with
  | zero => simp [allPlays] at h; subst h; rfl
  | succ m ih =>
    obtain ⟨q, hq, h2⟩ := List.mem_flatMap.mp h
    have := ih hq
    simp at h2
    rcases h2 with h2 | h2 <;> subst h2 <;> simp [this]
def bitsD (p : List Bool) : Pv.D := .tup (p.map Pv.D.bl)
@[simp] theorem newD_bits (k : Nat) (p : List Bool) : newD k (bitsD p) = [] := newL_bls k p
@[simp] theorem newL_bits (k : Nat) (ps : List (List Bool)) : newL k (ps.map bitsD) = [] := newL_map (newD_bits k) ps
section
variable {G : Prog} [LibW G] {n d : Nat} {S : Sto}
theorem range_ok (m : Nat) (hl : m < 16000000) (S : Sto) : rangeOf [.int m] S = .ok (.rng 0 1 m) S := by
  have : inRange62 (m : Int) = true := by simp [inRange62]; omega
  simp [rangeOf, this]
def bitsBody : C := match c__law_bits with
  | .cons _ (.cons (.forr _ _ b) _) => b
  | _ => .nil
theorem law_bits_spec (number : Int) (m : Nat) (hm : m < 4000) (hn : 5000 ≤ n) : ∃ bits : List Bool, bits.length = m ∧ Q G n (d + 1) 6 [.int number, .int m] S = .ok (bitsD bits) S := by
  obtain ⟨σ', S', e, num, s3, bits, hσ, hS, hb⟩ := loopF_rng (lo := 0) (st := 1) (m := m) (body := turnF G n (evQ G n oldF d) (mkQ G n oldF d) (.var 3) bitsBody)
    (fun i σ S' => ∃ (num : Int) (s3 : Option Pv.D) (bits : List Bool), σ = [some (.int num), some (.int m), some (.ref S.length), s3] ∧ S' = S ++ [Ob.lst (bits.map Pv.D.bl)] ∧ bits.length = i)
    (w := n) (σ := [some (.int number), some (.int m), some (.ref S.length), none]) (S := S ++ [Ob.lst []]) (by omega) ⟨number, none, [], rfl, rfl, rfl⟩
    (fun i σ S' hi ⟨num, s3, bits, hσ, hS, hb⟩ => by
      subst hσ; subst hS
      have d1 : ∀ S, binop .mod (.int num) (.int 2) S = .ok (.int (num % 2)) S := fun S => mod_int _ _ (by decide) S
      have d3 : ∀ S, binop .fdiv (.int num) (.int 2) S = .ok (.int (num / 2)) S := fun S => fdiv_int _ _ (by decide) (by decide) S
      have c1 : ∀ S, cmpop .eq (.int (num % 2)) (.int 1) S = .ok (.bl (decide (num % 2 = 1))) S := fun S => rfl
      have rc : bmRecv .append (.ref S.length) (S ++ [Ob.lst (bits.map Pv.D.bl)]) = true := recv_append (xs := bits.map Pv.D.bl) (by simp)
      have ap : bmethod .append (.ref S.length) [.bl (decide (num % 2 = 1))] (S ++ [Ob.lst (bits.map Pv.D.bl)]) = .ok .non (S ++ [Ob.lst ((bits ++ [decide (num % 2 = 1)]).map Pv.D.bl)]) := by
        rw [append_at (l := []) (xs := bits.map Pv.D.bl) (by simp) (by simp; omega), app_set0]
        simp
      refine ⟨[some (.int (num / 2)), some (.int m), some (.ref S.length), some (.int (0 + (i : Int) * 1))], S ++ [Ob.lst ((bits ++ [decide (num % 2 = 1)]).map Pv.D.bl)], .inl ?_, num / 2, _, bits ++ [decide (num % 2 = 1)], rfl, rfl, by simp [hb]⟩
      simp -implicitDefEqProofs [turnF, bitsBody, c__law_bits, d1, c1, rc, ap, d3, -List.map_append])
  subst hσ; subst hS
  refine ⟨bits, hb, ?_⟩
  rw [Q, evQ_open (fn := ⟨2, 4, c__law_bits⟩) rfl (wfn (by decide)) rfl]
  have nl := newLst_ok (xs := []) (S := S) (by simp)
  have ra := range_ok m (by omega) (S ++ [Ob.lst []])
  have tp : builtin .tuple [.ref S.length] (S ++ [Ob.lst (bits.map Pv.D.bl)]) = .ok (bitsD bits) (S ++ [Ob.lst (bits.map Pv.D.bl)]) := by simp [builtin, bitsD]
  simp only [bitsBody, c__law_bits] at e
  simp -implicitDefEqProofs [c__law_bits, startD, nl, ra, e, tp]
  exact gc_app (newD_bits _ _)
theorem tup1_ok (x : Pv.D) (S : Sto) : newTup [x] S = .ok (.tup [x]) S := by
  have sz : 16000000 ≤ PySem.sizeLine := by decide
  unfold newTup
  rw [if_pos (by simp; omega)]
theorem add_tup {a b : List Pv.D} (h : a.length + b.length < 16000000) (S : Sto) : binop .add (.tup a) (.tup b) S = .ok (.tup (a ++ b)) S := by
  have sz : 16000000 ≤ PySem.sizeLine := by decide
  show newTup (a ++ b) S = _
  unfold newTup
  rw [if_pos (by rw [List.length_append]; omega)]
theorem add_lst {i j : Nat} {a b : List Pv.D} (hi : S[i]? = some (.lst a)) (hj : S[j]? = some (.lst b)) (h : a.length + b.length < 16000000) : binop .add (.ref i) (.ref j) S = .ok (.ref S.length) (S ++ [Ob.lst (a ++ b)]) := by
  simp only [binop, hi, hj]
  exact newLst_ok (by rw [List.length_append]; exact h)
theorem play_snoc (p : List Bool) (b : Bool) (S : Sto) (h : p.length < 1000) : binop .add (bitsD p) (.tup [.bl b]) S = .ok (bitsD (p ++ [b])) S := by
  unfold bitsD
  rw [add_tup (by simp; omega)]
  simp
def playsIn : C := match c__law_plays with
  | .cons _ (.cons (.forr _ _ (.cons _ (.cons (.forr _ _ b) _))) _) => b
  | _ => .nil
def playsOut : C := match c__law_plays with
  | .cons _ (.cons (.forr _ _ b) _) => b
  | _ => .nil
/-- two plays behind each -/
def twice (ps : List (List Bool)) : List (List Bool) := ps.flatMap fun p => [p ++ [false], p ++ [true]]
theorem twice_snoc (ps : List (List Bool)) (p : List Bool) : twice (ps ++ [p]) = twice ps ++ [p ++ [false], p ++ [true]] := by simp [twice]
theorem twice_length (ps : List (List Bool)) : (twice ps).length = 2 * ps.length := by
  induction ps with
  | nil => rfl
  | cons p ps ih =>
    have : twice (p :: ps) = [p ++ [false], p ++ [true]] ++ twice ps := rfl
    rw [this, List.length_append, ih]; simp; omega
theorem plays_inner {m f : Nat} {S0 : Sto} {ps : List (List Bool)} {x s2 s4 : Option Pv.D} (hf : S0[f]? = some (.lst (ps.map bitsD))) (hps : ∀ p ∈ ps, p.length < 900) (hl : ps.length < 100000) (hn : 200000 ≤ n) :
    ∃ J g s4', loopF (.lst f) (turnF G n (evQ G n oldF d) (mkQ G n oldF d) (.var 4) playsIn) n 0 [x, some (.ref f), s2, some (.ref S0.length), s4] (S0 ++ [Ob.lst []]) = .nx [x, some (.ref f), s2, some (.ref g), s4'] (S0 ++ J) ∧ S0.length ≤ g ∧ (S0 ++ J)[g]? = some (.lst ((twice ps).map bitsD)) := by
  obtain ⟨σ', S', e, J, g, s4', hσ, hS, h1, h2⟩ := loopF_lst (n := f) (xs := ps.map bitsD) (body := turnF G n (evQ G n oldF d) (mkQ G n oldF d) (.var 4) playsIn)
    (fun i σ S' => ∃ (J : Sto) (g : Nat) (s4 : Option Pv.D), σ = [x, some (.ref f), s2, some (.ref g), s4] ∧ S' = S0 ++ J ∧ S0.length ≤ g ∧ (S0 ++ J)[g]? = some (.lst ((twice (ps.take i)).map bitsD)))
    (w := n) (σ := [x, some (.ref f), s2, some (.ref S0.length), s4]) (S := S0 ++ [Ob.lst []]) (by simp; omega) ⟨[Ob.lst []], S0.length, s4, rfl, rfl, Nat.le_refl _, by simp [twice]⟩
    (fun i σ S' ⟨J, g, s4, hσ, hS, h1, h2⟩ => by subst hS; exact app_old hf)
    (fun i y σ S' hy ⟨J, g, s4, hσ, hS, h1, h2⟩ => by
      subst hσ; subst hS
      rw [List.getElem?_map] at hy
      cases ep : ps[i]? with
      | none => rw [ep] at hy; cases hy
      | some p =>
        rw [ep] at hy
        have hy : bitsD p = y := Option.some.inj hy
        subst hy
        have hi : i < ps.length := (List.getElem?_eq_some_iff.mp ep).1
        have hp := hps p (List.mem_of_getElem? ep)
        have p0 := fun S => play_snoc p false S (by omega)
        have p1 := fun S => play_snoc p true S (by omega)
        have nl := newLst_ok (xs := [bitsD (p ++ [false]), bitsD (p ++ [true])]) (S := S0 ++ J) (by simp)
        have hg : (S0 ++ J ++ [Ob.lst [bitsD (p ++ [false]), bitsD (p ++ [true])]])[g]? = some (.lst ((twice (ps.take i)).map bitsD)) := app_old h2
        have ad := add_lst (S := S0 ++ J ++ [Ob.lst [bitsD (p ++ [false]), bitsD (p ++ [true])]]) (i := g) (j := (S0 ++ J).length) (b := [bitsD (p ++ [false]), bitsD (p ++ [true])]) hg (by simp) (by rw [List.length_map, twice_length, List.length_take]; simp; omega)
        have em : (twice (ps.take (i + 1))).map bitsD = (twice (ps.take i)).map bitsD ++ [bitsD (p ++ [false]), bitsD (p ++ [true])] := by
          rw [List.take_succ, ep]
          simp only [Option.toList_some]
          rw [twice_snoc]; simp
        refine ⟨[x, some (.ref f), s2, some (.ref (S0 ++ J ++ [Ob.lst [bitsD (p ++ [false]), bitsD (p ++ [true])]]).length), some (bitsD p)], S0 ++ (J ++ [Ob.lst [bitsD (p ++ [false]), bitsD (p ++ [true])]] ++ [Ob.lst ((twice (ps.take i)).map bitsD ++ [bitsD (p ++ [false]), bitsD (p ++ [true])])]), .inl ?_, _, _, _, rfl, rfl, ?_, ?_⟩
        · obtain ⟨S1, hS1⟩ : ∃ S1, S1 = S0 ++ J := ⟨_, rfl⟩
          have e2 : S0 ++ (J ++ [Ob.lst [bitsD (p ++ [false]), bitsD (p ++ [true])]] ++ [Ob.lst ((twice (ps.take i)).map bitsD ++ [bitsD (p ++ [false]), bitsD (p ++ [true])])]) = S1 ++ [Ob.lst [bitsD (p ++ [false]), bitsD (p ++ [true])]] ++ [Ob.lst ((twice (ps.take i)).map bitsD ++ [bitsD (p ++ [false]), bitsD (p ++ [true])])] := by rw [hS1]; simp
          rw [e2]
          rw [← hS1] at nl ad ⊢
          obtain ⟨S2, hS2⟩ : ∃ S2, S2 = S1 ++ [Ob.lst [bitsD (p ++ [false]), bitsD (p ++ [true])]] := ⟨_, rfl⟩
          rw [← hS2] at nl ad ⊢
          simp -implicitDefEqProofs [turnF, playsIn, c__law_plays, tup1_ok, p0, p1, nl, ad]
        · simp
        · rw [em, ← List.append_assoc, ← List.append_assoc]
          simp only [app_at0])
  subst hσ; subst hS
  rw [List.length_map, List.take_length] at h2
  exact ⟨J, g, s4', e, h1, h2⟩
theorem law_plays_spec {m : Nat} (hm : m ≤ 14) (hn : 200000 ≤ n) : Q G n (d + 1) 20 [.int m] S = .ok (.ref S.length) (S ++ [Ob.lst ((allPlays m).map bitsD)]) := by
  obtain ⟨σ', S', e, J, f, s2, s3, s4, hσ, hS, h1, h2⟩ := loopF_rng (lo := 0) (st := 1) (m := m) (body := turnF G n (evQ G n oldF d) (mkQ G n oldF d) (.var 2) playsOut)
    (fun i σ S' => ∃ (J : Sto) (f : Nat) (s2 s3 s4 : Option Pv.D), σ = [some (.int m), some (.ref f), s2, s3, s4] ∧ S' = S ++ J ∧ S.length ≤ f ∧ (S ++ J)[f]? = some (.lst ((allPlays i).map bitsD)))
    (w := n) (σ := [some (.int m), some (.ref S.length), none, none, none]) (S := S ++ [Ob.lst [.tup []]]) (by omega) ⟨[Ob.lst [.tup []]], S.length, none, none, none, rfl, rfl, Nat.le_refl _, by simp [allPlays, bitsD]⟩
    (fun i σ S' hi ⟨J, f, s2, s3, s4, hσ, hS, h1, h2⟩ => by
      subst hσ; subst hS
      rw [show (0 : Int) + (i : Int) * 1 = i by omega]
      have le : 2 ^ i ≤ 2 ^ 14 := Nat.pow_le_pow_right (by omega) (by omega)
      obtain ⟨J2, g, s4', e, h3, h4⟩ := plays_inner (G := G) (n := n) (d := d) (m := m) (x := some (.int m)) (s2 := some (.int (i : Nat))) (s4 := s4) h2 (fun p hp => by have := allPlays_mem hp; omega) (by rw [allPlays_length]; omega) hn
      have nl := newLst_ok (xs := []) (S := S ++ J) (by simp)
      have wl : ∀ l, walkOf (.ref f) (S ++ J ++ l) = .ok (.lst f) (S ++ J ++ l) := fun l => by simp only [walkOf, app_old h2]
      refine ⟨[some (.int m), some (.ref g), some (.int (i : Nat)), some (.ref g), s4'], S ++ (J ++ J2), .inl ?_, _, _, _, _, _, rfl, rfl, ?_, ?_⟩
      · rw [← List.append_assoc]
        obtain ⟨S1, hS1⟩ : ∃ S1, S1 = S ++ J := ⟨_, rfl⟩
        rw [← hS1] at e nl wl ⊢
        simp only [playsIn, c__law_plays] at e
        simp -implicitDefEqProofs [turnF, playsOut, c__law_plays, nl, wl, e]
      · simp at h3; omega
      · rw [← List.append_assoc]; exact h4)
  subst hσ; subst hS
  rw [Q, evQ_open (fn := ⟨1, 5, c__law_plays⟩) rfl (wfn (by decide)) rfl]
  have t0 : ∀ S, newTup [] S = .ok (.tup []) S := fun S => by
    unfold newTup
    rw [if_pos (by simp)]
  have nl := newLst_ok (xs := [.tup []]) (S := S) (by simp)
  have ra := range_ok m (by omega) (S ++ [Ob.lst [.tup []]])
  simp only [playsOut, c__law_plays] at e
  simp -implicitDefEqProofs [c__law_plays, startD, t0, nl, ra, e]
  rw [gc_ref h2 h1 (by simp) OldOk.app]
  simp
end
end K74
end

section
set_option autoImplicit false
set_option linter.all false
set_option maxHeartbeats 2000000
set_option maxRecDepth 10000
/-! W6: drawn gates and books. -/
namespace K74
open Pv Dia Lc
open PySem (Str)
open L2 (Key)
@[simp] theorem newL_natD (k : Nat) (r : List Nat) : newL k (natD r) = [] := newL_nats k r
@[simp] theorem newD_gate (k : Nat) (g : Gate) : newD k g.D = [] := by cases g <;> simp [Gate.D]
@[simp] theorem newL_gates (k : Nat) (gs : List Gate) : newL k (gs.map Gate.D) = [] := newL_map (newD_gate k) gs
theorem cut_nat (xs : List Pv.D) (lo hi : Nat) (h : hi ≤ xs.length) (h2 : lo ≤ hi) : cutD xs (some lo) (some hi) = (xs.drop lo).take (hi - lo) := by
  unfold cutD
  rw [HT.sIx_nat, HT.sIx_nat, Nat.min_eq_left h, Nat.min_eq_left (by omega)]
theorem cut_lo (xs : List Pv.D) (lo : Nat) (h : lo ≤ xs.length) : cutD xs (some lo) none = xs.drop lo := by
  unfold cutD
  rw [HT.sIx_nat, HT.sIx_none, Nat.min_eq_left h]
  exact List.take_of_length_le (by rw [List.length_drop]; omega)
theorem cut_hi (xs : List Pv.D) (hi : Nat) (h : hi ≤ xs.length) : cutD xs none (some hi) = xs.take hi := by
  unfold cutD
  rw [HT.sIx_nat, HT.sIx_none, Nat.min_eq_left h]
  simp
theorem natD_get {r : List Nat} {k v : Nat} (h : r[k]? = some v) : getAt (natD r) (k : Nat) = some (.int v) := getAt_map (fun i : Nat => Pv.D.int i) r k h
section
variable {G : Prog} [LibW G] {n d : Nat} {S : Sto}
theorem slice_lst {k : Nat} {xs : List Pv.D} (h : S[k]? = some (.lst xs)) (lo hi : Option Int) : sliced (.ref k) lo hi S = .ok (.ref S.length) (S ++ [Ob.lst (cutD xs lo hi)]) := by
  simp only [sliced, h]
  rfl
theorem sub_lst {k : Nat} {xs : List Pv.D} (h : S[k]? = some (.lst xs)) {i : Nat} {v : Pv.D} (hv : xs[i]? = some v) : subscr (.ref k) (.int (i : Nat)) S = .ok v S := by
  have : getAt xs (i : Nat) = some v := by rw [getAt_nat _ _ (List.getElem?_eq_some_iff.mp hv).1]; exact hv
  simp only [subscr, h, this]
theorem tuple_lst {k : Nat} {xs : List Pv.D} (h : S[k]? = some (.lst xs)) : builtin .tuple [.ref k] S = .ok (.tup xs) S := by simp [builtin, h]
theorem int_eq (i j : Int) (S : Sto) : cmpop .eq (.int i) (.int j) S = .ok (.bl (decide (i = j))) S := rfl
theorem comp_mods (b : Nat) (hb : 0 < b) (xs : List Nat) (hl : xs.length < 1000) (hn : 5000 ≤ n) {r : Nat} (hr : S[r]? = some (.lst (natD xs))) (x s2 s3 : Option Pv.D) :
    loopC (.lst r) S.length (turnE G n (evQ G n oldF d) (mkQ G n oldF d) (.bin .mod (.var 3) (.var 1)) (.var 3) .nil [3] [x, some (.int b), s2, s3]) n 0 (S ++ [.lst []]) = .ok (.ref S.length) (S ++ [Ob.lst (natD (xs.map (· % b)))]) := by
  have := comp_m (S := S) (src := .lst r) (n := n) (ys := xs) (e := fun i : Nat => Pv.D.int i) (turn := turnE G n (evQ G n oldF d) (mkQ G n oldF d) (.bin .mod (.var 3) (.var 1)) (.var 3) .nil [3] [x, some (.int b), s2, s3])
    (fun i => .int ((i % b : Nat) : Int)) (src_lst hr) (by omega) (by omega) fun i _ o => by
      have : binop .mod (.int (i : Nat)) (.int (b : Nat)) (S ++ [o]) = .ok (.int ((i % b : Nat) : Int)) (S ++ [o]) := by
        rw [mod_int _ _ (by omega)]; simp
      simp -implicitDefEqProofs only [turnE, wipeD, evG_var, evK_nil, evE_bin, evE_var, List.length_cons, List.length_nil, List.set, List.getElem?_cons_succ, List.getElem?_cons_zero, bind_ok, this]
  rw [this]
  unfold natD
  rw [List.map_map]
  rfl
theorem law_gate_spec {r a0 a1 a2 a3 b : Nat} (hr : S[r]? = some (.lst (natD [a0, a1, a2, a3]))) (hb : 0 < b) (hn : 5000 ≤ n) :
    ∃ g : Gate, (∀ x ∈ g.refs, x < b) ∧ g.refs.length ≤ 3 ∧ Q G n (d + 1) 24 [.ref r, .int b] S = .ok g.D S := by
  have sz : 16000000 ≤ PySem.sizeLine := by decide
  have sl := slice_lst hr (some 1) none
  have e1 : cutD (natD [a0, a1, a2, a3]) (some 1) none = natD [a1, a2, a3] := by
    have := cut_lo (natD [a0, a1, a2, a3]) 1 (by simp [natD])
    rw [show ((1 : Nat) : Int) = 1 from rfl] at this
    rw [this]; rfl
  rw [e1] at sl
  obtain ⟨S1, hS1⟩ : ∃ S1, S1 = S ++ [Ob.lst (natD [a1, a2, a3])] := ⟨_, rfl⟩
  have l1 : S1[S.length]? = some (.lst (natD [a1, a2, a3])) := by rw [hS1]; simp
  have co := comp_mods (G := G) (n := n) (d := d) (S := S1) b hb [a1, a2, a3] (by simp) hn l1 (some (.ref r)) none none
  have wl : walkOf (.ref S.length) S1 = .ok (.lst S.length) S1 := by simp only [walkOf, l1]
  obtain ⟨S2, hS2⟩ : ∃ S2, S2 = S1 ++ [Ob.lst (natD ([a1, a2, a3].map (· % b)))] := ⟨_, rfl⟩
  have l2 : S2[S1.length]? = some (.lst (natD ([a1, a2, a3].map (· % b)))) := by rw [hS2]; simp
  have r2 : S2[r]? = some (.lst (natD [a0, a1, a2, a3])) := by rw [hS2, hS1]; exact app_old (app_old hr)
  rw [← hS1] at sl
  rw [← hS2] at co
  have g0 : subscr (.ref r) (.int 0) S2 = .ok (.int a0) S2 := sub_lst r2 (i := 0) rfl
  have g1 : subscr (.ref r) (.int 1) S2 = .ok (.int a1) S2 := sub_lst r2 (i := 1) rfl
  have q0 : subscr (.ref S1.length) (.int 0) S2 = .ok (.int (a1 % b : Nat)) S2 := sub_lst l2 (i := 0) rfl
  have q1 : subscr (.ref S1.length) (.int 1) S2 = .ok (.int (a2 % b : Nat)) S2 := sub_lst l2 (i := 1) rfl
  have q2 : subscr (.ref S1.length) (.int 2) S2 = .ok (.int (a3 % b : Nat)) S2 := sub_lst l2 (i := 2) rfl
  have m1 : a1 % b < b := Nat.mod_lt _ hb
  have m2 : a2 % b < b := Nat.mod_lt _ hb
  have m3 : a3 % b < b := Nat.mod_lt _ hb
  have fd : ∀ S, binop .fdiv (.int (a1 : Nat)) (.int 7) S = .ok (.int ((a1 / 7 : Nat) : Int)) S := fun S => by rw [fdiv_int _ _ (by decide) (by decide)]; simp
  have fm := fun S => mod2 (a1 / 7) S
  have fa : ∀ S, binop .add (.int 2) (.int ((a1 / 7 % 2 : Nat) : Int)) S = .ok (.int ((2 + a1 / 7 % 2 : Nat) : Int)) S := fun S => by rw [add_int]; simp
  have hh : 2 + a1 / 7 % 2 ≤ 3 := by omega
  have sl2 := slice_lst l2 none (some ((2 + a1 / 7 % 2 : Nat) : Int))
  rw [cut_hi _ _ (by simp [natD]; omega)] at sl2
  have tk : (natD ([a1, a2, a3].map (· % b))).take (2 + a1 / 7 % 2) = natD (([a1, a2, a3].map (· % b)).take (2 + a1 / 7 % 2)) := by unfold natD; rw [List.map_take]
  rw [tk] at sl2
  obtain ⟨rf, hrf⟩ : ∃ rf, rf = ([a1, a2, a3].map (· % b)).take (2 + a1 / 7 % 2) := ⟨_, rfl⟩
  have rfl1 : rf.length ≤ 3 := by rw [hrf, List.length_take]; simp; omega
  have rfm : ∀ x ∈ rf, x < b := fun x hx => by
    rw [hrf] at hx
    have := List.mem_of_mem_take hx
    simp at this
    rcases this with h | h | h <;> subst h <;> assumption
  rw [← hrf] at sl2
  obtain ⟨S3, hS3⟩ : ∃ S3, S3 = S2 ++ [Ob.lst (natD rf)] := ⟨_, rfl⟩
  rw [← hS3] at sl2
  have l3 : S3[S2.length]? = some (.lst (natD rf)) := by rw [hS3]; simp
  have tp := tuple_lst l3
  obtain ⟨A7, h7⟩ : ∃ A : Int, A = ((a1 / 7 : Nat) : Int) := ⟨_, rfl⟩
  rw [← h7] at fd fm
  obtain ⟨A72, h72⟩ : ∃ A : Int, A = ((a1 / 7 % 2 : Nat) : Int) := ⟨_, rfl⟩
  rw [← h72] at fm fa
  obtain ⟨H, hH⟩ : ∃ A : Int, A = ((2 + a1 / 7 % 2 : Nat) : Int) := ⟨_, rfl⟩
  rw [← hH] at fa sl2
  have gS3 : ∀ g : Gate, gc S (.ok g.D S3) = .ok g.D S := fun g => by
    rw [hS3, hS2, hS1, List.append_assoc, List.append_assoc]
    exact gc_app (newD_gate _ _)
  have gS2 : ∀ g : Gate, gc S (.ok g.D S2) = .ok g.D S := fun g => by
    rw [hS2, hS1, List.append_assoc]
    exact gc_app (newD_gate _ _)
  have eq0 : ∀ (i : Nat) (k : Int) (S : Sto), cmpop .eq (.int (i : Nat)) (.int k) S = .ok (.bl (decide ((i : Int) = k))) S := fun i k S => rfl
  rw [Q, evQ_open (fn := ⟨2, 4, c__law_gate⟩) rfl (wfn (by decide)) rfl]
  by_cases c0 : a0 = 0
  · refine ⟨.conj rf, rfm, rfl1, ?_⟩
    have g0' : subscr (.ref r) (.int 0) S2 = .ok (.int 0) S2 := by rw [g0, c0]; rfl
    rw [← gS3]
    simp -implicitDefEqProofs [c__law_gate, startD, sl, wl, co, g0', g1, int_eq, fd, fm, fa, sl2, tp, tup2, Gate.D]
  · by_cases c1 : a0 = 1
    · refine ⟨.disj rf, rfm, rfl1, ?_⟩
      have g0' : subscr (.ref r) (.int 0) S2 = .ok (.int 1) S2 := by rw [g0, c1]; rfl
      rw [← gS3]
      simp -implicitDefEqProofs [c__law_gate, startD, sl, wl, co, g0', g1, int_eq, fd, fm, fa, sl2, tp, tup2, Gate.D]
    · by_cases c2 : a0 = 2
      · refine ⟨.xor (a1 % b) (a2 % b), fun x hx => by simp [Gate.refs] at hx; rcases hx with h | h <;> subst h <;> assumption, by simp [Gate.refs], ?_⟩
        have g0' : subscr (.ref r) (.int 0) S2 = .ok (.int 2) S2 := by rw [g0, c2]; rfl
        obtain ⟨X1, hX1⟩ : ∃ A : Int, A = ((a1 % b : Nat) : Int) := ⟨_, rfl⟩
        obtain ⟨X2, hX2⟩ : ∃ A : Int, A = ((a2 % b : Nat) : Int) := ⟨_, rfl⟩
        rw [← gS2]
        simp only [Gate.D]
        rw [← hX1, ← hX2]
        rw [← hX1] at q0
        rw [← hX2] at q1
        simp -implicitDefEqProofs [c__law_gate, startD, sl, wl, co, g0', int_eq, q0, q1, tup3]
      · refine ⟨.ite (a1 % b) (a2 % b) (a3 % b), fun x hx => by simp [Gate.refs] at hx; rcases hx with h | h | h <;> subst h <;> assumption, by simp [Gate.refs], ?_⟩
        have n0 : ¬ ((a0 : Int) = 0) := by omega
        have n1 : ¬ ((a0 : Int) = 1) := by omega
        have n2 : ¬ ((a0 : Int) = 2) := by omega
        obtain ⟨A0, hA0⟩ : ∃ A : Int, A = (a0 : Int) := ⟨_, rfl⟩
        rw [← hA0] at g0 n0 n1 n2
        have t4 : ∀ (u v w z : Pv.D) (S : Sto), newTup [u, v, w, z] S = .ok (.tup [u, v, w, z]) S := fun u v w z S => by
          unfold newTup
          rw [if_pos (by simp; omega)]
        obtain ⟨X1, hX1⟩ : ∃ A : Int, A = ((a1 % b : Nat) : Int) := ⟨_, rfl⟩
        obtain ⟨X2, hX2⟩ : ∃ A : Int, A = ((a2 % b : Nat) : Int) := ⟨_, rfl⟩
        obtain ⟨X3, hX3⟩ : ∃ A : Int, A = ((a3 % b : Nat) : Int) := ⟨_, rfl⟩
        rw [← gS2]
        simp only [Gate.D]
        rw [← hX1, ← hX2, ← hX3]
        rw [← hX1] at q0
        rw [← hX2] at q1
        rw [← hX3] at q2
        simp -implicitDefEqProofs [c__law_gate, startD, sl, wl, co, g0, int_eq, n0, n1, n2, q0, q1, q2, t4]
end
end K74
end

section
set_option autoImplicit false
set_option linter.all false
set_option maxHeartbeats 2000000
set_option maxRecDepth 10000
/-! W7: drawn books. -/
namespace K74
open Pv Dia Lc
open PySem (Str)
open L2 (Key)
/-- a book as the laws write it -/
def bookD (sides : List Bool) (gs : List Gate) (wish : Nat) : Pv.D := .tup [bitsD sides, .tup (gs.map Gate.D), .int wish]
@[simp] theorem newD_book (k : Nat) (s : List Bool) (gs : List Gate) (w : Nat) : newD k (bookD s gs w) = [] := by simp [bookD]
theorem WfG.snoc : ∀ {gs : List Gate} {m : Nat} {g : Gate}, WfG m gs → (∀ x ∈ g.refs, x < 2 * (m + gs.length)) → g.refs.length ≤ 400 → WfG m (gs ++ [g])
  | [], m, g, _, h1, h2 => ⟨h1, h2, trivial⟩
  | h :: gs, m, g, ⟨a, b, c⟩, h1, h2 => ⟨a, b, WfG.snoc c (fun x hx => by have := h1 x hx; rw [List.length_cons] at this; omega) h2⟩
def bookBody : C := match c__law_book with
  | .cons _ (.cons _ (.cons _ (.cons (.forr _ _ b) _))) => b
  | _ => .nil
/-- what a drawn book is -/
structure BookOk (most mg : Nat) (sides : List Bool) (gs : List Gate) (wish : Nat) : Prop where
  sl : sides.length ≤ most
  g1 : 1 ≤ gs.length
  gl : gs.length ≤ mg
  wf : WfG sides.length gs
  r3 : ∀ g ∈ gs, g.refs.length ≤ 3
  wi : wish < 2 * (sides.length + gs.length)
section
variable {G : Prog} [LibW G] {n d : Nat} {S : Sto}
theorem mul_lst {k : Nat} {xs : List Pv.D} (h : S[k]? = some (.lst xs)) (j : Nat) (hl : xs.length * j < 16000000) (hj : j < 16000000) : binop .mul (.ref k) (.int j) S = .ok (.ref S.length) (S ++ [Ob.lst (List.replicate j xs).flatten]) := by
  have sz : 16000000 ≤ PySem.sizeLine := by decide
  simp only [binop, h]
  rw [if_pos ⟨by omega, by omega, by rw [Int.toNat_natCast]; omega⟩, Int.toNat_natCast]
  rfl
theorem book_turn {S5 : Sto} {dl i mg many : Nat} {row : List Nat} {gs : List Gate} (junk : Sto) (x y z s6 s7 s8 s9 : Option Pv.D) (hd : S5[dl]? = some (.lst (natD row))) (hrow : row.length = 4 + 4 * mg) (hi : i < mg) (hgl : gs.length = i) (hmg : mg ≤ 400) (hn : 5000 ≤ n) :
    ∃ (g : Gate) (junk' : Sto) (t7 t8 t9 : Option Pv.D), (∀ x ∈ g.refs, x < 2 * (many + i)) ∧ g.refs.length ≤ 3 ∧
      turnF G n (evQ G n oldF (d + 1)) (mkQ G n oldF (d + 1)) (.var 6) bookBody (.int i) [x, y, z, some (.ref dl), some (.int many), some (.ref S5.length), s6, s7, s8, s9] (S5 ++ Ob.lst (gs.map Gate.D) :: junk) =
        .nx [x, y, z, some (.ref dl), some (.int many), some (.ref S5.length), some (.int i), t7, t8, t9] (S5 ++ Ob.lst ((gs ++ [g]).map Gate.D) :: junk') := by
  have sz : 16000000 ≤ PySem.sizeLine := by decide
  obtain ⟨SJ, hSJ⟩ : ∃ SJ, SJ = S5 ++ Ob.lst (gs.map Gate.D) :: junk := ⟨_, rfl⟩
  have hd1 : SJ[dl]? = some (.lst (natD row)) := by rw [hSJ]; exact app_old hd
  have sl := slice_lst hd1 (some ((4 + 4 * i : Nat) : Int)) (some ((8 + 4 * i : Nat) : Int))
  rw [cut_nat _ _ _ (by simp [natD]; omega) (by omega)] at sl
  have e4 : ((natD row).drop (4 + 4 * i)).take (8 + 4 * i - (4 + 4 * i)) = natD ((row.drop (4 + 4 * i)).take 4) := by
    unfold natD
    rw [show 8 + 4 * i - (4 + 4 * i) = 4 by omega, List.map_take, List.map_drop]
  rw [e4] at sl
  obtain ⟨a0, a1, a2, a3, ea⟩ : ∃ a0 a1 a2 a3, (row.drop (4 + 4 * i)).take 4 = [a0, a1, a2, a3] := by
    have hl : ((row.drop (4 + 4 * i)).take 4).length = 4 := by rw [List.length_take, List.length_drop]; omega
    generalize (row.drop (4 + 4 * i)).take 4 = q at hl
    match q, hl with
    | [a0, a1, a2, a3], _ => exact ⟨_, _, _, _, rfl⟩
  rw [ea] at sl
  obtain ⟨S6, hS6⟩ : ∃ S6, S6 = SJ ++ [Ob.lst (natD [a0, a1, a2, a3])] := ⟨_, rfl⟩
  rw [← hS6] at sl
  have l6 : S6[SJ.length]? = some (.lst (natD [a0, a1, a2, a3])) := by rw [hS6]; simp
  have m4 : ∀ S, binop .mul (.int 4) (.int (i : Nat)) S = .ok (.int (4 * i : Nat)) S := fun S => by rw [mul_l _ _ (by decide)]; simp
  have a4 : ∀ S, binop .add (.int 4) (.int (4 * i : Nat)) S = .ok (.int (4 + 4 * i : Nat)) S := fun S => by rw [add_int]; simp
  have a8 : ∀ S, binop .add (.int 8) (.int (4 * i : Nat)) S = .ok (.int (8 + 4 * i : Nat)) S := fun S => by rw [add_int]; simp
  have am : ∀ S, binop .add (.int (many : Nat)) (.int (i : Nat)) S = .ok (.int (many + i : Nat)) S := fun S => by rw [add_int]; simp
  have mm : ∀ S, binop .mul (.int 2) (.int (many + i : Nat)) S = .ok (.int (2 * (many + i) : Nat)) S := fun S => by rw [mul_l _ _ (by decide)]; simp
  have cg : ∀ S, cmpop .gt (.int (2 * (many + i) : Nat)) (.int 0) S = .ok (.bl (decide (0 < many + i))) S := fun S => by
    show R.ok (Pv.D.bl (decide ((0 : Int) < (2 * (many + i) : Nat)))) S = _
    congr 2
    exact decide_eq_decide.mpr ⟨fun h => by omega, fun h => by omega⟩
  have t0 : ∀ S, newTup [] S = .ok (.tup []) S := fun S => by
    unfold newTup
    rw [if_pos (by simp)]
  obtain ⟨A4, hA4⟩ : ∃ A : Int, A = (4 * i : Nat) := ⟨_, rfl⟩
  rw [← hA4] at m4 a4 a8
  obtain ⟨L, hL⟩ : ∃ A : Int, A = (4 + 4 * i : Nat) := ⟨_, rfl⟩
  obtain ⟨H, hH⟩ : ∃ A : Int, A = (8 + 4 * i : Nat) := ⟨_, rfl⟩
  rw [← hL] at a4 sl
  rw [← hH] at a8 sl
  obtain ⟨MI, hMI⟩ : ∃ A : Int, A = (many + i : Nat) := ⟨_, rfl⟩
  rw [← hMI] at am mm
  have fin : ∀ (g : Gate), ∃ junk', bmRecv .append (.ref S5.length) S6 = true ∧ bmethod .append (.ref S5.length) [g.D] S6 = .ok .non (S5 ++ Ob.lst ((gs ++ [g]).map Gate.D) :: junk') := fun g => by
    have e6 : S6 = S5 ++ Ob.lst (gs.map Gate.D) :: (junk ++ [Ob.lst (natD [a0, a1, a2, a3])]) := by rw [hS6, hSJ]; simp
    refine ⟨junk ++ [Ob.lst (natD [a0, a1, a2, a3])], ?_, ?_⟩
    · rw [e6]; exact recv_append (xs := gs.map Gate.D) (by simp)
    · rw [e6, append_at (l := []) (xs := gs.map Gate.D) (by simp) (by simp; omega), app_set0]
      simp
  rw [← hSJ]
  by_cases c : 0 < many + i
  · obtain ⟨g, hg1, hg2, hg3⟩ := law_gate_spec (G := G) (n := n) (d := d) l6 (b := 2 * (many + i)) (by omega) hn
    obtain ⟨junk', rc, ap⟩ := fin g
    refine ⟨g, junk', some (.ref SJ.length), some (.int (2 * (many + i) : Nat)), some g.D, hg1, hg2, ?_⟩
    · obtain ⟨B, hB⟩ : ∃ A : Int, A = (2 * (many + i) : Nat) := ⟨_, rfl⟩
      rw [← hB] at mm cg hg3 ⊢
      have cg' : ∀ S, cmpop .gt (.int B) (.int 0) S = .ok (.bl true) S := fun S => by rw [cg, decide_eq_true c]
      simp -implicitDefEqProofs [turnF, bookBody, c__law_book, m4, a4, a8, sl, am, mm, t0, tup2, cg', hg3, rc, ap, -List.map_append]
  · obtain ⟨junk', rc, ap⟩ := fin (.conj [])
    refine ⟨.conj [], junk', some (.ref SJ.length), some (.int (2 * (many + i) : Nat)), some (Gate.conj []).D, fun x hx => (nomatch hx), by simp [Gate.refs], ?_⟩
    · obtain ⟨B, hB⟩ : ∃ A : Int, A = (2 * (many + i) : Nat) := ⟨_, rfl⟩
      rw [← hB] at mm cg ⊢
      have cg' : ∀ S, cmpop .gt (.int B) (.int 0) S = .ok (.bl false) S := fun S => by rw [cg, decide_eq_false c]
      have gd : (Gate.conj []).D = .tup [.str "and", .tup []] := rfl
      rw [gd] at ap ⊢
      simp -implicitDefEqProofs [turnF, bookBody, c__law_book, m4, a4, a8, sl, am, mm, t0, tup2, cg', rc, ap, -List.map_append]
theorem natD_rep (q : List Nat) : ∀ k, (List.replicate k (natD q)).flatten = natD (List.replicate k q).flatten
  | 0 => rfl
  | k + 1 => by
    rw [List.replicate_succ, List.replicate_succ, List.flatten_cons, List.flatten_cons, natD_rep q k]
    unfold natD
    rw [List.map_append]
theorem law_book_spec (cell : Int) {most mg : Nat} (h1 : 1 ≤ mg) (h2 : mg ≤ 300) (h3 : most ≤ 300) (hn : 5000 ≤ n) :
    ∃ sides gs wish, BookOk most mg sides gs wish ∧ Q G n (d + 2) 13 [.int cell, .int most, .int mg] S = .ok (bookD sides gs wish) S := by
  have sz : 16000000 ≤ PySem.sizeLine := by decide
  have m1 : ∀ S, binop .add (.int (most : Nat)) (.int 1) S = .ok (.int (most + 1 : Nat)) S := fun S => by rw [add_int]; simp
  have nA := newLst_ok (xs := natD [most + 1, 256, mg, 2]) (S := S) (by simp [natD])
  obtain ⟨S1, hS1⟩ : ∃ S1, S1 = S ++ [Ob.lst (natD [most + 1, 256, mg, 2])] := ⟨_, rfl⟩
  rw [← hS1] at nA
  have nB := newLst_ok (xs := natD [4, 1009, 1013, 1019]) (S := S1) (by simp [natD])
  obtain ⟨S2, hS2⟩ : ∃ S2, S2 = S1 ++ [Ob.lst (natD [4, 1009, 1013, 1019])] := ⟨_, rfl⟩
  rw [← hS2] at nB
  have nC := mul_lst (S := S2) (k := S1.length) (xs := natD [4, 1009, 1013, 1019]) (by rw [hS2]; simp) mg (by simp [natD]; omega) (by omega)
  rw [natD_rep] at nC
  obtain ⟨rp, hrp⟩ : ∃ rp, rp = (List.replicate mg [4, 1009, 1013, 1019]).flatten := ⟨_, rfl⟩
  rw [← hrp] at nC
  have hrl : rp.length = 4 * mg := by rw [hrp, List.length_flatten, List.map_replicate]; simp; omega
  obtain ⟨S3, hS3⟩ : ∃ S3, S3 = S2 ++ [Ob.lst (natD rp)] := ⟨_, rfl⟩
  rw [← hS3] at nC
  have nD := add_lst (S := S3) (i := S.length) (j := S2.length) (a := natD [most + 1, 256, mg, 2]) (b := natD rp) (by rw [hS3, hS2, hS1]; simp) (by rw [hS3]; simp) (by simp [natD]; omega)
  have ebs : natD [most + 1, 256, mg, 2] ++ natD rp = natD ([most + 1, 256, mg, 2] ++ rp) := by unfold natD; rw [List.map_append]
  rw [ebs] at nD
  obtain ⟨bs, hbs⟩ : ∃ bs, bs = [most + 1, 256, mg, 2] ++ rp := ⟨_, rfl⟩
  rw [← hbs] at nD
  have hbl : bs.length = 4 + 4 * mg := by rw [hbs, List.length_append, hrl]; rfl
  obtain ⟨S4, hS4⟩ : ∃ S4, S4 = S3 ++ [Ob.lst (natD bs)] := ⟨_, rfl⟩
  rw [← hS4] at nD
  have pos : ∀ b ∈ bs, 0 < b ∧ b < 1073741824 := fun b hb => by
    rw [hbs] at hb
    rcases List.mem_append.mp hb with h | h
    · simp at h
      omega
    · rw [hrp] at h
      obtain ⟨l, hl, hx⟩ := List.mem_flatten.mp h
      obtain ⟨_, rfl⟩ := List.mem_replicate.mp hl
      simp at hx
      omega
  obtain ⟨row, hrow, er⟩ := law_row_spec (G := G) (n := n) (d := d) (S := S4) cell (bl := S3.length) (bs := bs) (by rw [hS4]; simp) pos (by omega) hn
  obtain ⟨r1, r2⟩ := hrow
  obtain ⟨S5, hS5⟩ : ∃ S5, S5 = S4 ++ [Ob.lst (natD row)] := ⟨_, rfl⟩
  rw [← hS5] at er
  have gS5 : ∃ J, S5 = S ++ J := ⟨[Ob.lst (natD [most + 1, 256, mg, 2]), Ob.lst (natD [4, 1009, 1013, 1019]), Ob.lst (natD rp), Ob.lst (natD bs), Ob.lst (natD row)], by rw [hS5, hS4, hS3, hS2, hS1]; simp⟩
  have hd : S5[S4.length]? = some (.lst (natD row)) := by rw [hS5]; simp
  obtain ⟨many, q0⟩ : ∃ v, row[0]? = some v := ⟨row[0]'(by omega), by simp⟩
  obtain ⟨sn, q1⟩ : ∃ v, row[1]? = some v := ⟨row[1]'(by omega), by simp⟩
  obtain ⟨gm, q2⟩ : ∃ v, row[2]? = some v := ⟨row[2]'(by omega), by simp⟩
  obtain ⟨wn, q3⟩ : ∃ v, row[3]? = some v := ⟨row[3]'(by omega), by simp⟩
  have b0 : many < most + 1 := r2 0 many _ q0 (by rw [hbs]; rfl)
  have b2 : gm < mg := r2 2 gm _ q2 (by rw [hbs]; rfl)
  have b3 : wn < 2 := r2 3 wn _ q3 (by rw [hbs]; rfl)
  have n5 := newLst_ok (xs := []) (S := S5) (by simp)
  obtain ⟨σ', S', e, gs, junk, s6, s7, s8, s9, hσ, hS, h4, h5, h6⟩ := loopF_rng (lo := 0) (st := 1) (m := 1 + gm) (body := turnF G n (evQ G n oldF (d + 1)) (mkQ G n oldF (d + 1)) (.var 6) bookBody)
    (fun i σ S' => ∃ (gs : List Gate) (junk : Sto) (s6 s7 s8 s9 : Option Pv.D), σ = [some (.int cell), some (.int most), some (.int mg), some (.ref S4.length), some (.int many), some (.ref S5.length), s6, s7, s8, s9] ∧ S' = S5 ++ Ob.lst (gs.map Gate.D) :: junk ∧ gs.length = i ∧ WfG many gs ∧ ∀ g ∈ gs, g.refs.length ≤ 3)
    (w := n) (σ := [some (.int cell), some (.int most), some (.int mg), some (.ref S4.length), some (.int many), some (.ref S5.length), none, none, none, none]) (S := S5 ++ [Ob.lst []]) (by omega) ⟨[], [], none, none, none, none, rfl, rfl, rfl, trivial, fun g hg => nomatch hg⟩
    (fun i σ S' hi ⟨gs, junk, s6, s7, s8, s9, hσ, hS, h4, h5, h6⟩ => by
      subst hσ; subst hS
      rw [show (0 : Int) + (i : Int) * 1 = i by omega]
      obtain ⟨g, junk', t7, t8, t9, k1, k2, k3⟩ := book_turn (G := G) (n := n) (d := d) (S5 := S5) (dl := S4.length) (i := i) (mg := mg) (many := many) (row := row) (gs := gs) junk (some (.int cell)) (some (.int most)) (some (.int mg)) s6 s7 s8 s9 hd (by omega) (by omega) h4 (by omega) hn
      refine ⟨_, _, .inl k3, gs ++ [g], junk', _, _, _, _, rfl, rfl, by simp [h4], h5.snoc (by rw [h4]; exact k1) (by omega), fun g' hg => ?_⟩
      rcases List.mem_append.mp hg with h | h
      · exact h6 g' h
      · have : g' = g := by simpa using h
        subst this
        exact k2)
  subst hσ; subst hS
  obtain ⟨SF, hSF⟩ : ∃ SF, SF = S5 ++ Ob.lst (gs.map Gate.D) :: junk := ⟨_, rfl⟩
  rw [← hSF] at e
  have hdF : SF[S4.length]? = some (.lst (natD row)) := by rw [hSF]; exact app_old hd
  have hgF : SF[S5.length]? = some (.lst (gs.map Gate.D)) := by rw [hSF]; simp
  obtain ⟨bits, hbits, eb⟩ := law_bits_spec (G := G) (n := n) (d := d) (S := SF) sn many (by omega) hn
  refine ⟨bits, gs, 2 * (many + gs.length - 1) + wn, ⟨by omega, by omega, by omega, by rw [hbits]; exact h5, h6, by rw [hbits]; omega⟩, ?_⟩
  have v0 : subscr (.ref S4.length) (.int 0) S5 = .ok (.int many) S5 := sub_lst hd (i := 0) (by unfold natD; rw [List.getElem?_map, q0]; rfl)
  have v2 : subscr (.ref S4.length) (.int 2) (S5 ++ [Ob.lst []]) = .ok (.int gm) (S5 ++ [Ob.lst []]) := sub_lst (app_old hd) (i := 2) (by unfold natD; rw [List.getElem?_map, q2]; rfl)
  have v1 : subscr (.ref S4.length) (.int 1) SF = .ok (.int sn) SF := sub_lst hdF (i := 1) (by unfold natD; rw [List.getElem?_map, q1]; rfl)
  have v3 : subscr (.ref S4.length) (.int 3) SF = .ok (.int wn) SF := sub_lst hdF (i := 3) (by unfold natD; rw [List.getElem?_map, q3]; rfl)
  have g1 : ∀ S, binop .add (.int 1) (.int (gm : Nat)) S = .ok (.int (1 + gm : Nat)) S := fun S => by rw [add_int]; simp
  have ra := range_ok (1 + gm) (by omega) (S5 ++ [Ob.lst []])
  have tp := tuple_lst hgF
  have ln : builtin .len [.ref S5.length] SF = .ok (.int gs.length) SF := by simp [builtin, hgF]
  have w1 : ∀ S, binop .add (.int (many : Nat)) (.int (gs.length : Nat)) S = .ok (.int (many + gs.length : Nat)) S := fun S => by rw [add_int]; simp
  have w2 : ∀ S, binop .sub (.int (many + gs.length : Nat)) (.int 1) S = .ok (.int (many + gs.length - 1 : Nat)) S := fun S => by
    have : ((many + gs.length : Nat) : Int) - 1 = ((many + gs.length - 1 : Nat) : Int) := by omega
    rw [sub_int, this]
  have w3 : ∀ S, binop .mul (.int 2) (.int (many + gs.length - 1 : Nat)) S = .ok (.int (2 * (many + gs.length - 1) : Nat)) S := fun S => by rw [mul_l _ _ (by decide)]; simp
  have w4 : ∀ S, binop .add (.int (2 * (many + gs.length - 1) : Nat)) (.int (wn : Nat)) S = .ok (.int (2 * (many + gs.length - 1) + wn : Nat)) S := fun S => by rw [add_int]; simp
  have fin : gc S (.ok (bookD bits gs (2 * (many + gs.length - 1) + wn)) SF) = .ok (bookD bits gs (2 * (many + gs.length - 1) + wn)) S := by
    obtain ⟨J, hJ⟩ := gS5
    rw [hSF, hJ, List.append_assoc]
    exact gc_app (newD_book _ _ _ _)
  rw [← fin, Q, evQ_open (fn := ⟨3, 10, c__law_book⟩) rfl (wfn (by decide)) rfl]
  unfold bookD
  obtain ⟨M1, hM1⟩ : ∃ A : Int, A = (most + 1 : Nat) := ⟨_, rfl⟩
  have enA : natD [most + 1, 256, mg, 2] = [.int M1, .int 256, .int mg, .int 2] := by rw [hM1]; rfl
  have enB : natD [4, 1009, 1013, 1019] = [.int 4, .int 1009, .int 1013, .int 1019] := rfl
  rw [enA] at nA
  rw [enB] at nB
  rw [← hM1] at m1
  obtain ⟨GM, hGM⟩ : ∃ A : Int, A = (1 + gm : Nat) := ⟨_, rfl⟩
  rw [← hGM] at g1 ra
  obtain ⟨W1, hW1⟩ : ∃ A : Int, A = (many + gs.length : Nat) := ⟨_, rfl⟩
  rw [← hW1] at w1 w2
  obtain ⟨W2, hW2⟩ : ∃ A : Int, A = (many + gs.length - 1 : Nat) := ⟨_, rfl⟩
  rw [← hW2] at w2 w3
  obtain ⟨W3, hW3⟩ : ∃ A : Int, A = (2 * (many + gs.length - 1) : Nat) := ⟨_, rfl⟩
  rw [← hW3] at w3 w4
  obtain ⟨W4, hW4⟩ : ∃ A : Int, A = (2 * (many + gs.length - 1) + wn : Nat) := ⟨_, rfl⟩
  rw [← hW4] at w4 ⊢
  simp only [bookBody, c__law_book] at e
  simp -implicitDefEqProofs [c__law_book, startD, m1, nA, nB, nC, nD, er, v0, n5, v2, g1, ra, e, v1, eb, tp, ln, w1, w2, w3, v3, w4, tup3]
end
end K74
end

section
set_option autoImplicit false
set_option linter.all false
set_option maxHeartbeats 2000000
set_option maxRecDepth 10000
/-! W8: plain: gates over told flags, layers. -/
namespace K74
open Pv Dia Lc
open PySem (Str)
open L2 (Key)
/-! ### values of told flags -/
def refB (vs : List Bool) (r : Nat) : Bool := ((vs[r / 2]?).getD false) != (r % 2 == 1)
def gateB (vs : List Bool) : Gate → Bool
  | .conj r => r.all (refB vs)
  | .disj r => r.any (refB vs)
  | .xor x y => refB vs x != refB vs y
  | .ite x y z => if refB vs x = true then refB vs y else refB vs z
def reckB : List Gate → List Bool → List Bool
  | [], vs => vs
  | g :: r, vs => reckB r (vs ++ [gateB vs g])
def wonB (gs : List Gate) (wish : Nat) (p : List Bool) : Bool := refB (reckB gs p) wish
theorem lawRef_some {vs : List Bool} {r : Nat} (h : r / 2 < vs.length) : lawRef (vs.map some) r = some (refB vs r) := by
  unfold lawRef refB
  rw [List.getElem?_map]
  have : vs[r / 2]? = some vs[r / 2] := by simp [h]
  rw [this]
  rfl
theorem lawAnd_some (bs : List Bool) : lawAnd (bs.map some) = some (bs.all id) := by
  unfold lawAnd
  have h1 : some false ∈ bs.map some ↔ false ∈ bs := by simp
  have h2 : ¬ (none ∈ bs.map (some : Bool → Option Bool)) := by simp
  rw [if_neg h2]
  by_cases c : some false ∈ bs.map some
  · rw [if_pos c]
    have c := h1.mp c
    congr 1
    symm
    rw [List.all_eq_false]
    exact ⟨false, c, by simp⟩
  · rw [if_neg c]
    have c : false ∉ bs := fun h => c (h1.mpr h)
    congr 1
    symm
    rw [List.all_eq_true]
    intro x hx
    cases x with
    | true => rfl
    | false => exact absurd hx c
theorem refB_neg (vs : List Bool) (r : Nat) : refB vs (negR r) = !refB vs r := by
  unfold refB
  rw [negR_half]
  have : (negR r % 2 == 1) = !(r % 2 == 1) := by
    unfold negR
    by_cases h : r % 2 = 1
    · rw [if_pos h]
      have : (r - 1) % 2 = 0 := by omega
      rw [this, h]; rfl
    · rw [if_neg h]
      have h0 : r % 2 = 0 := by omega
      have : (r + 1) % 2 = 1 := by omega
      rw [this, h0]; rfl
  rw [this]
  cases ((vs[r / 2]?).getD false) <;> cases (r % 2 == 1) <;> rfl
theorem lawGate_some {vs : List Bool} {g : Gate} (h : ∀ r ∈ g.refs, r / 2 < vs.length) : lawGate (vs.map some) g = some (gateB vs g) := by
  cases g with
  | conj r =>
    have e : r.map (lawRef (vs.map some)) = (r.map (refB vs)).map some := by
      rw [List.map_map]
      exact List.map_congr_left fun x hx => lawRef_some (h x hx)
    show lawAnd (r.map (lawRef (vs.map some))) = _
    rw [e, lawAnd_some, List.all_map]
    rfl
  | disj r =>
    have e : r.map (fun x => lawRef (vs.map some) (negR x)) = (r.map fun x => !refB vs x).map some := by
      rw [List.map_map]
      exact List.map_congr_left fun x hx => by
        show lawRef (vs.map some) (negR x) = some (!refB vs x)
        rw [lawRef_some (by rw [negR_half]; exact h x hx), refB_neg]
    show (lawAnd (r.map fun x => lawRef (vs.map some) (negR x))).map (!·) = _
    rw [e, lawAnd_some, List.all_map]
    show some (!(r.all fun x => !refB vs x)) = some (r.any (refB vs))
    congr 1
    induction r with
    | nil => rfl
    | cons x r ih =>
      rw [List.all_cons, List.any_cons, Bool.not_and, Bool.not_not, ih (fun y hy => h y (List.mem_cons_of_mem _ hy)) (by
        rw [List.map_map]
        exact List.map_congr_left fun x hx => by
          show lawRef (vs.map some) (negR x) = some (!refB vs x)
          rw [lawRef_some (by rw [negR_half]; exact h x (List.mem_cons_of_mem _ hx)), refB_neg])]
  | xor x y =>
    rw [lawGate_xor, lawRef_some (h x (by simp [Gate.refs])), lawRef_some (h y (by simp [Gate.refs]))]
    rfl
  | ite x y z =>
    rw [lawGate_ite, lawRef_some (h x (by simp [Gate.refs])), lawRef_some (h y (by simp [Gate.refs])), lawRef_some (h z (by simp [Gate.refs]))]
    show _ = some (if refB vs x = true then refB vs y else refB vs z)
    cases refB vs x <;> rfl
theorem reck_some : ∀ {gs : List Gate} {vs : List Bool}, WfG vs.length gs → reck gs (vs.map some) = (reckB gs vs).map some
  | [], _, _ => rfl
  | g :: gs, vs, ⟨h1, _, h3⟩ => by
    show reck gs (vs.map some ++ [lawGate (vs.map some) g]) = (reckB gs (vs ++ [gateB vs g])).map some
    rw [lawGate_some fun r hr => by have := h1 r hr; omega]
    have := reck_some (gs := gs) (vs := vs ++ [gateB vs g]) (by rw [List.length_append]; exact h3)
    rw [← this, List.map_append]
    rfl
theorem reckB_length : ∀ (gs : List Gate) (vs : List Bool), (reckB gs vs).length = vs.length + gs.length
  | [], vs => rfl
  | g :: gs, vs => by
    show (reckB gs (vs ++ [gateB vs g])).length = _
    rw [reckB_length gs]
    simp
    omega
theorem lawWon_some {gs : List Gate} {wish : Nat} {p : List Bool} (hw : WfG p.length gs) (hwi : wish < 2 * (p.length + gs.length)) : lawWon gs wish (p.map some) = some (wonB gs wish p) := by
  unfold lawWon wonB
  rw [reck_some hw, lawRef_some (by rw [reckB_length]; omega)]
/-! ### who wins behind some flags -/
/-- YES wins behind p, the sides left being told -/
def winB (f : List Bool → Bool) : List Bool → List Bool → Bool
  | p, [] => f p
  | p, s :: r => if s = true then winB f (p ++ [false]) r || winB f (p ++ [true]) r else winB f (p ++ [false]) r && winB f (p ++ [true]) r
/-- one layer less -/
def stepB (side : Bool) (l : List Bool) : List Bool := (List.range (l.length / 2)).map fun k => if side = true then (l[2 * k]?).getD false || (l[2 * k + 1]?).getD false else (l[2 * k]?).getD false && (l[2 * k + 1]?).getD false
theorem flat2_get {α β : Type} (a b : α → β) : ∀ (l : List α) (k : Nat), (l.flatMap fun x => [a x, b x])[2 * k]? = (l[k]?).map a ∧ (l.flatMap fun x => [a x, b x])[2 * k + 1]? = (l[k]?).map b
  | [], k => by simp
  | x :: l, 0 => by simp
  | x :: l, k + 1 => by
    have := flat2_get a b l k
    rw [show 2 * (k + 1) = 2 * k + 1 + 1 by omega]
    simpa using this
theorem flat2_length {α β : Type} (a b : α → β) (l : List α) : (l.flatMap fun x => [a x, b x]).length = 2 * l.length := by
  induction l with
  | nil => rfl
  | cons x l ih => rw [List.flatMap_cons, List.length_append, ih]; simp; omega
theorem stepB_plays (f : List Bool → Bool) (side : Bool) (m : Nat) : stepB side ((allPlays (m + 1)).map f) = (allPlays m).map fun p => if side = true then f (p ++ [false]) || f (p ++ [true]) else f (p ++ [false]) && f (p ++ [true]) := by
  have e : (allPlays (m + 1)).map f = (allPlays m).flatMap fun p => [f (p ++ [false]), f (p ++ [true])] := by
    show ((allPlays m).flatMap fun p => [p ++ [false], p ++ [true]]).map f = _
    rw [List.map_flatMap]
    rfl
  rw [e]
  unfold stepB
  rw [flat2_length, Nat.mul_div_cancel_left _ (by omega)]
  apply List.ext_getElem?
  intro k
  rw [List.getElem?_map, List.getElem?_map]
  have g := flat2_get (fun p => f (p ++ [false])) (fun p => f (p ++ [true])) (allPlays m) k
  by_cases c : k < (allPlays m).length
  · have e1 : (List.range (allPlays m).length)[k]? = some k := by simp [c]
    have e2 : (allPlays m)[k]? = some (allPlays m)[k] := by simp [c]
    rw [e1]
    simp only [Option.map_some]
    rw [g.1, g.2, e2]
    rfl
  · have e1 : (List.range (allPlays m).length)[k]? = none := by simp; omega
    have e2 : (allPlays m)[k]? = none := by simp; omega
    rw [e1, e2]; rfl
/-- the layer of so many set flags -/
def layerB (f : List Bool → Bool) (sides : List Bool) (j : Nat) : List Bool := (allPlays j).map fun p => winB f p (sides.drop j)
theorem layer_top (f : List Bool → Bool) (sides : List Bool) : layerB f sides sides.length = (allPlays sides.length).map f := by
  unfold layerB
  rw [List.drop_length]
  rfl
theorem layer_step (f : List Bool → Bool) (sides : List Bool) {j : Nat} {s : Bool} (h : sides[j]? = some s) : stepB s (layerB f sides (j + 1)) = layerB f sides j := by
  unfold layerB
  rw [stepB_plays]
  apply List.map_congr_left
  intro p _
  have hd : sides.drop j = s :: sides.drop (j + 1) := by
    rw [List.getElem?_eq_some_iff] at h
    obtain ⟨hl, rfl⟩ := h
    exact List.drop_eq_getElem_cons hl
  rw [hd]
  rfl
theorem layer_length (f : List Bool → Bool) (sides : List Bool) (j : Nat) : (layerB f sides j).length = 2 ^ j := by
  unfold layerB
  rw [List.length_map, allPlays_length]
end K74
end

section
set_option autoImplicit false
set_option linter.all false
set_option maxHeartbeats 2000000
set_option maxRecDepth 10000
/-! W9: the laws' layers. -/
namespace K74
open Pv Dia Lc
open PySem (Str)
open L2 (Key)
/-- a list of new lists is what is left -/
theorem gc_refs {S S' : Sto} {k : Nat} {ks : List Nat} (hk : S'[k]? = some (.lst (ks.map Pv.D.ref))) (h1 : S.length ≤ k) (h2 : ∀ x ∈ ks, S.length ≤ x ∧ x ≠ k) (nd : ks.Nodup) (h3 : ∀ x ∈ ks, ∃ xs, S'[x]? = some (.lst xs) ∧ newL S.length xs = []) (ok : OldOk S S') :
    gc S (.ok (.ref k) S') = .ok (.ref S.length) (S'.take S.length ++ Ob.lst ((List.range ks.length).map fun i => Pv.D.ref (S.length + (1 + i))) :: ks.map fun x => (S'[x]?).getD .dead) := by
  have e0 : newD S.length (.ref k) = [k] := by rw [newD_ref, if_neg (by omega)]
  have ek : newO S.length (.lst (ks.map Pv.D.ref)) = ks := by
    have : ∀ l : List Nat, (∀ x ∈ l, S.length ≤ x) → newL S.length (l.map Pv.D.ref) = l := fun l => by
      induction l with
      | nil => intro _; rfl
      | cons x l ih =>
        intro h
        rw [List.map_cons, newL_cons, newD_ref, if_neg (by have := h x List.mem_cons_self; omega), ih fun y hy => h y (List.mem_cons_of_mem _ hy)]
        rfl
    exact this ks fun x hx => (h2 x hx).1
  have e3 : (ks.flatMap fun k => newO S.length ((S'[k]?).getD .dead)) = [] := by
    rw [List.flatMap_eq_nil_iff]
    intro x hx
    obtain ⟨xs, a, b⟩ := h3 x hx
    rw [a]
    exact b
  have e : reach S' S.length 5 (newD S.length (.ref k)) = k :: ks := by
    rw [e0]
    show [k] ++ reach S' S.length 4 ((newO S.length ((S'[k]?).getD .dead)) ++ []) = k :: ks
    rw [hk]
    show [k] ++ reach S' S.length 4 (newO S.length (.lst (ks.map Pv.D.ref)) ++ []) = k :: ks
    rw [ek, List.append_nil]
    cases ks with
    | nil => rfl
    | cons y ys =>
      show [k] ++ ((y :: ys) ++ reach S' S.length 3 ((y :: ys).flatMap fun k => newO S.length ((S'[k]?).getD .dead))) = _
      rw [e3, reach_nil]
      simp
  have ndk : (k :: ks).Nodup := List.nodup_cons.mpr ⟨fun m => (h2 k m).2 rfl, nd⟩
  rw [gc_pos e ⟨ok, ndk, fun j hj => by (rw [e0] at hj; have : j = k := by simpa using hj); subst this; exact List.mem_cons_self, fun j hj => ?_⟩]
  · unfold gcS
    congr 1
    · show renD S.length (k :: ks) (.ref k) = _
      unfold renD
      rw [if_neg (by omega)]
      simp
    · rw [List.map_cons, hk]
      congr 2
      · show Ob.lst (renL S.length (k :: ks) (ks.map Pv.D.ref)) = _
        congr 1
        have : ∀ (l : List Nat), (∀ x ∈ l, x ∈ ks) → renL S.length (k :: ks) (l.map Pv.D.ref) = l.map fun x => Pv.D.ref (S.length + (1 + ks.idxOf x)) := fun l => by
          induction l with
          | nil => intro _; rfl
          | cons x l ih =>
            intro h
            have hx := h2 x (h x List.mem_cons_self)
            rw [List.map_cons, List.map_cons]
            unfold renL
            rw [ih fun y hy => h y (List.mem_cons_of_mem _ hy)]
            congr 1
            unfold renD
            rw [if_neg (by omega)]
            have : (k :: ks).idxOf x = 1 + ks.idxOf x := by
              rw [List.idxOf_cons]
              have : (k == x) = false := beq_eq_false_iff_ne.mpr (Ne.symm hx.2)
              rw [this]
              simp [Nat.add_comm]
            rw [this]
        rw [this ks fun _ h => h]
        apply List.ext_getElem
        · simp
        · intro i a b
          simp only [List.getElem_map, List.getElem_range]
          have hi : i < ks.length := by simpa using a
          rw [nd.idxOf_getElem i hi]
      · apply List.map_congr_left
        intro x hx
        obtain ⟨xs, a, b⟩ := h3 x hx
        rw [a]
        exact renO_same b
  · rcases List.mem_cons.mp hj with h | h
    · subst h
      refine ⟨h1, (List.getElem?_eq_some_iff.mp hk).1, fun i hi => ?_⟩
      rw [hk] at hi
      have hi : i ∈ newO S.length (.lst (ks.map Pv.D.ref)) := hi
      rw [ek] at hi
      exact List.mem_cons_of_mem _ hi
    · obtain ⟨xs, a, b⟩ := h3 j h
      refine ⟨(h2 j h).1, (List.getElem?_eq_some_iff.mp a).1, fun i hi => ?_⟩
      rw [a] at hi
      have hi : i ∈ newL S.length xs := hi
      rw [b] at hi
      cases hi
def layersBody : C := match c__law_layers with
  | .cons _ (.cons (.forr _ _ b) _) => b
  | _ => .nil
section
variable {G : Prog} [LibW G] {n d : Nat} {S : Sto}
theorem comp_step {k : Nat} {l : List Bool} (side : Bool) (hk : S[k]? = some (.lst (l.map Pv.D.bl))) (hl : l.length < 100000) (hn : 100000 ≤ n) (x a s2 s3 : Option Pv.D) :
    loopC (.rng 0 1 (l.length / 2)) S.length (turnE G n (evQ G n oldF d) (mkQ G n oldF d) (if side = true then .or (.sub (.var 4) (.bin .mul (.con (.int 2)) (.var 5))) (.sub (.var 4) (.bin .add (.bin .mul (.con (.int 2)) (.var 5)) (.con (.int 1)))) else .and (.sub (.var 4) (.bin .mul (.con (.int 2)) (.var 5))) (.sub (.var 4) (.bin .add (.bin .mul (.con (.int 2)) (.var 5)) (.con (.int 1))))) (.var 5) .nil [5] [x, a, s2, s3, some (.ref k), none]) n 0 (S ++ [.lst []]) =
      .ok (.ref S.length) (S ++ [Ob.lst ((stepB side l).map Pv.D.bl)]) := by
  have := comp_m (S := S) (src := .rng 0 1 (l.length / 2)) (n := n) (ys := List.range (l.length / 2)) (e := fun i : Nat => Pv.D.int i) (turn := turnE G n (evQ G n oldF d) (mkQ G n oldF d) (if side = true then .or (.sub (.var 4) (.bin .mul (.con (.int 2)) (.var 5))) (.sub (.var 4) (.bin .add (.bin .mul (.con (.int 2)) (.var 5)) (.con (.int 1)))) else .and (.sub (.var 4) (.bin .mul (.con (.int 2)) (.var 5))) (.sub (.var 4) (.bin .add (.bin .mul (.con (.int 2)) (.var 5)) (.con (.int 1))))) (.var 5) .nil [5] [x, a, s2, s3, some (.ref k), none])
    (fun i => .bl (if side = true then (l[2 * i]?).getD false || (l[2 * i + 1]?).getD false else (l[2 * i]?).getD false && (l[2 * i + 1]?).getD false)) src_rng0 (by simp; omega) (by simp; omega) fun i hi o => by
      have hi : i < l.length / 2 := by simpa using hi
      obtain ⟨u, hu⟩ : ∃ u, l[2 * i]? = some u := ⟨l[2 * i]'(by omega), by simp⟩
      obtain ⟨v, hv⟩ : ∃ v, l[2 * i + 1]? = some v := ⟨l[2 * i + 1]'(by omega), by simp⟩
      have g1 : subscr (.ref k) (.int (2 * i : Nat)) (S ++ [o]) = .ok (.bl u) (S ++ [o]) := sub_lst (app_old hk) (i := 2 * i) (by rw [List.getElem?_map, hu]; rfl)
      have g2 : subscr (.ref k) (.int (2 * i + 1 : Nat)) (S ++ [o]) = .ok (.bl v) (S ++ [o]) := sub_lst (app_old hk) (i := 2 * i + 1) (by rw [List.getElem?_map, hv]; rfl)
      have m2 : ∀ S, binop .mul (.int 2) (.int (i : Nat)) S = .ok (.int (2 * i : Nat)) S := fun S => by rw [mul_l _ _ (by decide)]; simp
      have a1 : ∀ S, binop .add (.int (2 * i : Nat)) (.int 1) S = .ok (.int (2 * i + 1 : Nat)) S := fun S => by rw [add_int]; simp
      obtain ⟨A, hA⟩ : ∃ A : Int, A = (2 * i : Nat) := ⟨_, rfl⟩
      obtain ⟨B, hB⟩ : ∃ A : Int, A = (2 * i + 1 : Nat) := ⟨_, rfl⟩
      rw [← hA] at m2 a1 g1
      rw [← hB] at a1 g2
      rw [hu, hv]
      cases side <;> cases u <;> simp -implicitDefEqProofs [turnE, wipeD, m2, a1, g1, g2]
  rw [this]
  unfold stepB
  rw [List.map_map]
  rfl
theorem neg1_ev (G : Prog) (w : Nat) (call mk : Call) (σ : Sl) (S : Sto) : evE G w call mk (.neg (.con (.int 1))) σ S = .ok (.int (-1)) S := rfl
theorem layers_turn {a k : Nat} {ks : List Nat} {l : List Bool} (side : Bool) (ha : S[a]? = some (.lst ((ks ++ [k]).map Pv.D.ref))) (hk : S[k]? = some (.lst (l.map Pv.D.bl))) (hl : l.length < 100000) (hks : ks.length < 100000) (hn : 100000 ≤ n) (x s2 s3 s4 : Option Pv.D) :
    turnF G n (evQ G n oldF d) (mkQ G n oldF d) (.var 3) layersBody (.bl side) [x, some (.ref a), s2, s3, s4, none] S = .nx [x, some (.ref a), s2, some (.bl side), some (.ref k), none] ((S ++ [Ob.lst ((stepB side l).map Pv.D.bl)]).set a (.lst ((ks ++ [k] ++ [S.length]).map Pv.D.ref))) := by
  have co := comp_step (G := G) (n := n) (d := d) side hk hl hn x (some (.ref a)) s2 (some (.bl side))
  have sl : subscr (.ref a) (.int (-1)) S = .ok (.ref k) S := by
    rw [List.map_append] at ha
    simp only [subscr, ha]
    rw [List.map_cons, List.map_nil, getAt_last]
  have ln : builtin .len [.ref k] S = .ok (.int l.length) S := by simp [builtin, hk]
  have fd := fdiv2 l.length S
  have ra := range_ok (l.length / 2) (by omega) S
  have rc : bmRecv .append (.ref a) S = true := recv_append ha
  have ap : bmethod .append (.ref a) [.ref S.length] (S ++ [Ob.lst ((stepB side l).map Pv.D.bl)]) = .ok .non ((S ++ [Ob.lst ((stepB side l).map Pv.D.bl)]).set a (.lst ((ks ++ [k] ++ [S.length]).map Pv.D.ref))) := by
    rw [append_at (l := []) (app_old ha) (by simp; omega)]
    simp
  obtain ⟨A, hA⟩ : ∃ A : Int, A = (l.length / 2 : Nat) := ⟨_, rfl⟩
  rw [← hA] at fd ra
  cases side
  · simp only [if_neg (show ¬ (false = true) by decide)] at co
    simp -implicitDefEqProofs [turnF, layersBody, c__law_layers, neg1_ev, sl, rc, ln, fd, ra, co, ap, -List.map_append, -evE_neg]
  · simp only [if_true] at co
    simp -implicitDefEqProofs [turnF, layersBody, c__law_layers, neg1_ev, sl, rc, ln, fd, ra, co, ap, -List.map_append, -evE_neg]
end
end K74
end

section
set_option autoImplicit false
set_option linter.all false
set_option maxHeartbeats 2000000
set_option maxRecDepth 10000
/-! W10: the laws' layers, whole. -/
namespace K74
open Pv Dia Lc
open PySem (Str)
open L2 (Key)
/-- the layers' loop has made i of them -/
def LayP (S : Sto) (a m : Nat) (f : List Bool → Bool) (sides : List Bool) (i : Nat) (S' : Sto) : Prop :=
  ∃ (ks : List Nat) (k : Nat), S'[a]? = some (.lst ((ks ++ [k]).map Pv.D.ref)) ∧ ks.length = i ∧ (ks ++ [k]).Nodup ∧ (∀ x ∈ ks ++ [k], S.length ≤ x ∧ x ≠ a) ∧ (∀ (j x : Nat), (ks ++ [k])[j]? = some x → S'[x]? = some (.lst ((layerB f sides (m - j)).map Pv.D.bl))) ∧ ∃ J, S' = S ++ J
section
variable {G : Prog} [LibW G] {n d : Nat} {S : Sto}
theorem layP_step {a m i : Nat} {f : List Bool → Bool} {sides : List Bool} {side : Bool} {S' : Sto} (hm : sides.length = m) (hm2 : m ≤ 14) (hi : i < m) (hs : sides[m - 1 - i]? = some side) (ha : S.length ≤ a) (hn : 100000 ≤ n) (h : LayP S a m f sides i S') (x s2 s3 s4 : Option Pv.D) :
    ∃ S2 t3 t4, turnF G n (evQ G n oldF d) (mkQ G n oldF d) (.var 3) layersBody (.bl side) [x, some (.ref a), s2, s3, s4, none] S' = .nx [x, some (.ref a), s2, t3, t4, none] S2 ∧ LayP S a m f sides (i + 1) S2 := by
  obtain ⟨ks, k, h1, h2, h3, h4, h5, J, hJ⟩ := h
  have hk := h5 i k (by rw [← h2]; simp)
  have hl : (layerB f sides (m - i)).length < 100000 := by
    rw [layer_length]
    have : 2 ^ (m - i) ≤ 2 ^ 14 := Nat.pow_le_pow_right (by omega) (by omega)
    omega
  have e := layers_turn (G := G) (n := n) (d := d) side h1 hk hl (by omega) hn x s2 s3 s4
  rw [show m - i = m - 1 - i + 1 by omega, layer_step f sides hs] at e
  refine ⟨_, _, _, e, ks ++ [k], S'.length, ?_, by simp [h2], ?_, ?_, ?_, ?_⟩
  · have hal : a < S'.length := (List.getElem?_eq_some_iff.mp h1).1
    rw [List.getElem?_set_self (by simp; omega)]
  · rw [List.nodup_append]
    refine ⟨h3, by simp, fun u hu v hv e => ?_⟩
    have : v = S'.length := by simpa using hv
    subst this
    subst e
    obtain ⟨j, hj⟩ := List.getElem?_of_mem hu
    have := (List.getElem?_eq_some_iff.mp (h5 j _ hj)).1
    omega
  · intro u hu
    rcases List.mem_append.mp hu with hu | hu
    · exact h4 u hu
    · have : u = S'.length := by simpa using hu
      subst this
      have hal : a < S'.length := (List.getElem?_eq_some_iff.mp h1).1
      exact ⟨by rw [hJ]; simp, by omega⟩
  · intro j u hj
    by_cases c : j < (ks ++ [k]).length
    · rw [List.getElem?_append_left c] at hj
      have hu := h4 u (List.mem_of_getElem? hj)
      rw [List.getElem?_set_ne (Ne.symm hu.2)]
      exact app_old (h5 j u hj)
    · have hj2 : j = i + 1 := by
        have := (List.getElem?_eq_some_iff.mp hj).1
        simp at this c
        omega
      subst hj2
      rw [List.getElem?_append_right (by omega)] at hj
      have e0 : i + 1 - (ks ++ [k]).length = 0 := by simp; omega
      rw [e0] at hj
      have : S'.length = u := by simpa using hj
      subst this
      have hal : a < S'.length := (List.getElem?_eq_some_iff.mp h1).1
      rw [List.getElem?_set_ne (by omega)]
      simp [show m - 1 - i = m - (i + 1) by omega]
  · refine ⟨(J ++ [Ob.lst ((layerB f sides (m - 1 - i)).map Pv.D.bl)]).set (a - S.length) (.lst ((ks ++ [k] ++ [S'.length]).map Pv.D.ref)), ?_⟩
    rw [hJ, List.append_assoc, List.set_append_right (h := ha)]
/-- the layers as they lie -/
def layersS (k : Nat) (f : List Bool → Bool) (sides : List Bool) : Sto := Ob.lst ((List.range (sides.length + 1)).map fun i => Pv.D.ref (k + (1 + i))) :: (List.range (sides.length + 1)).map fun j => Ob.lst ((layerB f sides j).map Pv.D.bl)
theorem revd_fix (bits : List Bool) (S : Sto) : revdOf (bitsD bits) S = .ok (.fix (bits.reverse.map Pv.D.bl)) S := by
  show R.ok (IS.fix (bits.map Pv.D.bl).reverse) S = _
  rw [List.map_reverse]
theorem bits_some (p : List Bool) : bitsD p = .tup ((p.map some).map obD) := by
  unfold bitsD
  rw [List.map_map]
  rfl
theorem law_layers_spec {sides : List Bool} {gs : List Gate} {wish : Nat} (hw : WfG sides.length gs) (hl : sides.length + gs.length < 4000) (hwi : wish < 2 * (sides.length + gs.length)) (hm : sides.length ≤ 14) (hn : 200000 ≤ n) :
    Q G n (d + 5) 9 [bookD sides gs wish] S = .ok (.ref S.length) (S ++ layersS S.length (wonB gs wish) sides) := by
  have s0 : ∀ S, subscr (bookD sides gs wish) (.int 0) S = .ok (bitsD sides) S := fun S => by simp [subscr, bookD]
  have ln : ∀ S, builtin .len [bitsD sides] S = .ok (.int sides.length) S := fun S => by simp [builtin, bitsD]
  have pl := law_plays_spec (G := G) (n := n) (d := d + 3) (S := S) hm hn
  obtain ⟨S1, hS1⟩ : ∃ S1, S1 = S ++ [Ob.lst ((allPlays sides.length).map bitsD)] := ⟨_, rfl⟩
  rw [← hS1] at pl
  have l1 : S1[S.length]? = some (.lst ((allPlays sides.length).map bitsD)) := by rw [hS1]; simp
  have wl : walkOf (.ref S.length) S1 = .ok (.lst S.length) S1 := by simp only [walkOf, l1]
  have le : 2 ^ sides.length ≤ 2 ^ 14 := Nat.pow_le_pow_right (by omega) hm
  have co := comp_m (S := S1) (src := .lst S.length) (n := n) (ys := allPlays sides.length) (e := bitsD) (turn := turnE G n (evQ G n oldF (d + 4)) (mkQ G n oldF (d + 4)) (.call 19 (.cons (.var 0) (.cons (.var 2) .nil))) (.var 2) .nil [2] [some (bookD sides gs wish), none, none, none, none, none])
    (fun p => .bl (wonB gs wish p)) (src_lst l1) (by rw [allPlays_length]; omega) (by rw [allPlays_length]; omega) fun p hp o => by
      have hpl := allPlays_mem hp
      have e := law_won_spec (G := G) (n := n) (d := d) (S := S1 ++ [o]) (gs := gs) (vs := p.map some) (wish := wish) (bitsD sides) (by rw [List.length_map, hpl]; exact hw) (by rw [List.length_map, hpl]; exact hl) (by omega) (by rw [List.length_map, hpl]; exact hwi)
      rw [lawWon_some (by rw [hpl]; exact hw) (by rw [hpl]; exact hwi), ← bits_some] at e
      have e : evQ G n oldF (d + 4) 19 [bookD sides gs wish, bitsD p] (S1 ++ [o]) = .ok (.bl (wonB gs wish p)) (S1 ++ [o]) := e
      simp -implicitDefEqProofs [turnE, wipeD, e]
  have em : (allPlays sides.length).map (fun p => Pv.D.bl (wonB gs wish p)) = (layerB (wonB gs wish) sides sides.length).map Pv.D.bl := by
    rw [layer_top, List.map_map]
    rfl
  rw [em] at co
  obtain ⟨S2, hS2⟩ : ∃ S2, S2 = S1 ++ [Ob.lst ((layerB (wonB gs wish) sides sides.length).map Pv.D.bl)] := ⟨_, rfl⟩
  rw [← hS2] at co
  have nl := newLst_ok (xs := [.ref S1.length]) (S := S2) (by simp)
  obtain ⟨S3, hS3⟩ : ∃ S3, S3 = S2 ++ [Ob.lst [.ref S1.length]] := ⟨_, rfl⟩
  rw [← hS3] at nl
  have hSl : S.length ≤ S1.length := by rw [hS1]; simp
  have h12 : S1.length < S2.length := by rw [hS2]; simp
  obtain ⟨σ', S', e, s2, s3, s4, hσ, hP⟩ := loopF_fix (xs := sides.reverse.map Pv.D.bl) (body := turnF G n (evQ G n oldF (d + 4)) (mkQ G n oldF (d + 4)) (.var 3) layersBody)
    (fun i σ S' => ∃ s2 s3 s4, σ = [some (bookD sides gs wish), some (.ref S2.length), s2, s3, s4, none] ∧ LayP S S2.length sides.length (wonB gs wish) sides i S')
    (w := n) (σ := [some (bookD sides gs wish), some (.ref S2.length), none, none, none, none]) (S := S3) (by simp; omega)
    ⟨none, none, none, rfl, [], S1.length, by rw [hS3]; simp, rfl, by simp, fun x hx => by
        have : x = S1.length := by simpa using hx
        subst this
        exact ⟨hSl, by omega⟩, fun j x hx => by
        have hj : j = 0 := by
          have := (List.getElem?_eq_some_iff.mp hx).1
          simpa using this
        subst hj
        have : S1.length = x := by simpa using hx
        subst this
        rw [hS3]
        refine app_old ?_
        rw [hS2]; simp, _, by rw [hS3, hS2, hS1, List.append_assoc, List.append_assoc]⟩
    (fun i y σ S' hy ⟨s2, s3, s4, hσ, hP⟩ => by
      subst hσ
      rw [List.getElem?_map] at hy
      cases es : sides.reverse[i]? with
      | none => rw [es] at hy; cases hy
      | some side =>
        rw [es] at hy
        have hy : Pv.D.bl side = y := Option.some.inj hy
        subst hy
        have hi : i < sides.length := by
          have := (List.getElem?_eq_some_iff.mp es).1
          simpa using this
        rw [List.getElem?_reverse hi] at es
        obtain ⟨S4, t3, t4, e, hP'⟩ := layP_step (G := G) (n := n) (d := d + 4) rfl hm hi es (by omega) (by omega) hP (some (bookD sides gs wish)) s2 s3 s4
        exact ⟨_, _, .inl e, s2, t3, t4, rfl, hP'⟩)
  subst hσ
  rw [List.length_map, List.length_reverse] at hP
  obtain ⟨ks, k, h1, h2, h3, h4, h5, J, hJ⟩ := hP
  have rv : reversed (.ref S2.length) S' = .ok (.ref S'.length) (S' ++ [Ob.lst ((ks ++ [k]).reverse.map Pv.D.ref)]) := by
    simp only [reversed, h1]
    rw [← List.map_reverse]
    rfl
  have fin := gc_refs (S := S) (S' := S' ++ [Ob.lst ((ks ++ [k]).reverse.map Pv.D.ref)]) (k := S'.length) (ks := (ks ++ [k]).reverse) (by simp) (by rw [hJ]; simp) (fun x hx => by
      have hx := List.mem_reverse.mp hx
      obtain ⟨j, hj⟩ := List.getElem?_of_mem hx
      have := (List.getElem?_eq_some_iff.mp (h5 j x hj)).1
      exact ⟨(h4 x hx).1, by omega⟩) (List.pairwise_reverse.mpr (h3.imp fun h => Ne.symm h)) (fun x hx => by
      have hx := List.mem_reverse.mp hx
      obtain ⟨j, hj⟩ := List.getElem?_of_mem hx
      exact ⟨_, app_old (h5 j x hj), newL_bls _ _⟩) (by rw [hJ, List.append_assoc]; exact OldOk.app)
  have fin2 : (S' ++ [Ob.lst ((ks ++ [k]).reverse.map Pv.D.ref)]).take S.length ++ Ob.lst ((List.range (ks ++ [k]).reverse.length).map fun i => Pv.D.ref (S.length + (1 + i))) :: (ks ++ [k]).reverse.map (fun x => ((S' ++ [Ob.lst ((ks ++ [k]).reverse.map Pv.D.ref)])[x]?).getD .dead) = S ++ layersS S.length (wonB gs wish) sides := by
    have e1 : (S' ++ [Ob.lst ((ks ++ [k]).reverse.map Pv.D.ref)]).take S.length = S := by rw [hJ, List.append_assoc]; simp
    have e2 : (ks ++ [k]).reverse.length = sides.length + 1 := by rw [List.length_reverse, List.length_append, h2]; rfl
    rw [e1, e2]
    unfold layersS
    congr 2
    apply List.ext_getElem?
    intro j
    rw [List.getElem?_map, List.getElem?_map]
    by_cases c : j < sides.length + 1
    · have ej : (List.range (sides.length + 1))[j]? = some j := by simp [c]
      have er : (ks ++ [k]).reverse[j]? = (ks ++ [k])[sides.length - j]? := by
        rw [List.getElem?_reverse (by rw [List.length_append, h2]; simpa using c)]
        congr 1
        rw [List.length_append, h2]
        simp
      obtain ⟨x, hx⟩ : ∃ x, (ks ++ [k])[sides.length - j]? = some x := ⟨(ks ++ [k])[sides.length - j]'(by rw [List.length_append, h2]; simp; omega), by simp⟩
      rw [ej, er, hx]
      simp only [Option.map_some]
      have := h5 _ x hx
      rw [app_old this, show sides.length - (sides.length - j) = j by omega]
      rfl
    · have ej : (List.range (sides.length + 1))[j]? = none := by simp; omega
      have er : (ks ++ [k]).reverse[j]? = none := by
        rw [List.getElem?_eq_none_iff, e2]; omega
      rw [ej, er]; rfl
  rw [fin2] at fin
  rw [Q, evQ_open (fn := ⟨1, 6, c__law_layers⟩) rfl (wfn (by decide)) rfl, ← fin]
  have rd := revd_fix sides S3
  simp only [layersBody, c__law_layers] at e
  simp -implicitDefEqProofs [c__law_layers, startD, s0, ln, pl, wl, co, nl, rd, e, rv, -List.map_append, -List.reverse_append, -List.map_reverse]
end
end K74
end

section
set_option autoImplicit false
set_option linter.all false
set_option maxHeartbeats 2000000
set_option maxRecDepth 10000
/-! W11: sameness. -/
namespace K74
open Pv Dia Lc
open PySem (Str)
open L2 (Key)
/-- a number or a flag -/
def isNum : Pv.D → Bool
  | .int _ => true
  | .bl _ => true
  | _ => false
section
variable {G : Prog} [LibW G] {n d : Nat} {S : Sto}
theorem law_same_num {x : Pv.D} (hx : isNum x = true) : Q G n (d + 1) 2 [x, x] S = .ok (.bl true) S := by
  rw [Q, evQ_open (fn := ⟨2, 3, c__law_same⟩) rfl (wfn (by decide)) rfl]
  cases x with
  | int i =>
    simp -implicitDefEqProofs [c__law_same, startD, tyIs, cmpop, isNone, eqS]
    exact gc_same rfl
  | bl b =>
    simp -implicitDefEqProofs [c__law_same, startD, tyIs, cmpop, isNone, eqS]
    exact gc_same rfl
  | _ => cases hx
theorem law_same_tup {xs : List Pv.D} (hx : ∀ x ∈ xs, isNum x = true) (hl : xs.length < 4000) (hn : 5000 ≤ n) : Q G n (d + 2) 2 [.tup xs, .tup xs] S = .ok (.bl true) S := by
  rw [Q, evQ_open (fn := ⟨2, 3, c__law_same⟩) rfl (wfn (by decide)) rfl]
  have co := comp_m (S := S) (src := .rng 0 1 xs.length) (n := n) (ys := List.range xs.length) (e := fun i : Nat => Pv.D.int i) (turn := turnE G n (evQ G n oldF (d + 1)) (mkQ G n oldF (d + 1)) (.call 2 (.cons (.sub (.var 0) (.var 2)) (.cons (.sub (.var 1) (.var 2)) .nil))) (.var 2) .nil [2] [some (.tup xs), some (.tup xs), none])
    (fun _ => .bl true) src_rng0 (by simp; omega) (by simp; omega) fun i hi o => by
      have hi : i < xs.length := by simpa using hi
      have e : xs[i]? = some xs[i] := by simp [hi]
      have g : subscr (.tup xs) (.int (i : Nat)) (S ++ [o]) = .ok xs[i] (S ++ [o]) := by
        have : getAt xs (i : Nat) = some xs[i] := by rw [getAt_nat _ _ hi, e]
        simp only [subscr, this]
      have s : evQ G n oldF (d + 1) 2 [xs[i], xs[i]] (S ++ [o]) = .ok (.bl true) (S ++ [o]) := law_same_num (hx _ (List.getElem_mem hi))
      simp -implicitDefEqProofs [turnE, wipeD, g, s]
  have ra := range_ok xs.length (by omega) S
  have e : (List.range xs.length).map (fun _ => Pv.D.bl true) = (List.range xs.length).map fun i => .bl ((fun _ => true) i) := rfl
  rw [e] at co
  have al : builtin .all [.ref S.length] (S ++ [Ob.lst ((List.range xs.length).map fun i => Pv.D.bl ((fun _ => true) i))]) = .ok (.bl true) (S ++ [Ob.lst ((List.range xs.length).map fun i => Pv.D.bl ((fun _ => true) i))]) := by
    have : ((List.range xs.length).map (fun _ => true)).all id = true := by
      rw [List.all_eq_true]
      intro y hy
      obtain ⟨_, _, rfl⟩ := List.mem_map.mp hy
      rfl
    simp only [builtin, app_at0, boolsOf_map, this]
  have ln : builtin .len [.tup xs] S = .ok (.int xs.length) S := rfl
  have tt : tyIs S (.tup xs) .tuple = some true := rfl
  have ne : cmpop .ne (.int xs.length) (.int xs.length) S = .ok (.bl false) S := by simp [cmpop, eqS]
  simp only [] at co
  obtain ⟨S1, hS1⟩ : ∃ S1, S1 = S ++ [Ob.lst ((List.range xs.length).map fun i => Pv.D.bl ((fun _ => true) i))] := ⟨_, rfl⟩
  have co : loopC (.rng 0 1 xs.length) S.length (turnE G n (evQ G n oldF (d + 1)) (mkQ G n oldF (d + 1)) (.call 2 (.cons (.sub (.var 0) (.var 2)) (.cons (.sub (.var 1) (.var 2)) .nil))) (.var 2) .nil [2] [some (.tup xs), some (.tup xs), none]) n 0 (S ++ [.lst []]) = .ok (.ref S.length) S1 := by rw [hS1]; exact co
  rw [← hS1] at al
  have fin : gc S (.ok (.bl true) S1) = .ok (.bl true) S := by rw [hS1]; exact gc_app rfl
  rw [← fin]
  simp -implicitDefEqProofs [c__law_same, startD, tt, ln, ne, ra, co, al]
theorem law_flag_spec (b : Bool) : Q G n (d + 1) 4 [.bl b, .bl b] S = .ok (.bl true) S := by
  rw [Q, evQ_open (fn := ⟨2, 2, c__law_flag⟩) rfl (wfn (by decide)) rfl]
  simp -implicitDefEqProofs [c__law_flag, startD, tyIs, cmpop, eqS]
  exact gc_same rfl
end
end K74
end

section
set_option autoImplicit false
set_option linter.all false
set_option maxHeartbeats 2000000
set_option maxRecDepth 10000
/-! X1: the diagrams' methods, forgetfully. -/
namespace K74
open Pv Dia Lc
open PySem (Str)
open L2 (Key)
/-- the store with other diagrams -/
def wr (S : Sto) (a b c : Nat) (N : Nds) (K P : List (List Key × Pv.D)) : Sto := ((S.set a (.lst (nodesD N))).set b (.dT K)).set c (.dT P)
section
variable {m : Nat} {S S' : Sto} {o a b c : Nat} {N N' : Nds} {K P K' P' : List (List Key × Pv.D)}
theorem wr_length : (wr S a b c N K P).length = S.length := by simp [wr]
theorem wr_chg : Chg [a, b, c] S (wr S a b c N K P) := by
  unfold wr
  exact ((Chg.set _ (by simp)).trans (Chg.set _ (by simp))).trans (Chg.set _ (by simp))
theorem wr_wr {N2 : Nds} {K2 P2 : List (List Key × Pv.D)} (h1 : a ≠ b) (h2 : a ≠ c) (h3 : b ≠ c) : wr (wr S a b c N K P) a b c N2 K2 P2 = wr S a b c N2 K2 P2 := by
  apply List.ext_getElem?
  intro i
  unfold wr
  simp only [List.getElem?_set, List.length_set]
  by_cases c1 : c = i <;> by_cases c2 : b = i <;> by_cases c3 : a = i <;> simp_all
theorem nodesD_flat (k : Nat) (N : Nds) : newL k (nodesD N) = [] := by
  unfold nodesD
  rw [newL_cons, newL_cons, newL_map (fun q => by simp [nodeD])]
  rfl
theorem dict_flat {κ : Type} (k : Nat) {l : List (κ × Pv.D)} (h : ∀ q ∈ l, ∃ i : Nat, q.2 = .int i) : newL k (l.map (·.2)) = [] := newL_all fun x hx => by
  obtain ⟨q, hq, rfl⟩ := List.mem_map.mp hx
  obtain ⟨i, e⟩ := h q hq
  rw [e]; rfl
theorem Ok.wr (h : Ok m S o a b c N K P) (h' : Ok m S' o a b c N' K' P') : Ok m (wr S a b c N' K' P') o a b c N' K' P' := by
  obtain ⟨p1, p2, p3, p4, p5, p6⟩ := h.ap
  have la := (List.getElem?_eq_some_iff.mp h.nds).1
  have lb := (List.getElem?_eq_some_iff.mp h.kn).1
  have lc := (List.getElem?_eq_some_iff.mp h.kp).1
  refine ⟨?_, ?_, ?_, ?_, h.ap, h'.kno, h'.kep, h'.kl, h'.knf, h'.kpf⟩
  · unfold K74.wr
    rw [List.getElem?_set_ne (Ne.symm p3), List.getElem?_set_ne (Ne.symm p2), List.getElem?_set_ne (Ne.symm p1)]
    exact h.ins
  · unfold K74.wr
    rw [List.getElem?_set_ne (Ne.symm p5), List.getElem?_set_ne (Ne.symm p4), List.getElem?_set_self la]
  · unfold K74.wr
    rw [List.getElem?_set_ne (Ne.symm p6), List.getElem?_set_self (by simp; exact lb)]
  · unfold K74.wr
    rw [List.getElem?_set_self (by simp; exact lc)]
theorem Ok.take (h : Ok m S o a b c N K P) (h' : Ok m S' o a b c N' K' P') (ch : Chg [a, b, c] S S') : S'.take S.length = K74.wr S a b c N' K' P' := by
  have w := h.wr h'
  have wl := wr_length (S := S) (a := a) (b := b) (c := c) (N := N') (K := K') (P := P')
  apply List.ext_getElem?
  intro i
  rw [List.getElem?_take]
  by_cases hi : i < S.length
  · rw [if_pos hi]
    by_cases ia : i = a
    · subst ia; rw [h'.nds, w.nds]
    · by_cases ib : i = b
      · subst ib; rw [h'.kn, w.kn]
      · by_cases ic : i = c
        · subst ic; rw [h'.kp, w.kp]
        · rw [ch.2 i hi (by simp; exact ⟨ia, ib, ic⟩)]
          exact (wr_chg.2 i hi (by simp; exact ⟨ia, ib, ic⟩)).symm
  · rw [if_neg hi]
    symm
    rw [List.getElem?_eq_none_iff]
    omega
theorem Ok.old (h : Ok m S o a b c N K P) (h' : Ok m S' o a b c N' K' P') (ch : Chg [a, b, c] S S') : OldOk S S' := by
  refine ⟨ch.1, fun i hi => ?_⟩
  by_cases ia : i = a
  · subst ia; right; rw [h'.nds]; exact nodesD_flat _ _
  · by_cases ib : i = b
    · subst ib; right; rw [h'.kn]; exact dict_flat _ h'.knf
    · by_cases ic : i = c
      · subst ic; right; rw [h'.kp]; exact dict_flat _ h'.kpf
      · exact .inl (ch.2 i hi (by simp; exact ⟨ia, ib, ic⟩))
theorem Ok.gc (h : Ok m S o a b c N K P) (h' : Ok m S' o a b c N' K' P') (ch : Chg [a, b, c] S S') {x : Pv.D} (hx : newD S.length x = []) : gc S (.ok x S') = .ok x (K74.wr S a b c N' K' P') := by
  rw [gc_chg hx (h.old h' ch), h.take h' ch]
/-- .. a new list is handed back -/
theorem Ok.gcL (h : Ok m S o a b c N K P) (h' : Ok m S' o a b c N' K' P') (ch : Chg [a, b, c] S S') {k : Nat} {ob : Ob} (hk : S'[k]? = some ob) (h1 : S.length ≤ k) (hx : newO S.length ob = []) : Pv.gc S (.ok (.ref k) S') = .ok (.ref S.length) (K74.wr S a b c N' K' P' ++ [ob]) := by
  rw [gc_ref hk h1 hx (h.old h' ch), h.take h' ch]
/-- a call's end: the diagrams have grown -/
def KeptQ (m : Nat) (S S' : Sto) (o a b c : Nat) (N : Nds) (P : List (List Key × Pv.D)) (B : Nat) (Q : Nds → Prop) : Prop :=
  ∃ xx K' P', S' = K74.wr S a b c (N ++ xx) K' P' ∧ Ok m S' o a b c (N ++ xx) K' P' ∧ xx.length ≤ B ∧ P'.length ≤ P.length + B ∧ Q (N ++ xx)
theorem Kept.q (h : Ok m S o a b c N K P) {B : Nat} {Q : Nds → Prop} (k : Kept m S S' o a b c N P B Q) {x : Pv.D} (hx : newD S.length x = []) : ∃ S2, Pv.gc S (.ok x S') = .ok x S2 ∧ KeptQ m S S2 o a b c N P B Q := by
  obtain ⟨xx, K', P', k1, k2, k3, k4, k5⟩ := k
  exact ⟨_, h.gc k1 k2 hx, xx, K', P', rfl, h.wr k1, k3, k4, k5⟩
theorem KeptQ.k {B : Nat} {Q : Nds → Prop} (k : KeptQ m S S' o a b c N P B Q) : Kept m S S' o a b c N P B Q := by
  obtain ⟨xx, K', P', k1, k2, k3, k4, k5⟩ := k
  exact ⟨xx, K', P', k2, by rw [k1]; exact wr_chg, k3, k4, k5⟩
end
section
variable {G : Prog} [LibD G] {n d m : Nat} {S : Sto} {o a b c : Nat} {N : Nds} {K P : List (List Key × Pv.D)}
theorem chosen_q (hS : Ok m S o a b c N K P) (hn : 5000 ≤ n) (hm : m ≤ 7) {i j k : Nat} {gx gy gz : Fun} {t : Nat} (T : Tri3 m N (i, j, k) gx gy gz t) (hP : P.length ≤ 300000) (hN : N.length ≤ 180000) :
    ∃ S' r, Q G n (d + 4) 36 [.ref o, .int i, .int j, .int k] S = .ok (.int (r : Nat)) S' ∧ KeptQ m S S' o a b c N P 400 fun N' => Dia.Den m N' r (ite3 gx gy gz) t := by
  obtain ⟨S1, r, e, kk⟩ := chosen_spec (G := G) (n := n) (d := d) hS hn hm T hP hN
  obtain ⟨S2, e2, k2⟩ := Kept.q hS kk (x := .int (r : Nat)) rfl
  exact ⟨S2, r, by rw [Q, evQ_old (by decide), e, e2], k2⟩
theorem turned_q (hS : Ok m S o a b c N K P) (hn : 5000 ≤ n) (hm : m ≤ 7) {i : Nat} {g : Fun} {t : Nat} (T : Dia.Den m N i g t) (hP : P.length ≤ 300000) (hN : N.length ≤ 180000) :
    ∃ S' r, Q G n (d + 5) 38 [.ref o, .int i] S = .ok (.int (r : Nat)) S' ∧ KeptQ m S S' o a b c N P 400 fun N' => Dia.Den m N' r (fun x => !g x) t := by
  obtain ⟨S1, r, e, kk⟩ := turned_spec (G := G) (n := n) (d := d) hS hn hm T hP hN
  obtain ⟨S2, e2, k2⟩ := Kept.q hS kk (x := .int (r : Nat)) rfl
  exact ⟨S2, r, by rw [Q, evQ_old (by decide), e, e2], k2⟩
theorem put_q (hS : Ok m S o a b c N K P) {f l h : Nat} {gl gh : Fun} (hl : Dia.Den m N l gl (f + 1)) (hh : Dia.Den m N h gh (f + 1)) (hf : f < m) (hN : N.length < 190000) :
    ∃ S' r, Q G n (d + 1) 40 [.ref o, .int f, .int l, .int h] S = .ok (.int (r : Nat)) S' ∧ KeptQ m S S' o a b c N P 1 fun N' => Dia.Den m N' r (fun x => if x f = true then gh x else gl x) f := by
  obtain ⟨S1, x, K', r, e, k1, k2, k3, k4⟩ := put_spec (G := G) (n := n) (d := d) hS hl hh hf hN
  have ch : Chg [a, b, c] S S1 := k2.mono (by simp)
  refine ⟨_, r, by rw [Q, evQ_old (by decide), e, hS.gc k1 ch (x := .int (r : Nat)) rfl], x, K', P, rfl, hS.wr k1, k3, by omega, k4 m _ _ hl hh hf⟩
theorem flag_q (hS : Ok m S o a b c N K P) {f : Nat} (hf : f < m) (hN : N.length < 190000) :
    ∃ S' r, Q G n (d + 2) 31 [.ref o, .int f] S = .ok (.int (r : Nat)) S' ∧ KeptQ m S S' o a b c N P 1 fun N' => Dia.Den m N' r (fun x => x f) f := by
  obtain ⟨S1, x, K', r, e, k1, k2, k3, k4⟩ := flag_spec (G := G) (n := n) (d := d) hS hf hN
  have ch : Chg [a, b, c] S S1 := k2.mono (by simp)
  refine ⟨_, r, by rw [Q, evQ_old (by decide), e, hS.gc k1 ch (x := .int (r : Nat)) rfl], x, K', P, rfl, hS.wr k1, k3, by omega, k4⟩
theorem ref_q (hS : Ok m S o a b c N K P) (hn : 5000 ≤ n) (hm : m ≤ 7) {fl : Nat} {is : List Nat} {gs : List Fun} {t : Nat} (hl : S[fl]? = some (.lst (is.map fun i => Pv.D.int (i : Nat)))) (T : DenAll m N t is gs) {ref : Nat} (hr : ref < 2 * is.length)
    (hP : P.length ≤ 300000) (hN : N.length ≤ 180000) :
    ∃ S' r, Q G n (d + 6) 28 [.ref o, .ref fl, .int ref] S = .ok (.int (r : Nat)) S' ∧ KeptQ m S S' o a b c N P 400 fun N' => Dia.Den m N' r (refF gs ref) t := by
  obtain ⟨S1, r, e, kk⟩ := ref_spec (G := G) (n := n) (d := d) hS hn hm hl T hr hP hN
  obtain ⟨S2, e2, k2⟩ := Kept.q hS kk (x := .int (r : Nat)) rfl
  exact ⟨S2, r, by rw [Q, evQ_old (by decide), e, e2], k2⟩
theorem gate_q (hS : Ok m S o a b c N K P) (hn : 5000 ≤ n) (hm : m ≤ 7) (g : Gate) {l : Nat} {is : List Nat} {fs : List Fun} {t : Nat} (hl : S[l]? = some (.lst (is.map fun i => Pv.D.int (i : Nat)))) (hne : l ∉ [a, b, c]) (T : DenAll m N t is fs) (hlen : is.length = g.refs.length) (h10 : is.length ≤ 10)
    (hP : P.length ≤ 280000) (hN : N.length ≤ 160000) :
    ∃ S' v, Q G n (d + 7) 29 [.ref o, g.D, .ref l] S = .ok (.int (v : Nat)) S' ∧ KeptQ m S S' o a b c N P 9000 fun N' => Dia.Den m N' v (g.fn fs) t := by
  obtain ⟨S1, r, e, kk⟩ := gate_spec (G := G) (n := n) (d := d) hS hn hm g hl hne T hlen h10 hP hN
  obtain ⟨S2, e2, k2⟩ := Kept.q hS kk (x := .int (r : Nat)) rfl
  exact ⟨S2, r, by rw [Q, evQ_old (by decide), e, e2], k2⟩
theorem refs_of_q (g : Gate) : Q G n (d + 1) 30 [g.D] S = .ok (.tup (natD g.refs)) S := by
  rw [Q, evQ_old (by decide), refs_of_spec]
  exact gc_same (by simp)
end
end K74
end

section
set_option autoImplicit false
set_option linter.all false
set_option maxHeartbeats 2000000
set_option maxRecDepth 60000
/-! X2: a book's diagram. -/
namespace K74
open Pv Dia Lc
open PySem (Str)
open L2 (Key)
/-- an instance of Book -/
def BookAt (S : Sto) (bo : Nat) (sides : List Bool) (gs : List Gate) (wish : Nat) : Prop := S[bo]? = some (.ins 0 [(0, bitsD sides), (4, .tup (gs.map Gate.D)), (3, .int wish), (1, .int sides.length)])
def flagFs (m : Nat) : List Fun := (List.range m).map fun f => fun x => x f
def gateFs : List Gate → List Fun → List Fun
  | [], fs => fs
  | g :: r, fs => gateFs r (fs ++ [g.fn (g.refs.map (refF fs))])
theorem gateFs_snoc : ∀ (gs : List Gate) (g : Gate) (fs : List Fun), gateFs (gs ++ [g]) fs = gateFs gs fs ++ [g.fn (g.refs.map (refF (gateFs gs fs)))]
  | [], g, fs => rfl
  | h :: gs, g, fs => gateFs_snoc gs g _
theorem gateFs_length : ∀ (gs : List Gate) (fs : List Fun), (gateFs gs fs).length = fs.length + gs.length
  | [], fs => rfl
  | g :: gs, fs => by
    show (gateFs gs (fs ++ [_])).length = _
    rw [gateFs_length gs]
    simp
    omega
theorem refF_refB (fs : List Fun) (r : Nat) (x : Nat → Bool) : refF fs r x = refB (fs.map fun f => f x) r := by
  unfold refF refB
  rw [List.getElem?_map]
  cases fs[r / 2]? <;> rfl
theorem gate_fn_B (fs : List Fun) (g : Gate) (x : Nat → Bool) : g.fn (g.refs.map (refF fs)) x = gateB (fs.map fun f => f x) g := by
  cases g with
  | conj r =>
    show (r.map (refF fs)).all (fun f => f x) = r.all (refB (fs.map fun f => f x))
    rw [List.all_map]
    congr 1
    funext y
    exact refF_refB fs y x
  | disj r =>
    show (r.map (refF fs)).any (fun f => f x) = r.any (refB (fs.map fun f => f x))
    rw [List.any_map]
    congr 1
    funext y
    exact refF_refB fs y x
  | xor y z =>
    show (refF fs y x != refF fs z x) = (refB (fs.map fun f => f x) y != refB (fs.map fun f => f x) z)
    rw [refF_refB, refF_refB]
  | ite y z w =>
    show (if refF fs y x = true then refF fs z x else refF fs w x) = if refB (fs.map fun f => f x) y = true then refB (fs.map fun f => f x) z else refB (fs.map fun f => f x) w
    rw [refF_refB, refF_refB, refF_refB]
theorem gateFs_B : ∀ (gs : List Gate) (fs : List Fun) (x : Nat → Bool), (gateFs gs fs).map (fun f => f x) = reckB gs (fs.map fun f => f x)
  | [], fs, x => rfl
  | g :: gs, fs, x => by
    show (gateFs gs (fs ++ [g.fn (g.refs.map (refF fs))])).map (fun f => f x) = reckB gs (fs.map (fun f => f x) ++ [gateB (fs.map fun f => f x) g])
    rw [gateFs_B gs]
    rw [List.map_append, List.map_cons, gate_fn_B]
    rfl
/-- a book's function -/
def bookF (m : Nat) (gs : List Gate) (wish : Nat) : Fun := refF (gateFs gs (flagFs m)) wish
theorem bookF_won (m : Nat) (gs : List Gate) (wish : Nat) (x : Nat → Bool) : bookF m gs wish x = wonB gs wish ((List.range m).map x) := by
  unfold bookF wonB
  rw [refF_refB, gateFs_B]
  unfold flagFs
  rw [List.map_map]
  rfl
section
variable {G : Prog} [LibD G] {n d m : Nat} {S : Sto} {o a b c bo fl : Nat} {N : Nds} {K P : List (List Key × Pv.D)} {sides : List Bool} {gs : List Gate} {wish : Nat}
theorem BookAt.chg {S' : Sto} (h : BookAt S bo sides gs wish) (ch : Chg [a, b, c] S S') (ne : bo ∉ [a, b, c]) : BookAt S' bo sides gs wish := ch.at ne h
theorem dfl (f : Nat) (h : (0, f) ∈ dFlds) : G.flds 0 f = true := LibD.flds (0, f) h
theorem BookAt.gSides (h : BookAt S bo sides gs wish) : getattr G (.ref bo) 0 S = .ok (bitsD sides) S := by
  have e : S[bo]? = _ := h
  simp [getattr, e, dfl 0 (by decide), lookA]
theorem BookAt.gGates (h : BookAt S bo sides gs wish) : getattr G (.ref bo) 4 S = .ok (.tup (gs.map Gate.D)) S := by
  have e : S[bo]? = _ := h
  simp [getattr, e, dfl 4 (by decide), lookA]
theorem BookAt.gWish (h : BookAt S bo sides gs wish) : getattr G (.ref bo) 3 S = .ok (.int wish) S := by
  have e : S[bo]? = _ := h
  simp [getattr, e, dfl 3 (by decide), lookA]
theorem BookAt.gMany (h : BookAt S bo sides gs wish) : getattr G (.ref bo) 1 S = .ok (.int sides.length) S := by
  have e : S[bo]? = _ := h
  simp [getattr, e, dfl 1 (by decide), lookA]
theorem BookAt.ne (h : BookAt S bo sides gs wish) (hS : Ok m S o a b c N K P) : bo ∉ [a, b, c] := by
  have e : S[bo]? = _ := h
  intro hm
  simp at hm
  rcases hm with hm | hm | hm
  · subst hm; rw [hS.nds] at e; cases e
  · subst hm; rw [hS.kn] at e; cases e
  · subst hm; rw [hS.kp] at e; cases e
theorem ms8 : G.meth 3 8 = some 31 := LibD.meth (3, 8, 31) (by decide)
theorem Ok.lt (hS : Ok m S o a b c N K P) {k : Nat} (h : S.length ≤ k) : k ≠ o ∧ k ≠ a ∧ k ≠ b ∧ k ≠ c := by
  have h1 := (List.getElem?_eq_some_iff.mp hS.ins).1
  have h2 := (List.getElem?_eq_some_iff.mp hS.nds).1
  have h3 := (List.getElem?_eq_some_iff.mp hS.kn).1
  have h4 := (List.getElem?_eq_some_iff.mp hS.kp).1
  omega
/-- the flags' diagrams -/
theorem flags_ok (hS : Ok m S o a b c N K P) (hn : 5000 ≤ n) (hm : m ≤ 7) (x y : Option Pv.D) (hN : N.length ≤ 160000) :
    ∃ S' rs, loopC (.rng 0 1 m) S.length (turnE G n (evQ G n oldF (d + 2)) (mkQ G n oldF (d + 2)) (.meth (.var 0) 8 (.cons (.var 3) .nil)) (.var 3) .nil [3] [some (.ref o), x, none, none, none, none]) n 0 (S ++ [.lst []]) = .ok (.ref S.length) S' ∧ S'[S.length]? = some (.lst (rs.map fun r : Nat => Pv.D.int r)) ∧ Kept m S S' o a b c N P 4000 fun N' => DenAll m N' 0 rs (flagFs m) := by
  refine compK (n := n) (src := .rng 0 1 m) (xs := (List.range m).map fun i : Nat => Pv.D.int i) (fs := flagFs m) (t := 0) hS hn (by simp [flagFs]) (by simp; omega) (fun S1 _ i => by
    by_cases h : i < m <;> simp [IS.at, h]) (fun i v g S1 xx K' P' hx hg ok ch l1 l2 hl => ?_)
  rw [List.getElem?_map] at hx
  by_cases h : i < m
  · have ei : (List.range m)[i]? = some i := by simp [h]
    rw [ei] at hx
    have hx : Pv.D.int i = v := Option.some.inj hx
    subst hx
    unfold flagFs at hg
    rw [List.getElem?_map, ei] at hg
    have hg : (fun x : Nat → Bool => x i) = g := Option.some.inj hg
    subst hg
    obtain ⟨S2, r, e, k⟩ := flag_q (G := G) (n := n) (d := d) ok h (by rw [List.length_append]; omega)
    obtain ⟨xx2, K2, P2, k1, k2, k3, k4, k5⟩ := k.k
    exact ⟨S2, r, by simp -implicitDefEqProofs [turnE, wipeD, ok.ins, ms8, lookA, e], xx2, K2, P2, k1, k2, by omega, by omega, k5.low (by omega)⟩
  · have ei : (List.range m)[i]? = none := by simp; omega
    rw [ei] at hx; cases hx
def bdBody : C := match c_book_diagram with
  | .cons _ (.cons (.forr _ _ b) _) => b
  | _ => .nil
/-- the loop's stand -/
def BdP (m : Nat) (S : Sto) (o a b c bo fl : Nat) (N : Nds) (P : List (List Key × Pv.D)) (gs : List Gate) (i : Nat) (σ : Sl) (S' : Sto) : Prop :=
  ∃ is xx K' P' s4, σ = [some (.ref o), some (.ref bo), some (.ref fl), none, s4, none] ∧ Ok m S' o a b c (N ++ xx) K' P' ∧ Chg [a, b, c] S S' ∧ S.length < S'.length ∧ S'[fl]? = some (.lst (is.map fun i : Nat => Pv.D.int i)) ∧ DenAll m (N ++ xx) 0 is (gateFs (gs.take i) (flagFs m)) ∧ xx.length ≤ 4000 + 13000 * i ∧ P'.length ≤ P.length + (4000 + 13000 * i)
theorem bd_aux1 {xx x1 x2 : Nds} {i : Nat} (l1 : xx.length ≤ 4000 + 13000 * i) (k3 : x1.length ≤ 4000) (q3 : x2.length ≤ 9000) : (xx ++ x1 ++ x2).length ≤ 4000 + 13000 * (i + 1) := by
  simp only [List.length_append]; omega
theorem bd_aux2 {p p1 p2 q i : Nat} (l2 : p ≤ q + (4000 + 13000 * i)) (k4 : p1 ≤ p + 4000) (q4 : p2 ≤ p1 + 9000) : p2 ≤ q + (4000 + 13000 * (i + 1)) := by omega
theorem bd_turn (hn : 5000 ≤ n) (hm : m ≤ 7) {i : Nat} {g : Gate} {σ : Sl} {S' : Sto} (hfl : S.length = fl) (hS : Ok m S o a b c N K P) (hg : gs[i]? = some g) (hw : WfG m gs) (hr : g.refs.length ≤ 10) (hi : i ≤ 8) (hN : N.length ≤ 40000) (hP : P.length ≤ 100000) (h : BdP m S o a b c bo fl N P gs i σ S') :
    ∃ σ2 S2, turnF G n (evQ G n oldF (d + 7)) (mkQ G n oldF (d + 7)) (.var 4) bdBody g.D σ S' = .nx σ2 S2 ∧ BdP m S o a b c bo fl N P gs (i + 1) σ2 S2 := by
  obtain ⟨is, xx, K', P', s4, hσ, ok, ch, hlt, hf, T, l1, l2⟩ := h
  subst hσ
  have hflt : fl ∉ [a, b, c] := by
    have := hS.lt (k := fl) (by omega)
    simp; exact this.2
  have hil : i < gs.length := (List.getElem?_eq_some_iff.mp hg).1
  have hlen : is.length = m + i := by
    rw [T.1, gateFs_length, List.length_take]
    unfold flagFs
    simp
    omega
  obtain ⟨w1, _⟩ := hw.at hg
  obtain ⟨S1, rs, e1, hl1, xx1, K1, P1, k1, k2, k3, k4, k5⟩ := compK (n := n) (src := .fix (natD g.refs)) (xs := natD g.refs) (fs := g.refs.map (refF (gateFs (gs.take i) (flagFs m)))) (t := 0)
    (turn := turnE G n (evQ G n oldF (d + 7)) (mkQ G n oldF (d + 7)) (.call 28 (.cons (.var 0) (.cons (.var 2) (.cons (.var 5) .nil)))) (.var 5) .nil [5] [some (.ref o), some (.ref bo), some (.ref fl), none, some g.D, none]) ok hn (by simp [natD]) (by simp [natD]; exact hr)
    (fun S1 _ i => rfl)
    (fun j v f S1 xx1 K1 P1 hv hf2 ok1 ch1 m1 m2 hl => by
      unfold natD at hv
      rw [List.getElem?_map] at hv
      cases er : g.refs[j]? with
      | none => rw [er] at hv; cases hv
      | some r =>
        rw [er] at hv
        have hv : Pv.D.int r = v := Option.some.inj hv
        subst hv
        rw [List.getElem?_map, er] at hf2
        have hf2 : refF (gateFs (gs.take i) (flagFs m)) r = f := Option.some.inj hf2
        subst hf2
        have hj : j < g.refs.length := (List.getElem?_eq_some_iff.mp er).1
        obtain ⟨S2, q, e, k⟩ := ref_q (G := G) (n := n) (d := d + 1) ok1 hn hm (ch1.at hflt hf) (T.grow xx1) (ref := r) (by rw [hlen]; exact w1 r (List.mem_of_getElem? er)) (by omega) (by rw [List.length_append, List.length_append]; omega)
        exact ⟨S2, q, by simp -implicitDefEqProofs [turnE, wipeD, e], k.k⟩)
  have hrl : rs.length = g.refs.length := by have := k5.1; rw [List.length_map] at this; exact this
  have hneL : S'.length ∉ [a, b, c] := by
    have := ok.lt (k := S'.length) (Nat.le_refl _)
    simp; exact this.2
  obtain ⟨S2, v, e2, kk⟩ := gate_q (G := G) (n := n) (d := d) k1 hn hm g (l := S'.length) hl1 hneL k5 hrl (by omega) (by omega) (by rw [List.length_append, List.length_append]; omega)
  obtain ⟨xx2, K2, P2, q1, q2, q3, q4, q5⟩ := kk.k
  have hf2 : S2[fl]? = some (.lst (is.map fun i : Nat => Pv.D.int i)) := q2.at hflt (k2.at hflt hf)
  have rc : bmRecv .append (.ref fl) S' = true := recv_append hf
  have ap : bmethod .append (.ref fl) [.int v] S2 = .ok .non (S2.set fl (.lst ((is ++ [v]).map fun i : Nat => Pv.D.int i))) := by
    rw [append_at (l := []) hf2 (by simp; omega)]
    simp
  have rq := refs_of_q (G := G) (n := n) (d := d + 6) (S := S') g
  refine ⟨_, S2.set fl (.lst ((is ++ [v]).map fun i : Nat => Pv.D.int i)), ?_, is ++ [v], xx ++ xx1 ++ xx2, K2, P2, some g.D, rfl, ?_, ?_, ?_, ?_, ?_, ?_, ?_⟩
  · simp -implicitDefEqProofs [turnF, bdBody, c_book_diagram, rc, rq, walkOf, e1, e2, ap, -List.map_append]
  · rw [← List.append_assoc, ← List.append_assoc]
    exact q1.setW (hS.lt (by omega)) _
  · have c3 := ((ch.trans k2).trans q2)
    refine ⟨by simpa using c3.1, fun j hj hm => ?_⟩
    rw [List.getElem?_set_ne (by omega)]
    exact c3.2 j hj hm
  · rw [List.length_set]
    have := k2.1
    have := q2.1
    omega
  · rw [List.getElem?_set_self (List.getElem?_eq_some_iff.mp hf2).1]
  · rw [List.take_succ, hg, ← List.append_assoc, ← List.append_assoc]
    simp only [Option.toList_some]
    rw [gateFs_snoc]
    refine ⟨by simp [T.1], fun k j f e3 e4 => ?_⟩
    by_cases hk : k < is.length
    · rw [List.getElem?_append_left hk] at e3
      rw [List.getElem?_append_left (by rw [← T.1]; exact hk)] at e4
      exact ((T.2 k j f e3 e4).grow xx1).grow xx2
    · have hk2 : k = is.length := by
        have := (List.getElem?_eq_some_iff.mp e3).1
        simp at this
        omega
      subst hk2
      have e5 : (is ++ [v])[is.length]? = some v := by simp
      rw [e5] at e3
      have e6 : (gateFs (gs.take i) (flagFs m) ++ [g.fn (g.refs.map (refF (gateFs (gs.take i) (flagFs m))))])[is.length]? = some (g.fn (g.refs.map (refF (gateFs (gs.take i) (flagFs m))))) := by rw [T.1]; simp
      rw [e6] at e4
      cases e3; cases e4
      exact q5
  · rw [List.length_append, List.length_append]; omega
  · omega
end
end K74
end

section
set_option autoImplicit false
set_option linter.all false
set_option maxHeartbeats 2000000
set_option maxRecDepth 60000
/-! X3: a book's diagram, whole. -/
namespace K74
open Pv Dia Lc
open PySem (Str)
open L2 (Key)
section
variable {G : Prog} [LibD G] {n d m : Nat} {S : Sto} {o a b c bo fl : Nat} {N : Nds} {K P : List (List Key × Pv.D)} {sides : List Bool} {gs : List Gate} {wish : Nat}
theorem bd_aux3 {xx x2 : Nds} {i : Nat} (h : i ≤ 8) (l1 : xx.length ≤ 4000 + 13000 * i) (k3 : x2.length ≤ 400) : (xx ++ x2).length ≤ 120000 := by
  simp only [List.length_append]; omega
theorem bd_aux4 {p p1 q i : Nat} (h : i ≤ 8) (l2 : p ≤ q + (4000 + 13000 * i)) (k4 : p1 ≤ p + 400) : p1 ≤ q + 120000 := by omega
theorem bd_aux5 {xx : Nds} {i : Nat} (h : i ≤ 8) (l1 : xx.length ≤ 4000 + 13000 * i) (hN : N.length ≤ 40000) : (N ++ xx).length ≤ 180000 := by
  simp only [List.length_append]; omega
theorem bd_aux6 {p q i : Nat} (h : i ≤ 8) (l2 : p ≤ q + (4000 + 13000 * i)) (hP : q ≤ 100000) : p ≤ 300000 := by omega
/-- what a drawn book's gates are, for the diagrams -/
structure GatesOk (m : Nat) (gs : List Gate) (wish : Nat) : Prop where
  wf : WfG m gs
  gl : gs.length ≤ 8
  r10 : ∀ g ∈ gs, g.refs.length ≤ 10
  wi : wish < 2 * (m + gs.length)
theorem book_diagram_q (hS : Ok m S o a b c N K P) (hb : BookAt S bo sides gs wish) (hl : sides.length = m) (hg : GatesOk m gs wish) (hn : 5000 ≤ n) (hm : m ≤ 7) (hN : N.length ≤ 40000) (hP : P.length ≤ 100000) :
    ∃ S' r, Q G n (d + 8) 18 [.ref o, .ref bo] S = .ok (.int (r : Nat)) S' ∧ KeptQ m S S' o a b c N P 120000 fun N' => Dia.Den m N' r (bookF m gs wish) 0 := by
  have gm : getattr G (.ref bo) 1 S = .ok (.int m) S := by rw [hb.gMany, hl]
  have ra := range_ok m (by omega) S
  obtain ⟨S1, rs, e1, hl1, xx, K1, P1, k1, k2, k3, k4, k5⟩ := flags_ok (G := G) (n := n) (d := d + 5) hS hn hm (some (.ref bo)) none (by omega)
  have hb1 := hb.chg k2 (hb.ne hS)
  have hlt : S.length < S1.length := (List.getElem?_eq_some_iff.mp hl1).1
  obtain ⟨σ', S2, e2, is, yy, K2, P2, s4, hσ, q1, q2, q3, q4, q5, q6, q7⟩ := loopF_fix (xs := gs.map Gate.D) (body := turnF G n (evQ G n oldF (d + 7)) (mkQ G n oldF (d + 7)) (.var 4) bdBody) (BdP m S o a b c bo S.length N P gs)
    (w := n) (σ := [some (.ref o), some (.ref bo), some (.ref S.length), none, none, none]) (S := S1) (by have := hg.gl; simp; omega)
    ⟨rs, xx, K1, P1, none, rfl, k1, k2, hlt, hl1, k5, by omega, by omega⟩
    (fun i x σ S' hx hp => by
      rw [List.getElem?_map] at hx
      cases eg : gs[i]? with
      | none => rw [eg] at hx; cases hx
      | some g =>
        rw [eg] at hx
        have hx : g.D = x := Option.some.inj hx
        subst hx
        have hi := (List.getElem?_eq_some_iff.mp eg).1
        have hgl := hg.gl
        obtain ⟨σ2, S2, e, p⟩ := bd_turn (G := G) (n := n) (d := d) hn hm rfl hS eg hg.wf (hg.r10 g (List.mem_of_getElem? eg)) (by omega) hN hP hp
        exact ⟨σ2, S2, .inl e, p⟩)
  subst hσ
  rw [List.length_map] at q5 q6 q7
  rw [List.take_length] at q5
  have hil : is.length = m + gs.length := by
    rw [q5.1, gateFs_length]
    unfold flagFs
    simp
  obtain ⟨S3, r, e3, kk⟩ := ref_q (G := G) (n := n) (d := d + 1) q1 hn hm q4 q5 (ref := wish) (by rw [hil]; exact hg.wi) (bd_aux6 hg.gl q7 hP) (bd_aux5 hg.gl q6 hN)
  obtain ⟨zz, K3, P3, p1, p2, p3, p4, p5⟩ := kk.k
  have hb2 := hb.chg q2 (hb.ne hS)
  have ch : Chg [a, b, c] S S3 := q2.trans p2
  rw [List.append_assoc] at p1 p5
  refine ⟨_, r, ?_, yy ++ zz, K3, P3, rfl, hS.wr p1, bd_aux3 hg.gl q6 p3, bd_aux4 hg.gl q7 p4, p5⟩
  rw [Q, evQ_open (fn := ⟨2, 6, c_book_diagram⟩) (by decide) (LibD.fn 18 (by decide)) rfl, ← hS.gc p1 ch (x := .int (r : Nat)) rfl]
  have gg := hb1.gGates (G := G)
  have gw := hb2.gWish (G := G)
  simp only [bdBody, c_book_diagram] at e2
  simp -implicitDefEqProofs [c_book_diagram, startD, gm, ra, e1, gg, walkOf, e2, gw, e3]
end
end K74
end

section
set_option autoImplicit false
set_option linter.all false
set_option maxHeartbeats 2000000
set_option maxRecDepth 60000
/-! X4: what a diagram leads to. -/
namespace K74
open Pv Dia Lc
open PySem (Str)
open L2 (Key)
theorem nodup_sub {l : List Nat} : ∀ {r : List Nat}, l.Nodup → (∀ x ∈ l, x ∈ r) → l.length ≤ r.length := by
  induction l with
  | nil => intro r _ _; exact Nat.zero_le _
  | cons x l ih =>
    intro r nd h
    obtain ⟨h1, h2⟩ := List.nodup_cons.mp nd
    have hx := h x List.mem_cons_self
    have := ih (r := r.erase x) h2 fun y hy => by
      rw [List.mem_erase_of_ne (by intro e; subst e; exact h1 hy)]
      exact h y (List.mem_cons_of_mem _ hy)
    rw [List.length_erase_of_mem hx] at this
    have : 0 < r.length := List.length_pos_of_mem hx
    rw [List.length_cons]
    omega
theorem nodup_lt {l : List Nat} {k : Nat} (nd : l.Nodup) (h : ∀ x ∈ l, 2 ≤ x ∧ x < k + 2) : l.length ≤ k := by
  have := nodup_sub (r := (List.range k).map (· + 2)) nd fun x hx => by
    obtain ⟨h1, h2⟩ := h x hx
    exact List.mem_map.mpr ⟨x - 2, List.mem_range.mpr (by omega), by omega⟩
  simpa using this
/-- what is led to in so many steps -/
def reachN (N : Nds) : Nat → Nat → List Nat
  | 0, _ => []
  | k + 1, i => if i < 2 then [] else match N[i - 2]? with
    | some (_, l, h) => i :: (reachN N k l ++ reachN N k h)
    | none => []
theorem reachN_length (N : Nds) : ∀ (k i : Nat), (reachN N k i).length ≤ 2 ^ k - 1
  | 0, _ => Nat.zero_le _
  | k + 1, i => by
    unfold reachN
    by_cases c : i < 2
    · rw [if_pos c]; exact Nat.zero_le _
    · rw [if_neg c]
      cases N[i - 2]? with
      | none => exact Nat.zero_le _
      | some q =>
        obtain ⟨f, l, h⟩ := q
        have h1 := reachN_length N k l
        have h2 := reachN_length N k h
        have h3 : 1 ≤ 2 ^ k := Nat.one_le_two_pow
        rw [Nat.pow_succ]
        simp only [List.length_cons, List.length_append]
        omega
theorem reachN_self {N : Nds} {m i : Nat} {g : Fun} {t k : Nat} (T : Dia.Den m N i g t) (hk : m - t ≤ k) (h2 : 2 ≤ i) : i ∈ reachN N k i := by
  cases T with
  | zero => omega
  | one => omega
  | node i f l h _ gl gh e h1 hf h3 h4 d1 d2 =>
    obtain ⟨k, rfl⟩ : ∃ j, k = j + 1 := ⟨k - 1, by omega⟩
    unfold reachN
    rw [if_neg (by omega), Nat.add_sub_cancel, e]
    exact List.mem_cons_self
theorem reachN_step {N : Nds} {m : Nat} : ∀ (k : Nat) {at_ : Nat} {g : Fun} {t : Nat}, Dia.Den m N at_ g t → m - t ≤ k → ∀ {i f l h : Nat}, i ∈ reachN N k at_ → N[i - 2]? = some (f, l, h) → (2 ≤ l → l ∈ reachN N k at_) ∧ (2 ≤ h → h ∈ reachN N k at_)
  | 0, _, _, _, _, _, _, _, _, _, hi, _ => nomatch hi
  | k + 1, _, _, _, T, hk, i, f, l, h, hi, e => by
    cases T with
    | zero => unfold reachN at hi; simp at hi
    | one => unfold reachN at hi; simp at hi
    | node j f2 l2 h2 _ gl gh e2 h1 hf h3 h4 d1 d2 =>
      unfold reachN at hi ⊢
      rw [if_neg (by omega), Nat.add_sub_cancel, e2] at hi ⊢
      simp only [List.mem_cons, List.mem_append] at hi ⊢
      rcases hi with hi | hi | hi
      · subst hi
        rw [Nat.add_sub_cancel, e2] at e
        cases e
        exact ⟨fun q => .inr (.inl (reachN_self d1 (by omega) q)), fun q => .inr (.inr (reachN_self d2 (by omega) q))⟩
      · obtain ⟨a1, a2⟩ := reachN_step k d1 (by omega) hi e
        exact ⟨fun q => .inr (.inl (a1 q)), fun q => .inr (.inl (a2 q))⟩
      · obtain ⟨a1, a2⟩ := reachN_step k d2 (by omega) hi e
        exact ⟨fun q => .inr (.inr (a1 q)), fun q => .inr (.inr (a2 q))⟩
/-- numbers that stand for something -/
def HasDen (m : Nat) (N : Nds) (i : Nat) : Prop := ∃ g t, Dia.Den m N i g t
theorem HasDen.kids {m : Nat} {N : Nds} {i f l h : Nat} (T : HasDen m N i) (h2 : 2 ≤ i) (e : N[i - 2]? = some (f, l, h)) : HasDen m N l ∧ HasDen m N h ∧ l < i ∧ h < i := by
  obtain ⟨g, t, T⟩ := T
  cases T with
  | zero => omega
  | one => omega
  | node j f2 l2 h2 _ gl gh e2 h1 hf h3 h4 d1 d2 =>
    rw [Nat.add_sub_cancel, e2] at e
    cases e
    exact ⟨⟨_, _, d1⟩, ⟨_, _, d2⟩, h3, h4⟩
theorem HasDen.node {m : Nat} {N : Nds} {i : Nat} (T : HasDen m N i) (h2 : 2 ≤ i) : ∃ f l h, N[i - 2]? = some (f, l, h) := by
  obtain ⟨g, t, T⟩ := T
  cases T with
  | zero => omega
  | one => omega
  | node j f l h _ gl gh e _ _ _ _ _ _ => exact ⟨f, l, h, by rw [Nat.add_sub_cancel]; exact e⟩
theorem HasDen.lt {m : Nat} {N : Nds} {i : Nat} (T : HasDen m N i) : i < N.length + 2 := by
  obtain ⟨g, t, T⟩ := T
  exact T.lt
def foundD (fnd : List Nat) : List (Key × Pv.D) := fnd.map fun i : Nat => (Sum.inl (i : Int), Pv.D.bl true)
theorem found_look (i : Nat) : ∀ fnd : List Nat, (lookA (Sum.inl (i : Int) : Key) (foundD fnd)).isSome = decide (i ∈ fnd)
  | [] => rfl
  | j :: fnd => by
    show (if (Sum.inl (j : Int) : Key) = Sum.inl (i : Int) then some (Pv.D.bl true) else lookA (Sum.inl (i : Int) : Key) (foundD fnd)).isSome = _
    by_cases h : j = i
    · subst h; simp
    · have : ¬ ((Sum.inl (j : Int) : Key) = Sum.inl (i : Int)) := fun e => h (by have := Sum.inl.inj e; omega)
      rw [if_neg this, found_look i fnd]
      have : ¬ i = j := fun e => h e.symm
      simp [this]
theorem found_put (i : Nat) (fnd : List Nat) (h : i ∉ fnd) : putA (Sum.inl (i : Int) : Key) (Pv.D.bl true) (foundD fnd) = foundD (fnd ++ [i]) := by
  unfold putA
  have : hasA (Sum.inl (i : Int) : Key) (foundD fnd) = false := by
    rw [hasA_look, found_look]
    simp [h]
  rw [this]
  simp [foundD]
def wiBody : C := match c_Diagrams_within with
  | .cons _ (.cons _ (.cons (.whl _ b) _)) => b
  | _ => .nil
/-- the walk's stand -/
structure WiP (m : Nat) (N : Nds) (S : Sto) (o at_ : Nat) (μ : Nat) (fnd wait : List Nat) (σ : Sl) (S' : Sto) : Prop where
  sl : ∃ s4, σ = [some (.ref o), some (.int at_), some (.ref S.length), some (.ref (S.length + 1)), s4]
  st : S' = S ++ [.dK (foundD fnd), .lst (natD wait)]
  nd : fnd.Nodup
  f2 : ∀ i ∈ fnd, 2 ≤ i ∧ HasDen m N i ∧ i ∈ reachN N m at_
  w2 : ∀ i ∈ wait, HasDen m N i ∧ (2 ≤ i → i ∈ reachN N m at_)
  top : 2 ≤ at_ → at_ ∈ fnd ∨ at_ ∈ wait
  cl : ∀ i ∈ fnd, ∀ f l h, N[i - 2]? = some (f, l, h) → (2 ≤ l → l ∈ fnd ∨ l ∈ wait) ∧ (2 ≤ h → h ∈ fnd ∨ h ∈ wait)
  mu : μ = 3 * (N.length - fnd.length) + wait.length
  wl : wait.length ≤ fnd.length + 1
section
variable {G : Prog} [LibD G] {n d m : Nat} {S : Sto} {o a b c : Nat} {N : Nds} {K P : List (List Key × Pv.D)}
theorem pop_at {k : Nat} {xs : List Pv.D} {y : Pv.D} (h : S[k]? = some (.lst (xs ++ [y]))) : bmethod .pop (.ref k) [] S = .ok y (S.set k (.lst xs)) := by
  simp only [bmethod, h]
  have : (xs ++ [y])[(xs ++ [y]).length - 1]? = some y := by simp
  rw [this]
  simp
theorem recv_pop {k : Nat} {xs : List Pv.D} (h : S[k]? = some (.lst xs)) : bmRecv .pop (.ref k) S = true := by simp [bmRecv, h]
theorem recv_extend {k : Nat} {xs : List Pv.D} (h : S[k]? = some (.lst xs)) : bmRecv .extend (.ref k) S = true := by simp [bmRecv, h]
theorem extend_tup {k : Nat} {xs ys : List Pv.D} (h : S[k]? = some (.lst xs)) (hl : xs.length + ys.length < 16000000) : bmethod .extend (.ref k) [.tup ys] S = .ok .non (S.set k (.lst (xs ++ ys))) := by
  have sz : 16000000 ≤ PySem.sizeLine := by decide
  simp only [bmethod, h]
  rw [if_pos (by omega)]
theorem truth_lst {k : Nat} {xs : List Pv.D} (h : S[k]? = some (.lst xs)) : truth S (.ref k) = some (!xs.isEmpty) := by simp only [truth, h]
theorem wi_step (hS : Ok m S o a b c N K P) (hN : N.length ≤ 190000) {at_ μ i : Nat} {fnd ws : List Nat} {σ : Sl} {S' : Sto} (h : WiP m N S o at_ μ fnd (ws ++ [i]) σ S') (T : ∃ g t, Dia.Den m N at_ g t) :
    ∃ σ2 S2 μ2 fnd2 wait2, evB G n (evQ G n oldF d) (mkQ G n oldF d) wiBody σ S' = .nx σ2 S2 ∧ μ2 < μ ∧ WiP m N S o at_ μ2 fnd2 wait2 σ2 S2 := by
  obtain ⟨⟨s4, hσ⟩, hst, nd, f2, w2, top, cl, mu, wl⟩ := h
  subst hσ
  obtain ⟨hi1, hi2⟩ := w2 i (by simp)
  have em : natD (ws ++ [i]) = natD ws ++ [.int i] := by simp [natD]
  have hw : S'[S.length + 1]? = some (.lst (natD ws ++ [.int i])) := by rw [hst, em]; simp
  have rp := recv_pop hw
  have pp := pop_at hw
  obtain ⟨S1, hS1⟩ : ∃ S1, S1 = S'.set (S.length + 1) (.lst (natD ws)) := ⟨_, rfl⟩
  rw [← hS1] at pp
  have e1 : S1 = S ++ [.dK (foundD fnd), .lst (natD ws)] := by
    rw [hS1, hst]
    rw [List.set_append_right (h := by omega)]
    simp
  have hd1 : S1[S.length]? = some (.dK (foundD fnd)) := by rw [e1]; simp
  have hw1 : S1[S.length + 1]? = some (.lst (natD ws)) := by rw [e1]; simp
  have hN' : fnd.length ≤ N.length := nodup_lt nd fun x hx => ⟨(f2 x hx).1, (f2 x hx).2.1.lt⟩
  by_cases c : 2 ≤ i ∧ i ∉ fnd
  · obtain ⟨c1, c2⟩ := c
    obtain ⟨f, l, hh, en⟩ := hi1.node c1
    obtain ⟨k1, k2, k3, k4⟩ := hi1.kids c1 en
    have nd2 : (fnd ++ [i]).Nodup := by
      rw [List.nodup_append]
      exact ⟨nd, by simp, fun x hx y hy e => by
        have : y = i := by simpa using hy
        subst this; subst e; exact c2 hx⟩
    have f22 : ∀ x ∈ fnd ++ [i], 2 ≤ x ∧ HasDen m N x ∧ x ∈ reachN N m at_ := fun x hx => by
      rcases List.mem_append.mp hx with h | h
      · exact f2 x h
      · have : x = i := by simpa using h
        subst this
        exact ⟨c1, hi1, hi2 c1⟩
    have hN2 : (fnd ++ [i]).length ≤ N.length := nodup_lt nd2 fun x hx => ⟨(f22 x hx).1, (f22 x hx).2.1.lt⟩
    have gt : ∀ S, cmpop .gt (.int (i : Nat)) (.int 1) S = .ok (.bl true) S := fun S => by
      show R.ok (Pv.D.bl (decide ((1 : Int) < i))) S = _
      rw [decide_eq_true (by omega)]
    have ni : cmpop .notin (.int (i : Nat)) (.ref S.length) S1 = .ok (.bl true) S1 := by
      simp only [cmpop, isIn, hd1, keyOf, Option.map_some, found_look]
      simp [c2]
    have si : setitem (.ref S.length) (.int (i : Nat)) (.bl true) S1 = some (S ++ [.dK (foundD (fnd ++ [i])), .lst (natD ws)]) := by
      have sz : 16000000 ≤ PySem.sizeLine := by decide
      simp only [setitem, hd1, keyOf]
      rw [if_pos (by unfold foundD; rw [List.length_map]; omega), found_put i fnd c2, e1]
      simp
    obtain ⟨S2, hS2⟩ : ∃ S2, S2 = S ++ [.dK (foundD (fnd ++ [i])), .lst (natD ws)] := ⟨_, rfl⟩
    rw [← hS2] at si
    have ok2 : Ok m S2 o a b c N K P := hS.grow ⟨_, hS2⟩
    have hw2 : S2[S.length + 1]? = some (.lst (natD ws)) := by rw [hS2]; simp
    have sg := node_get ok2.nds en
    rw [Nat.sub_add_cancel c1] at sg
    have nc := node_cut (S := S2) f l hh
    have rx := recv_extend hw2
    have ws1 : ws.length ≤ fnd.length := by simpa using wl
    have ex := extend_tup hw2 (ys := [.int l, .int hh]) (by simp [natD]; omega)
    have e3 : S2.set (S.length + 1) (.lst (natD ws ++ [.int l, .int hh])) = S ++ [.dK (foundD (fnd ++ [i])), .lst (natD (ws ++ [l, hh]))] := by
      rw [hS2, List.set_append_right (h := by omega)]
      simp [natD]
    rw [e3] at ex
    refine ⟨_, _, 3 * (N.length - (fnd ++ [i]).length) + (ws ++ [l, hh]).length, fnd ++ [i], ws ++ [l, hh], ?_, ?_, ⟨some (.int i), rfl⟩, rfl, nd2, f22, ?_, ?_, ?_, rfl, by simp; omega⟩
    · have nn := ok2.nodes (G := G)
      simp -implicitDefEqProofs [wiBody, c_Diagrams_within, rp, pp, gt, ni, si, rx, nn, sg, nc, ex]
    · rw [mu]
      simp at hN2 ⊢
      omega
    · obtain ⟨g, t, T⟩ := T
      have st := reachN_step (N := N) m T (by omega) (hi2 c1) en
      intro x hx
      rcases List.mem_append.mp hx with h | h
      · exact w2 x (List.mem_append_left _ h)
      · simp at h
        rcases h with h | h <;> subst h
        · exact ⟨k1, st.1⟩
        · exact ⟨k2, st.2⟩
    · intro q
      rcases top q with h | h
      · exact .inl (List.mem_append_left _ h)
      · rcases List.mem_append.mp h with h | h
        · exact .inr (List.mem_append_left _ h)
        · exact .inl (List.mem_append_right _ h)
    · intro x hx f' l' h' e'
      have mv : ∀ y, y ∈ fnd ∨ y ∈ ws ++ [i] → y ∈ fnd ++ [i] ∨ y ∈ ws ++ [l, hh] := fun y hy => by
        simp at hy ⊢
        rcases hy with h | h | h
        · exact .inl (.inl h)
        · exact .inr (.inl h)
        · exact .inl (.inr h)
      rcases List.mem_append.mp hx with h | h
      · obtain ⟨a1, a2⟩ := cl x h f' l' h' e'
        exact ⟨fun q => mv _ (a1 q), fun q => mv _ (a2 q)⟩
      · have : x = i := by simpa using h
        subst this
        rw [en] at e'
        cases e'
        exact ⟨fun _ => .inr (by simp), fun _ => .inr (by simp)⟩
  · refine ⟨_, _, 3 * (N.length - fnd.length) + ws.length, fnd, ws, ?_, by rw [mu]; simp, ⟨some (.int i), rfl⟩, e1, nd, f2, fun x hx => w2 x (List.mem_append_left _ hx), ?_, ?_, rfl, by simp at wl; omega⟩
    · by_cases c1 : 2 ≤ i
      · have c2 : i ∈ fnd := by
          by_cases h : i ∈ fnd
          · exact h
          · exact absurd ⟨c1, h⟩ c
        have gt : ∀ S, cmpop .gt (.int (i : Nat)) (.int 1) S = .ok (.bl true) S := fun S => by
          show R.ok (Pv.D.bl (decide ((1 : Int) < i))) S = _
          rw [decide_eq_true (by omega)]
        have ni : cmpop .notin (.int (i : Nat)) (.ref S.length) S1 = .ok (.bl false) S1 := by
          simp only [cmpop, isIn, hd1, keyOf, Option.map_some, found_look]
          simp [c2]
        simp -implicitDefEqProofs [wiBody, c_Diagrams_within, rp, pp, gt, ni]
      · have gt : ∀ S, cmpop .gt (.int (i : Nat)) (.int 1) S = .ok (.bl false) S := fun S => by
          show R.ok (Pv.D.bl (decide ((1 : Int) < i))) S = _
          rw [decide_eq_false (by omega)]
        simp -implicitDefEqProofs [wiBody, c_Diagrams_within, rp, pp, gt]
    · intro q
      rcases top q with h | h
      · exact .inl h
      · rcases List.mem_append.mp h with h | h
        · exact .inr h
        · have : at_ = i := by simpa using h
          subst this
          by_cases h : at_ ∈ fnd
          · exact .inl h
          · exact absurd ⟨q, h⟩ c
    · intro x hx f' l' h' e'
      obtain ⟨a1, a2⟩ := cl x hx f' l' h' e'
      have mv : ∀ y, 2 ≤ y → y ∈ fnd ∨ y ∈ ws ++ [i] → y ∈ fnd ∨ y ∈ ws := fun y hy2 hy => by
        simp at hy
        rcases hy with h | h | h
        · exact .inl h
        · exact .inr h
        · subst h
          by_cases h : y ∈ fnd
          · exact .inl h
          · exact absurd ⟨hy2, h⟩ c
      exact ⟨fun q => mv _ q (a1 q), fun q => mv _ q (a2 q)⟩
theorem ofKey_found (fnd : List Nat) : (foundD fnd).map (fun p => ofKey p.1) = natD fnd := by
  unfold foundD natD
  rw [List.map_map]
  rfl
/-- what within hands back -/
structure Within (m : Nat) (N : Nds) (at_ : Nat) (ids : List Nat) : Prop where
  nd : ids.Nodup
  f2 : ∀ i ∈ ids, 2 ≤ i ∧ HasDen m N i
  len : ids.length ≤ 2 ^ m - 1
  top : 2 ≤ at_ → at_ ∈ ids
  cl : ∀ i ∈ ids, ∀ f l h, N[i - 2]? = some (f, l, h) → (2 ≤ l → l ∈ ids) ∧ (2 ≤ h → h ∈ ids)
theorem within_q (hS : Ok m S o a b c N K P) (hN : N.length ≤ 190000) (hn : 600000 ≤ n) {at_ : Nat} (T : HasDen m N at_) :
    ∃ ids, Within m N at_ ids ∧ Q G n (d + 1) 27 [.ref o, .int at_] S = .ok (.ref S.length) (S ++ [Ob.lst (natD ids)]) := by
  have T2 : ∃ g t, Dia.Den m N at_ g t := T
  obtain ⟨σ', S', e, fnd, h⟩ := loopW_nx (t := evT G n (evQ G n oldF d) (mkQ G n oldF d) (.var 3)) (body := evB G n (evQ G n oldF d) (mkQ G n oldF d) wiBody)
    (fun μ σ S' => ∃ fnd wait, WiP m N S o at_ μ fnd wait σ S') (fun σ S' => ∃ fnd, ∃ μ, WiP m N S o at_ μ fnd [] σ S')
    (fun μ σ S' ⟨fnd, wait, h⟩ => by
      obtain ⟨s4, hσ⟩ := h.sl
      have hst := h.st
      rcases List.eq_nil_or_concat wait with hw | ⟨ws, i, hw⟩
      · subst hw
        have tr : truth S' (.ref (S.length + 1)) = some false := by
          rw [truth_lst (xs := natD []) (by rw [hst]; simp)]; rfl
        exact .inl ⟨S', by rw [hσ]; simp [tr], fnd, μ, h⟩
      · rw [List.concat_eq_append] at hw
        subst hw
        obtain ⟨σ2, S2, μ2, fnd2, wait2, e, hμ, hP⟩ := wi_step (G := G) (n := n) (d := d) hS hN h T2
        have tr : truth S' (.ref (S.length + 1)) = some true := by
          rw [truth_lst (xs := natD (ws ++ [i])) (by rw [hst]; simp)]
          simp [natD]
        exact .inr ⟨S', by rw [hσ]; simp [tr], σ2, S2, μ2, .inl e, hμ, fnd2, wait2, hP⟩)
    n (3 * N.length + 1) [some (.ref o), some (.int at_), some (.ref S.length), some (.ref (S.length + 1)), none] (S ++ [.dK [], .lst [.int at_]]) (by omega)
    ⟨[], [at_], ⟨none, rfl⟩, rfl, List.nodup_nil, fun i hi => (nomatch hi), fun i hi => by
      have : i = at_ := by simpa using hi
      subst this
      obtain ⟨g, t, T⟩ := T
      exact ⟨⟨g, t, T⟩, fun q => reachN_self T (by omega) q⟩, fun _ => .inr (by simp), fun i hi => (nomatch hi), by simp, by simp⟩
  obtain ⟨μ, ⟨s4, hσ⟩, hst, nd, f2, w2, top, cl, mu, wl⟩ := h
  subst hσ; subst hst
  refine ⟨fnd, ⟨nd, fun i hi => ⟨(f2 i hi).1, (f2 i hi).2.1⟩, ?_, fun q => (top q).elim id fun h => (nomatch h), fun i hi f l h e => ?_⟩, ?_⟩
  · exact Nat.le_trans (nodup_sub nd fun x hx => (f2 x hx).2.2) (reachN_length N m at_)
  · obtain ⟨a1, a2⟩ := cl i hi f l h e
    exact ⟨fun q => (a1 q).elim id fun h => (nomatch h), fun q => (a2 q).elim id fun h => (nomatch h)⟩
  · have nl := newLst_ok (xs := [.int at_]) (S := S ++ [Ob.dK []]) (by simp)
    have ls : builtin .list [.ref S.length] (S ++ [Ob.dK (foundD fnd), Ob.lst (natD [])]) = .ok (.ref (S.length + 2)) (S ++ [Ob.dK (foundD fnd), Ob.lst (natD []), Ob.lst (natD fnd)]) := by
      simp only [builtin, app_at0, ofKey_found, alloc]
      simp
    rw [Q, evQ_open (fn := ⟨2, 5, c_Diagrams_within⟩) (by decide) (LibD.fn 27 (by decide)) rfl]
    have fin := gc_refA (S := S) (l := [Ob.dK (foundD fnd), Ob.lst (natD []), Ob.lst (natD fnd)]) (j := 2) (o := Ob.lst (natD fnd)) rfl (newL_natD _ _)
    rw [← fin]
    simp only [wiBody, c_Diagrams_within] at e
    simp -implicitDefEqProofs [c_Diagrams_within, startD, alloc, nl, e, ls]
end
end K74
end

section
set_option autoImplicit false
set_option linter.all false
set_option maxHeartbeats 4000000
set_option maxRecDepth 60000
/-! X5: a flag's value put in. -/
namespace K74
open Pv Dia Lc
open PySem (Str)
open L2 (Key)
def insN (a : Nat) : List Nat → List Nat
  | [] => [a]
  | b :: r => if a ≤ b then a :: b :: r else b :: insN a r
def sortN : List Nat → List Nat
  | [] => []
  | a :: r => insN a (sortN r)
theorem insInt_nat (a : Nat) : ∀ l : List Nat, insInt (a : Int) (l.map fun i : Nat => (i : Int)) = (insN a l).map fun i : Nat => (i : Int)
  | [] => rfl
  | b :: r => by
    show (if (a : Int) ≤ b then _ else _) = _
    unfold insN
    by_cases h : a ≤ b
    · rw [if_pos h, if_pos (by omega)]; rfl
    · rw [if_neg h, if_neg (by omega), insInt_nat a r]; rfl
theorem sortInts_nat : ∀ l : List Nat, sortInts (l.map fun i : Nat => (i : Int)) = (sortN l).map fun i : Nat => (i : Int)
  | [] => rfl
  | a :: r => by
    show insInt (a : Int) (sortInts (r.map fun i : Nat => (i : Int))) = _
    rw [sortInts_nat r, insInt_nat]; rfl
theorem mem_insN (a x : Nat) : ∀ l : List Nat, x ∈ insN a l ↔ x = a ∨ x ∈ l
  | [] => by simp [insN]
  | b :: r => by
    unfold insN
    by_cases h : a ≤ b
    · rw [if_pos h]; simp
    · rw [if_neg h]
      simp [mem_insN a x r]
      constructor
      · rintro (h | h | h)
        · exact .inr (.inl h)
        · exact .inl h
        · exact .inr (.inr h)
      · rintro (h | h | h)
        · exact .inr (.inl h)
        · exact .inl h
        · exact .inr (.inr h)
theorem mem_sortN (x : Nat) : ∀ l : List Nat, x ∈ sortN l ↔ x ∈ l
  | [] => by simp [sortN]
  | a :: r => by
    show x ∈ insN a (sortN r) ↔ _
    rw [mem_insN, mem_sortN x r]; simp
theorem insN_length (a : Nat) : ∀ l : List Nat, (insN a l).length = l.length + 1
  | [] => rfl
  | b :: r => by
    unfold insN
    by_cases h : a ≤ b
    · rw [if_pos h]; rfl
    · rw [if_neg h, List.length_cons, insN_length a r]; rfl
theorem sortN_length : ∀ l : List Nat, (sortN l).length = l.length
  | [] => rfl
  | a :: r => by
    show (insN a (sortN r)).length = _
    rw [insN_length, sortN_length r]; rfl
theorem insN_asc (a : Nat) : ∀ l : List Nat, l.Pairwise (· < ·) → a ∉ l → (insN a l).Pairwise (· < ·)
  | [], _, _ => by simp [insN]
  | b :: r, h, ha => by
    obtain ⟨h1, h2⟩ := List.pairwise_cons.mp h
    have hab : a ≠ b := fun e => ha (by rw [e]; exact List.mem_cons_self)
    have har : a ∉ r := fun e => ha (List.mem_cons_of_mem _ e)
    unfold insN
    by_cases c : a ≤ b
    · rw [if_pos c]
      refine List.pairwise_cons.mpr ⟨fun x hx => ?_, h⟩
      rcases List.mem_cons.mp hx with e | e
      · omega
      · have := h1 x e; omega
    · rw [if_neg c]
      refine List.pairwise_cons.mpr ⟨fun x hx => ?_, insN_asc a r h2 har⟩
      rcases (mem_insN a x r).mp hx with e | e
      · omega
      · exact h1 x e
theorem sortN_asc : ∀ l : List Nat, l.Nodup → (sortN l).Pairwise (· < ·)
  | [], _ => List.Pairwise.nil
  | a :: r, h => by
    obtain ⟨h1, h2⟩ := List.nodup_cons.mp h
    exact insN_asc a _ (sortN_asc r h2) fun e => h1 ((mem_sortN a r).mp e)
/-- what is below an item of an ascending list stands ahead of it -/
theorem asc_take {l : List Nat} (h : l.Pairwise (· < ·)) {i x y : Nat} (e : l[i]? = some x) (hy : y ∈ l) (lt : y < x) : y ∈ l.take i := by
  obtain ⟨j, hj⟩ := List.getElem?_of_mem hy
  obtain ⟨hil, rfl⟩ := List.getElem?_eq_some_iff.mp e
  obtain ⟨hjl, rfl⟩ := List.getElem?_eq_some_iff.mp hj
  have hji : j < i := by
    by_cases c : j < i
    · exact c
    · by_cases c2 : j = i
      · subst c2; omega
      · have := List.pairwise_iff_getElem.mp h i j hil hjl (by omega)
        omega
  exact List.mem_iff_getElem.mpr ⟨j, by rw [List.length_take]; omega, by rw [List.getElem_take]⟩
theorem look_rep {κ β : Type} [DecidableEq κ] (k : κ) (v : β) : ∀ {l : List (κ × β)}, hasA k l = true → lookA k (repA k v l) = some v
  | [], h => nomatch h
  | p :: r, h => by
    unfold repA
    by_cases c : p.1 = k
    · rw [if_pos c]
      show (if p.1 = k then some v else _) = _
      rw [if_pos c]
    · rw [if_neg c]
      show (if p.1 = k then some p.2 else _) = _
      rw [if_neg c]
      unfold hasA at h
      rw [if_neg c] at h
      exact look_rep k v h
theorem look_rep_ne {κ β : Type} [DecidableEq κ] {k k' : κ} (v : β) (ne : k ≠ k') : ∀ {l : List (κ × β)}, lookA k' (repA k v l) = lookA k' l
  | [] => rfl
  | p :: r => by
    unfold repA
    by_cases c : p.1 = k
    · rw [if_pos c]
      show (if p.1 = k' then some v else _) = (if p.1 = k' then some p.2 else _)
      rw [if_neg (by rw [c]; exact ne), if_neg (by rw [c]; exact ne), look_rep_ne v ne]
    · rw [if_neg c]
      show (if p.1 = k' then some p.2 else _) = (if p.1 = k' then some p.2 else _)
      rw [look_rep_ne v ne]
theorem look_put {κ β : Type} [DecidableEq κ] (k : κ) (v : β) (l : List (κ × β)) : lookA k (putA k v l) = some v := by
  unfold putA
  by_cases c : hasA k l = true
  · rw [if_pos c]; exact look_rep k v c
  · rw [if_neg c, lookA_app]
    have : lookA k l = none := by
      rw [hasA_look] at c
      cases h : lookA k l with
      | none => rfl
      | some x => rw [h] at c; exact absurd rfl c
    rw [this]; simp
theorem look_put_ne {κ β : Type} [DecidableEq κ] {k k' : κ} (v : β) (l : List (κ × β)) (ne : k ≠ k') : lookA k' (putA k v l) = lookA k' l := by
  unfold putA
  by_cases c : hasA k l = true
  · rw [if_pos c]; exact look_rep_ne v ne
  · rw [if_neg c, lookA_app]
    cases lookA k' l with
    | some x => rfl
    | none => simp [ne]
theorem rep_length {κ β : Type} [DecidableEq κ] (k : κ) (v : β) : ∀ (l : List (κ × β)), (repA k v l).length = l.length
  | [] => rfl
  | p :: r => by
    unfold repA
    rw [List.length_cons, List.length_cons, rep_length k v r]
theorem put_length {κ β : Type} [DecidableEq κ] (k : κ) (v : β) (l : List (κ × β)) : (putA k v l).length ≤ l.length + 1 := by
  unfold putA
  by_cases c : hasA k l = true
  · rw [if_pos c, rep_length]; omega
  · rw [if_neg c]; simp
def ikey (i : Nat) : Key := Sum.inl (i : Int)
theorem ikey_ne {i j : Nat} (h : i ≠ j) : ikey i ≠ ikey j := fun e => h (by have := Sum.inl.inj e; omega)
/-- a flag's value told -/
def updF (x : Nat → Bool) (f : Nat) (v : Bool) : Nat → Bool := fun k => if k = f then v else x k
def cofF (g : Fun) (f : Nat) (v : Bool) : Fun := fun x => g (updF x f v)
/-- r stands for x with the last flag told -/
def CofOk (N N' : Nds) (fl : Nat) (v : Bool) (i r : Nat) : Prop := ∀ g t, Dia.Den (fl + 1) N i g t → Dia.Den fl N' r (cofF g fl v) t
theorem CofOk.zero {N N' : Nds} {fl : Nat} {v : Bool} : CofOk N N' fl v 0 0 := fun g t T => by
  cases T; exact .zero _
theorem CofOk.one {N N' : Nds} {fl : Nat} {v : Bool} : CofOk N N' fl v 1 1 := fun g t T => by
  cases T; exact .one _
theorem CofOk.grow {N N' : Nds} {fl : Nat} {v : Bool} {i r : Nat} (h : CofOk N N' fl v i r) (l : Nds) : CofOk N (N' ++ l) fl v i r := fun g t T => (h g t T).grow l
theorem den_last {N : Nds} {fl i : Nat} {g : Fun} (T : Dia.Den (fl + 1) N i g (fl + 1)) : (i = 0 ∧ g = fun _ => false) ∨ (i = 1 ∧ g = fun _ => true) := by
  cases T with
  | zero => exact .inl ⟨rfl, rfl⟩
  | one => exact .inr ⟨rfl, rfl⟩
  | node j f l h _ gl gh e h1 hf h3 h4 d1 d2 => omega
theorem CofOk.last {N N' : Nds} {fl : Nat} {v : Bool} {i l h : Nat} (h2 : 2 ≤ i) (e : N[i - 2]? = some (fl, l, h)) : CofOk N N' fl v i (if v = true then h else l) := fun g t T => by
  cases T with
  | zero => omega
  | one => omega
  | node j f l' h' _ gl gh e2 h1 hf h3 h4 d1 d2 =>
    rw [Nat.add_sub_cancel, e2] at e
    cases e
    have ec : cofF (fun x => if x fl = true then gh x else gl x) fl v = fun x => if v = true then gh (updF x fl v) else gl (updF x fl v) := by
      funext x
      unfold cofF
      have : updF x fl v fl = v := by simp [updF]
      simp only [this]
    rw [ec]
    cases v with
    | true =>
      simp only [if_true]
      rcases den_last d2 with ⟨a, b⟩ | ⟨a, b⟩
      · subst a; subst b; exact .zero _
      · subst a; subst b; exact .one _
    | false =>
      simp only [Bool.false_eq_true, if_false]
      rcases den_last d1 with ⟨a, b⟩ | ⟨a, b⟩
      · subst a; subst b; exact .zero _
      · subst a; subst b; exact .one _
end K74
end

section
set_option autoImplicit false
set_option linter.all false
set_option maxHeartbeats 4000000
set_option maxRecDepth 60000
/-! X6: with_value. -/
namespace K74
open Pv Dia Lc
open PySem (Str)
open L2 (Key)
def wvBody : C := match c_Diagrams_with_value with
  | .cons _ (.cons (.forr _ _ b) _) => b
  | _ => .nil
/-- what is seen so far -/
def SeenOk (N N' : Nds) (fl : Nat) (v : Bool) (done : List Nat) (kvs : List (Key × Pv.D)) : Prop :=
  ∀ i, (i < 2 ∨ i ∈ done) → ∃ r : Nat, lookA (ikey i) kvs = some (.int r) ∧ CofOk N N' fl v i r
theorem SeenOk.grow {N N' : Nds} {fl : Nat} {v : Bool} {done : List Nat} {kvs : List (Key × Pv.D)} (h : SeenOk N N' fl v done kvs) (l : Nds) : SeenOk N (N' ++ l) fl v done kvs := fun i hi => by
  obtain ⟨r, e, c⟩ := h i hi
  exact ⟨r, e, c.grow l⟩
theorem SeenOk.put {N N' : Nds} {fl : Nat} {v : Bool} {done : List Nat} {kvs : List (Key × Pv.D)} (h : SeenOk N N' fl v done kvs) {i r : Nat} (c : CofOk N N' fl v i r) (h2 : 2 ≤ i) : SeenOk N N' fl v (done ++ [i]) (putA (ikey i) (.int r) kvs) := fun j hj => by
  by_cases e : i = j
  · subst e
    exact ⟨r, look_put _ _ _, c⟩
  · rw [look_put_ne _ _ (ikey_ne e)]
    refine h j ?_
    rcases hj with hj | hj
    · exact .inl hj
    · rcases List.mem_append.mp hj with q | q
      · exact .inr q
      · have : j = i := by simpa using q
        exact absurd this.symm e
/-- the loop's stand -/
structure WvP (fl : Nat) (v : Bool) (S : Sto) (o a b c L at_ : Nat) (N : Nds) (P : List (List Key × Pv.D)) (sids : List Nat) (i : Nat) (σ : Sl) (S' : Sto) : Prop where
  st : ∃ xx K' P' kvs s5 s6 s7 s8, σ = [some (.ref o), some (.int at_), some (.int fl), some (.bl v), some (.ref S.length), s5, s6, s7, s8] ∧ Ok fl S' o a b c (N ++ xx) K' P' ∧ Chg [a, b, c] S S' ∧ S.length + 2 < S'.length ∧ S'[S.length]? = some (.dK kvs) ∧ S'[L]? = some (.lst (natD sids)) ∧
    SeenOk N (N ++ xx) fl v (sids.take i) kvs ∧ kvs.length ≤ 2 + i ∧ xx.length ≤ i ∧ P'.length ≤ P.length + i
section
variable {G : Prog} [LibD G] {n d : Nat} {S : Sto} {o a b c : Nat} {N : Nds} {K P : List (List Key × Pv.D)}
theorem sub_dict {k : Nat} {kvs : List (Key × Pv.D)} (h : S[k]? = some (.dK kvs)) {i : Nat} {x : Pv.D} (e : lookA (ikey i) kvs = some x) : subscr (.ref k) (.int i) S = .ok x S := by
  have e : lookA (Sum.inl (i : Int) : Key) kvs = some x := e
  simp only [subscr, h, keyOf, e]
theorem set_dict {k : Nat} {kvs : List (Key × Pv.D)} (h : S[k]? = some (.dK kvs)) (hl : kvs.length < 16000000) (i : Nat) (x : Pv.D) : setitem (.ref k) (.int i) x S = some (S.set k (.dK (putA (ikey i) x kvs))) := by
  have sz : 16000000 ≤ PySem.sizeLine := by decide
  simp only [setitem, h, keyOf]
  rw [if_pos (by omega)]
  rfl
theorem asSeq_node (f l h : Nat) (S : Sto) : asSeq S (nodeD (f, l, h)) = some [.int f, .int l, .int h] := rfl
theorem wv_turn {fl : Nat} {v : Bool} {L at_ : Nat} {sids : List Nat} {i id : Nat} {σ : Sl} {S' : Sto} (hS : Ok fl S o a b c N K P) (hL : L = S.length + 2) (hid : sids[i]? = some id) (asc : sids.Pairwise (· < ·)) (hD : ∀ x ∈ sids, 2 ≤ x ∧ HasDen (fl + 1) N x)
    (cl : ∀ x ∈ sids, ∀ f l h, N[x - 2]? = some (f, l, h) → (2 ≤ l → l ∈ sids) ∧ (2 ≤ h → h ∈ sids)) (hN : N.length ≤ 180000) (hs : sids.length ≤ 1000) (hP : WvP fl v S o a b c L at_ N P sids i σ S') :
    ∃ σ2 S2, turnF G n (evQ G n oldF (d + 1)) (mkQ G n oldF (d + 1)) (.var 5) wvBody (.int id) σ S' = .nx σ2 S2 ∧ WvP fl v S o a b c L at_ N P sids (i + 1) σ2 S2 := by
  obtain ⟨xx, K', P', kvs, s5, s6, s7, s8, hσ, ok, ch, lt, hd, hl, se, kl, xl, pl⟩ := hP.st
  subst hσ
  have mem := List.mem_of_getElem? hid
  have hil := (List.getElem?_eq_some_iff.mp hid).1
  obtain ⟨h2, hden⟩ := hD id mem
  obtain ⟨f, l, h, en⟩ := hden.node h2
  obtain ⟨k1, k2, k3, k4⟩ := hden.kids h2 en
  obtain ⟨c1, c2⟩ := cl id mem f l h en
  have en' : (N ++ xx)[id - 2]? = some (f, l, h) := by rw [List.getElem?_append_left (List.getElem?_eq_some_iff.mp en).1]; exact en
  have sg := node_get ok.nds en'
  rw [Nat.sub_add_cancel h2] at sg
  have nn := ok.nodes (G := G)
  have kid : ∀ x, x < id → (2 ≤ x → x ∈ sids) → ∃ r : Nat, lookA (ikey x) kvs = some (.int r) ∧ CofOk N (N ++ xx) fl v x r := fun x hx hm => se x (by
    by_cases q : x < 2
    · exact .inl q
    · exact .inr (asc_take asc hid (hm (by omega)) hx))
  obtain ⟨rl, el, cfl⟩ := kid l k3 c1
  obtain ⟨rh, eh, cfh⟩ := kid h k4 c2
  have tk : sids.take (i + 1) = sids.take i ++ [id] := by rw [List.take_succ, hid]; rfl
  have hneS : S.length ∉ [a, b, c] := by
    have := hS.lt (k := S.length) (Nat.le_refl _)
    simp; exact this.2
  have hneL : L ∉ [a, b, c] := by
    have := hS.lt (k := L) (by omega)
    simp; exact this.2
  have eqf : ∀ S, cmpop .eq (.int (f : Nat)) (.int (fl : Nat)) S = .ok (.bl (decide (f = fl))) S := fun S => by
    show R.ok (Pv.D.bl (decide ((f : Int) = fl))) S = _
    congr 2
    exact decide_eq_decide.mpr ⟨fun h => by omega, fun h => by omega⟩
  by_cases e : f = fl
  · subst e
    have st := set_dict hd (by omega) id (.int (if v = true then h else l : Nat))
    refine ⟨_, S'.set S.length (.dK (putA (ikey id) (.int (if v = true then h else l : Nat)) kvs)), ?_, ⟨xx, K', P', putA (ikey id) (.int (if v = true then h else l : Nat)) kvs, some (.int id), some (.int f), some (.int l), some (.int h), rfl, ?_, ?_, ?_, ?_, ?_, ?_, ?_, by omega, by omega⟩⟩
    · cases v <;> simp at st <;> simp -implicitDefEqProofs [turnF, wvBody, c_Diagrams_with_value, nn, sg, asSeq_node, int_eq, st]
    · exact ok.setW (hS.lt (Nat.le_refl _)) _
    · refine ⟨by simpa using ch.1, fun j hj hm => ?_⟩
      rw [List.getElem?_set_ne (by omega)]
      exact ch.2 j hj hm
    · simpa using lt
    · rw [List.getElem?_set_self (by omega)]
    · rw [List.getElem?_set_ne (by omega)]; exact hl
    · rw [tk]
      exact se.put (CofOk.last h2 en) h2
    · have := put_length (ikey id) (Pv.D.int (if v = true then h else l : Nat)) kvs
      omega
  · have hflt : f < fl := by
      obtain ⟨g, t, T⟩ := hden
      cases T with
      | zero => omega
      | one => omega
      | node j f' l' h' _ gl gh e2 h1 hf h3 h4 d1 d2 =>
        rw [Nat.add_sub_cancel, e2] at en
        cases en
        omega
    -- some standing of the kids, for put
    obtain ⟨g0, t0, T0⟩ := hden
    have dens : ∃ gl gh, Dia.Den (fl + 1) N l gl (f + 1) ∧ Dia.Den (fl + 1) N h gh (f + 1) := by
      cases T0 with
      | zero => omega
      | one => omega
      | node j f' l' h' _ gl gh e2 h1 hf h3 h4 d1 d2 =>
        rw [Nat.add_sub_cancel, e2] at en
        cases en
        exact ⟨gl, gh, d1, d2⟩
    obtain ⟨gl, gh, dl, dh⟩ := dens
    obtain ⟨S2, r, ep, kk⟩ := put_q (G := G) (n := n) (d := d) ok (f := f) (l := rl) (h := rh) (cfl gl (f + 1) dl) (cfh gh (f + 1) dh) hflt (by rw [List.length_append]; omega)
    obtain ⟨yy, K2, P2, q0, q1, q3, q4, q5⟩ := kk
    have ch2 : Chg [a, b, c] S' S2 := by rw [q0]; exact wr_chg
    have hd2 : S2[S.length]? = some (.dK kvs) := ch2.at hneS hd
    have hl2 : S2[L]? = some (.lst (natD sids)) := ch2.at hneL hl
    have st := set_dict hd2 (by omega) id (.int (r : Nat))
    have sl := sub_dict hd el
    have sh := sub_dict hd eh
    have ne : ¬ ((f : Int) = fl) := by omega
    have cf : CofOk N (N ++ (xx ++ yy)) fl v id r := fun g t T => by
      cases T with
      | zero => omega
      | one => omega
      | node j f' l' h' _ gl' gh' e2 h1 hf h3 h4 d1 d2 =>
        rw [Nat.add_sub_cancel, e2] at en
        cases en
        rw [← d1.uniq dl, ← d2.uniq dh] at q5
        rw [← List.append_assoc]
        have ec : cofF (fun x => if x f = true then gh' x else gl' x) fl v = fun x => if x f = true then cofF gh' fl v x else cofF gl' fl v x := by
          funext x
          unfold cofF
          have : updF x fl v f = x f := by simp [updF, e]
          simp only [this]
        rw [ec]
        exact q5.low h1
    refine ⟨_, S2.set S.length (.dK (putA (ikey id) (.int (r : Nat)) kvs)), ?_, ⟨xx ++ yy, K2, P2, putA (ikey id) (.int (r : Nat)) kvs, some (.int id), some (.int f), some (.int l), some (.int h), rfl, ?_, ?_, ?_, ?_, ?_, ?_, ?_, by rw [List.length_append]; omega, by omega⟩⟩
    · simp -implicitDefEqProofs [turnF, wvBody, c_Diagrams_with_value, nn, sg, asSeq_node, int_eq, ne, ok.ins, ms13, lookA, sl, sh, ep, st]
    · rw [← List.append_assoc]
      exact q1.setW (hS.lt (Nat.le_refl _)) _
    · have c3 := ch.trans ch2
      refine ⟨by simpa using c3.1, fun j hj hm => ?_⟩
      rw [List.getElem?_set_ne (by omega)]
      exact c3.2 j hj hm
    · have := ch2.1
      rw [List.length_set]; omega
    · rw [List.getElem?_set_self (List.getElem?_eq_some_iff.mp hd2).1]
    · rw [List.getElem?_set_ne (by omega)]; exact hl2
    · rw [tk]
      have s2 := se.grow yy
      rw [List.append_assoc] at s2
      exact s2.put cf h2
    · have := put_length (ikey id) (Pv.D.int (r : Nat)) kvs
      omega
end
end K74
end

section
set_option autoImplicit false
set_option linter.all false
set_option maxHeartbeats 4000000
set_option maxRecDepth 60000
/-! X7: with_value whole, without_last. -/
namespace K74
open Pv Dia Lc
open PySem (Str)
open L2 (Key)
section
variable {G : Prog} [LibD G] {n d fl : Nat} {S : Sto} {o a b c : Nat} {N : Nds} {K P : List (List Key × Pv.D)}
theorem ms7 : G.meth 3 7 = some 27 := LibD.meth (3, 7, 27) (by decide)
theorem ms10 : G.meth 3 10 = some 37 := LibD.meth (3, 10, 37) (by decide)
theorem sorted_nat {k : Nat} {ids : List Nat} (h : S[k]? = some (.lst (natD ids))) : builtin .sorted [.ref k] S = .ok (.ref S.length) (S ++ [Ob.lst (natD (sortN ids))]) := by
  have e : intsOf (natD ids) = some (ids.map fun i : Nat => (i : Int)) := by
    have : natD ids = (ids.map fun i : Nat => (i : Int)).map Pv.D.int := by unfold natD; rw [List.map_map]; rfl
    rw [this, intsOf_map]
  have e2 : ((sortN ids).map fun i : Nat => (i : Int)).map Pv.D.int = natD (sortN ids) := by unfold natD; rw [List.map_map]; rfl
  simp only [builtin, h, e, sortInts_nat, e2]
  rfl
def seen0 : List (Key × Pv.D) := [(Sum.inl 0, .int 0), (Sum.inl 1, .int 1)]
theorem seen0_ev (G : Prog) (w : Nat) (call mk : Call) (σ : Sl) (S : Sto) : evE G w call mk (.dict false (.cons (.con (.int 0)) (.cons (.con (.int 0)) (.cons (.con (.int 1)) (.cons (.con (.int 1)) .nil))))) σ S = .ok (.ref S.length) (S ++ [.dK seen0]) := by
  have e : putA (Sum.inl 1 : Key) (Pv.D.int 1) (putA (Sum.inl 0) (.int 0) []) = seen0 := by
    simp [putA, hasA, seen0]
  simp [keyOf, e]
theorem wv_aux {l m : Nat} (h : l ≤ 2 ^ m - 1) (hm : m ≤ 7) : l ≤ 127 := by
  have : 2 ^ m ≤ 2 ^ 7 := Nat.pow_le_pow_right (by omega) hm
  omega
theorem with_value_q (hS : Ok fl S o a b c N K P) {at_ : Nat} {g : Fun} {t : Nat} {v : Bool} (T : Dia.Den (fl + 1) N at_ g t) (hf : fl < 7) (hN : N.length ≤ 180000) (hn : 600000 ≤ n) :
    ∃ S' r, Q G n (d + 2) 37 [.ref o, .int at_, .int fl, .bl v] S = .ok (.int (r : Nat)) S' ∧ KeptQ fl S S' o a b c N P 127 fun N' => Dia.Den fl N' r (cofF g fl v) t := by
  obtain ⟨S1, hS1⟩ : ∃ S1, S1 = S ++ [Ob.dK seen0] := ⟨_, rfl⟩
  have ok1 : Ok fl S1 o a b c N K P := hS.grow ⟨_, hS1⟩
  obtain ⟨ids, W, ew⟩ := within_q (G := G) (n := n) (d := d) (m := fl + 1) (ok1.any _) (by omega) hn (at_ := at_) ⟨g, t, T⟩
  obtain ⟨S2, hS2⟩ : ∃ S2, S2 = S1 ++ [Ob.lst (natD ids)] := ⟨_, rfl⟩
  rw [← hS2] at ew
  have so := sorted_nat (S := S2) (k := S1.length) (ids := ids) (by rw [hS2]; simp)
  obtain ⟨S3, hS3⟩ : ∃ S3, S3 = S2 ++ [Ob.lst (natD (sortN ids))] := ⟨_, rfl⟩
  rw [← hS3] at so
  have g3 : Grow S S3 := ⟨[Ob.dK seen0, Ob.lst (natD ids), Ob.lst (natD (sortN ids))], by rw [hS3, hS2, hS1]; simp⟩
  have L2 : S2.length = S.length + 2 := by rw [hS2, hS1]; simp
  have l3 : S3[S2.length]? = some (.lst (natD (sortN ids))) := by rw [hS3]; simp
  have wl : walkOf (.ref S2.length) S3 = .ok (.lst S2.length) S3 := by simp only [walkOf, l3]
  have len := wv_aux W.len (by omega)
  have slen : (sortN ids).length ≤ 127 := by rw [sortN_length]; exact len
  obtain ⟨σ', S', e, hp⟩ := loopF_lst (n := S2.length) (xs := natD (sortN ids)) (body := turnF G n (evQ G n oldF (d + 1)) (mkQ G n oldF (d + 1)) (.var 5) wvBody) (WvP fl v S o a b c S2.length at_ N P (sortN ids))
    (w := n) (σ := [some (.ref o), some (.int at_), some (.int fl), some (.bl v), some (.ref S.length), none, none, none, none]) (S := S3) (by unfold natD; rw [List.length_map]; omega)
    ⟨[], K, P, seen0, none, none, none, none, rfl, by rw [List.append_nil]; exact hS.grow g3, Chg.of g3, by rw [hS3, hS2, hS1]; simp, by rw [hS3, hS2, hS1]; simp, l3, fun i hi => by
      rcases hi with hi | hi
      · have : i = 0 ∨ i = 1 := by omega
        rcases this with q | q
        · subst q; exact ⟨0, rfl, CofOk.zero⟩
        · subst q; exact ⟨1, rfl, CofOk.one⟩
      · simp at hi, by simp [seen0], by simp, by simp⟩
    (fun i σ S' h => by obtain ⟨_, _, _, _, _, _, _, _, _, _, _, _, _, h6, _⟩ := h.st; exact h6)
    (fun i x σ S' hx hp => by
      unfold natD at hx
      rw [List.getElem?_map] at hx
      cases ei : (sortN ids)[i]? with
      | none => rw [ei] at hx; cases hx
      | some id =>
        rw [ei] at hx
        have hx : Pv.D.int id = x := Option.some.inj hx
        subst hx
        obtain ⟨σ2, S2', e, p⟩ := wv_turn (G := G) (n := n) (d := d) hS L2 ei (sortN_asc ids W.nd) (fun x hx => W.f2 x ((mem_sortN x ids).mp hx)) (fun x hx f l h e => by
          obtain ⟨a1, a2⟩ := W.cl x ((mem_sortN x ids).mp hx) f l h e
          exact ⟨fun q => (mem_sortN l ids).mpr (a1 q), fun q => (mem_sortN h ids).mpr (a2 q)⟩) hN (by omega) hp
        exact ⟨σ2, S2', .inl e, p⟩)
  have nl : (natD (sortN ids)).length = (sortN ids).length := by unfold natD; rw [List.length_map]
  rw [nl] at hp
  obtain ⟨xx, K', P', kvs, s5, s6, s7, s8, hσ, ok, ch, lt, hd, hl, se, kl, xl, pl⟩ := hp.st
  subst hσ
  rw [List.take_length] at se
  obtain ⟨r, er, cr⟩ := se at_ (by
    by_cases q : at_ < 2
    · exact .inl q
    · exact .inr ((mem_sortN at_ ids).mpr (W.top (by omega))))
  have sb := sub_dict hd er
  refine ⟨_, r, ?_, xx, K', P', rfl, hS.wr ok, by omega, by omega, cr g t T⟩
  rw [Q, evQ_open (fn := ⟨4, 9, c_Diagrams_with_value⟩) (by decide) (LibD.fn 37 (by decide)) rfl, ← hS.gc ok ch (x := .int (r : Nat)) rfl]
  have ins := ok1.ins
  have se0 := fun call mk σ => seen0_ev G n call mk σ S
  rw [← hS1] at se0
  simp only [wvBody, c_Diagrams_with_value] at e
  simp -implicitDefEqProofs [c_Diagrams_with_value, startD, se0, ins, ms7, lookA, ew, so, wl, e, sb, -evE_dict]
end
end K74
end

section
set_option autoImplicit false
set_option linter.all false
set_option maxHeartbeats 4000000
set_option maxRecDepth 60000
/-! X8: without_last; layers. -/
namespace K74
open Pv Dia Lc
open PySem (Str)
open L2 (Key)
/-- a flag taken out, its side setting it well -/
def outF (g : Fun) (f : Nat) (side : Bool) : Fun := fun x => if side = true then g (updF x f false) || g (updF x f true) else g (updF x f false) && g (updF x f true)
/-- the last k flags taken out -/
def lastF (sides : List Bool) (g : Fun) : Nat → Fun
  | 0 => g
  | k + 1 => outF (lastF sides g k) (sides.length - 1 - k) ((sides[sides.length - 1 - k]?).getD false)
theorem range_upd (x : Nat → Bool) (j : Nat) (b : Bool) : (List.range (j + 1)).map (updF x j b) = (List.range j).map x ++ [b] := by
  rw [List.range_succ, List.map_append]
  congr 1
  · apply List.map_congr_left
    intro k hk
    have : k < j := List.mem_range.mp hk
    unfold updF
    rw [if_neg (by omega)]
  · simp [updF]
theorem lastF_win {sides : List Bool} {g : Fun} {f : List Bool → Bool} (hg : ∀ x, g x = f ((List.range sides.length).map x)) : ∀ (k : Nat), k ≤ sides.length → ∀ x, lastF sides g k x = winB f ((List.range (sides.length - k)).map x) (sides.drop (sides.length - k))
  | 0, _, x => by
    rw [Nat.sub_zero, List.drop_length]
    exact hg x
  | k + 1, hk, x => by
    obtain ⟨j, hj⟩ : ∃ j, j = sides.length - (k + 1) := ⟨_, rfl⟩
    have e1 : sides.length - 1 - k = j := by omega
    have e2 : sides.length - k = j + 1 := by omega
    have hjl : j < sides.length := by omega
    have es : sides[j]? = some sides[j] := by simp [hjl]
    have hd : sides.drop j = sides[j] :: sides.drop (j + 1) := List.drop_eq_getElem_cons hjl
    rw [← hj, hd]
    show outF (lastF sides g k) (sides.length - 1 - k) ((sides[sides.length - 1 - k]?).getD false) x = _
    rw [e1, es]
    unfold outF
    rw [lastF_win hg k (by omega), lastF_win hg k (by omega), e2, range_upd, range_upd]
    rfl
section
variable {G : Prog} [LibD G] {n d fl : Nat} {S : Sto} {o a b c : Nat} {N : Nds} {K P : List (List Key × Pv.D)}
theorem KeptQ.app {m : Nat} {S S1 S2 : Sto} {B : Nat} {Q1 : Nds → Prop} (h : Ok m S o a b c N K P) (k : KeptQ m S S1 o a b c N P B Q1) : ∃ xx K1 P1, S1 = wr S a b c (N ++ xx) K1 P1 ∧ Ok m S1 o a b c (N ++ xx) K1 P1 ∧ xx.length ≤ B ∧ P1.length ≤ P.length + B ∧ Q1 (N ++ xx) := k
theorem without_last_q (hS : Ok fl S o a b c N K P) {at_ : Nat} {g : Fun} (side : Bool) (T : Dia.Den (fl + 1) N at_ g 0) (hf : fl < 7) (hN : N.length ≤ 170000) (hP : P.length ≤ 280000) (hn : 600000 ≤ n) :
    ∃ S' r, Q G n (d + 5) 25 [.ref o, .int at_, .int fl, .bl side] S = .ok (.int (r : Nat)) S' ∧ KeptQ fl S S' o a b c N P 700 fun N' => Dia.Den fl N' r (outF g fl side) 0 := by
  obtain ⟨S1, rl, e1, xx, K1, P1, q0, q1, q2, q3, q4⟩ := with_value_q (G := G) (n := n) (d := d + 2) (v := false) hS T hf (by omega) hn
  obtain ⟨S2, rh, e2, yy, K2, P2, r0, r1, r2, r3, r4⟩ := with_value_q (G := G) (n := n) (d := d + 2) (v := true) q1 (T.grow xx) hf (by rw [List.length_append]; omega) hn
  have ap := hS.ap
  have i0 := hS.ins
  have i1 := q1.ins
  have i2 := r1.ins
  have l1 : (N ++ xx ++ yy).length ≤ 180000 := by simp only [List.length_append]; omega
  have l2 : P2.length ≤ 300000 := by omega
  have dl := q4.grow yy
  cases side with
  | true =>
    obtain ⟨S3, r, e3, zz, K3, P3, s0, s1, s2, s3, s4⟩ := chosen_q (G := G) (n := n) (d := d) (i := rl) (j := 1) (k := rh) r1 (by omega) (by omega) ⟨dl, .one 0, r4⟩ l2 l1
    have e3 : evQ G n oldF (d + 4) 36 [.ref o, .int rl, .int 1, .int rh] S2 = .ok (.int (r : Nat)) S3 := e3
    have w : S3 = wr S a b c (N ++ (xx ++ yy ++ zz)) K3 P3 := by
      rw [s0, r0, q0, wr_wr ap.2.2.2.1 ap.2.2.2.2.1 ap.2.2.2.2.2, wr_wr ap.2.2.2.1 ap.2.2.2.2.1 ap.2.2.2.2.2]
      simp
    have an : N ++ (xx ++ yy ++ zz) = N ++ xx ++ yy ++ zz := by simp
    refine ⟨S3, r, ?_, xx ++ yy ++ zz, K3, P3, w, by rw [an]; exact s1, by simp only [List.length_append]; omega, by omega, ?_⟩
    · have fin : gc S (.ok (.int (r : Nat)) S3) = .ok (.int (r : Nat)) S3 := by
        have := hS.gc (x := .int (r : Nat)) s1 (by rw [w]; exact wr_chg) rfl
        rw [this, ← an, ← w]
      rw [Q, evQ_open (fn := ⟨4, 6, c_without_last⟩) (by decide) (LibD.fn 25 (by decide)) rfl, ← fin]
      simp -implicitDefEqProofs [c_without_last, startD, i0, i1, i2, ms10, ms9, lookA, e1, e2, e3]
    · rw [an]
      have : ite3 (cofF g fl false) (fun _ => true) (cofF g fl true) = outF g fl true := by
        funext x
        unfold ite3 cofF outF
        cases g (updF x fl false) <;> simp
      rw [← this]
      exact s4
  | false =>
    obtain ⟨S3, r, e3, zz, K3, P3, s0, s1, s2, s3, s4⟩ := chosen_q (G := G) (n := n) (d := d) (i := rl) (j := rh) (k := 0) r1 (by omega) (by omega) ⟨dl, r4, .zero 0⟩ l2 l1
    have e3 : evQ G n oldF (d + 4) 36 [.ref o, .int rl, .int rh, .int 0] S2 = .ok (.int (r : Nat)) S3 := e3
    have w : S3 = wr S a b c (N ++ (xx ++ yy ++ zz)) K3 P3 := by
      rw [s0, r0, q0, wr_wr ap.2.2.2.1 ap.2.2.2.2.1 ap.2.2.2.2.2, wr_wr ap.2.2.2.1 ap.2.2.2.2.1 ap.2.2.2.2.2]
      simp
    have an : N ++ (xx ++ yy ++ zz) = N ++ xx ++ yy ++ zz := by simp
    refine ⟨S3, r, ?_, xx ++ yy ++ zz, K3, P3, w, by rw [an]; exact s1, by simp only [List.length_append]; omega, by omega, ?_⟩
    · have fin : gc S (.ok (.int (r : Nat)) S3) = .ok (.int (r : Nat)) S3 := by
        have := hS.gc (x := .int (r : Nat)) s1 (by rw [w]; exact wr_chg) rfl
        rw [this, ← an, ← w]
      rw [Q, evQ_open (fn := ⟨4, 6, c_without_last⟩) (by decide) (LibD.fn 25 (by decide)) rfl, ← fin]
      simp -implicitDefEqProofs [c_without_last, startD, i0, i1, i2, ms10, ms9, lookA, e1, e2, e3]
    · rw [an]
      have : ite3 (cofF g fl false) (cofF g fl true) (fun _ => false) = outF g fl false := by
        funext x
        unfold ite3 cofF outF
        cases g (updF x fl false) <;> simp
      rw [← this]
      exact s4
end
end K74
end

section
set_option autoImplicit false
set_option linter.all false
set_option maxHeartbeats 4000000
set_option maxRecDepth 60000
/-! X9: the layers. -/
namespace K74
open Pv Dia Lc
open PySem (Str)
open L2 (Key)
def loBody : C := match c_layers_of with
  | .cons _ (.cons (.forr _ _ b) _) => b
  | _ => .nil
/-- the loop's stand -/
def LoP (m : Nat) (S : Sto) (o a b c bo : Nat) (N : Nds) (P : List (List Key × Pv.D)) (sides : List Bool) (g : Fun) (i : Nat) (σ : Sl) (S' : Sto) : Prop :=
  ∃ rs xx K' P' s3, σ = [some (.ref o), some (.ref bo), some (.ref S.length), s3] ∧ Ok m S' o a b c (N ++ xx) K' P' ∧ Chg [a, b, c] S S' ∧ S.length < S'.length ∧ S'[S.length]? = some (.lst (natD rs)) ∧ rs.length = i + 1 ∧ (∀ k r, rs[k]? = some r → Dia.Den (m - k) (N ++ xx) r (lastF sides g k) 0) ∧ xx.length ≤ 120000 + 700 * i ∧ P'.length ≤ P.length + (120000 + 700 * i)
section
variable {G : Prog} [LibD G] {n d m : Nat} {S : Sto} {o a b c bo : Nat} {N : Nds} {K P : List (List Key × Pv.D)} {sides : List Bool} {gs : List Gate} {wish : Nat}
theorem lo_turn (hS : Ok m S o a b c N K P) (hb : BookAt S bo sides gs wish) (hl : sides.length = m) (hm : m ≤ 7) (hn : 600000 ≤ n) (hN : N.length ≤ 40000) (hP : P.length ≤ 100000) {g : Fun} {i : Nat} (hi : i < m) {σ : Sl} {S' : Sto} (h : LoP m S o a b c bo N P sides g i σ S') :
    ∃ σ2 S2, turnF G n (evQ G n oldF (d + 5)) (mkQ G n oldF (d + 5)) (.var 3) loBody (.int ((m - 1 : Nat) + (i : Int) * -1)) σ S' = .nx σ2 S2 ∧ LoP m S o a b c bo N P sides g (i + 1) σ2 S2 := by
  obtain ⟨rs, xx, K', P', s3, hσ, ok, ch, lt, hr, rl, hd, xl, pl⟩ := h
  subst hσ
  obtain ⟨fl, hfl⟩ : ∃ fl, fl = m - 1 - i := ⟨_, rfl⟩
  have ef : ((m - 1 : Nat) : Int) + (i : Int) * -1 = (fl : Nat) := by omega
  rw [ef]
  rcases List.eq_nil_or_concat rs with hw | ⟨rs0, r0, hw⟩
  · rw [hw] at rl; simp at rl
  rw [List.concat_eq_append] at hw
  subst hw
  have hr0 : (rs0 ++ [r0])[i]? = some r0 := by
    have : rs0.length = i := by simpa using rl
    rw [← this]; simp
  have T := hd i r0 hr0
  rw [show m - i = fl + 1 by omega] at T
  have hlf : fl < sides.length := by omega
  have es : sides[fl]? = some sides[fl] := by simp [hlf]
  obtain ⟨S2, r, e, yy, K2, P2, q0, q1, q2, q3, q4⟩ := without_last_q (G := G) (n := n) (d := d) (ok.any fl) sides[fl] T (by omega) (by rw [List.length_append]; omega) (by omega) hn
  have ch2 : Chg [a, b, c] S' S2 := by rw [q0]; exact wr_chg
  have neS : S.length ∉ [a, b, c] := by
    have := hS.lt (k := S.length) (Nat.le_refl _)
    simp; exact this.2
  have hr2 : S2[S.length]? = some (.lst (natD (rs0 ++ [r0]))) := ch2.at neS hr
  have rc : bmRecv .append (.ref S.length) S' = true := recv_append hr
  have ap : bmethod .append (.ref S.length) [.int r] S2 = .ok .non (S2.set S.length (.lst (natD (rs0 ++ [r0] ++ [r])))) := by
    have e1 : natD (rs0 ++ [r0] ++ [r]) = natD (rs0 ++ [r0]) ++ [.int r] := by simp [natD]
    rw [append_at (l := []) hr2 (by unfold natD; rw [List.length_map]; omega), e1]
  have sl : subscr (.ref S.length) (.int (-1)) S' = .ok (.int r0) S' := by
    have e1 : natD (rs0 ++ [r0]) = natD rs0 ++ [.int r0] := by simp [natD]
    rw [e1] at hr
    simp only [subscr, hr, getAt_last]
  have bs : getattr G (.ref bo) 0 S' = .ok (bitsD sides) S' := (hb.chg ch (hb.ne hS)).gSides
  have ss : subscr (bitsD sides) (.int (fl : Nat)) S' = .ok (.bl sides[fl]) S' := by
    have := getAt_map Pv.D.bl sides fl es
    simp only [bitsD, subscr, this]
  refine ⟨_, S2.set S.length (.lst (natD (rs0 ++ [r0] ++ [r]))), ?_, rs0 ++ [r0] ++ [r], xx ++ yy, K2, P2, some (.int fl), rfl, ?_, ?_, ?_, ?_, by rw [List.length_append, rl]; rfl, ?_, ?_, ?_⟩
  · simp -implicitDefEqProofs [turnF, loBody, c_layers_of, neg1_ev, rc, sl, bs, ss, e, ap, -evE_neg]
  · rw [← List.append_assoc]
    exact (q1.any m).setW (hS.lt (Nat.le_refl _)) _
  · have c3 := ch.trans ch2
    refine ⟨by simpa using c3.1, fun j hj hm => ?_⟩
    rw [List.getElem?_set_ne (by omega)]
    exact c3.2 j hj hm
  · have := ch2.1
    rw [List.length_set]; omega
  · rw [List.getElem?_set_self (List.getElem?_eq_some_iff.mp hr2).1]
  · intro k r' e'
    rw [← List.append_assoc]
    by_cases hk : k < (rs0 ++ [r0]).length
    · rw [List.getElem?_append_left hk] at e'
      exact (hd k r' e').grow yy
    · have hk2 : k = i + 1 := by
        have l1 := (List.getElem?_eq_some_iff.mp e').1
        have rl' : rs0.length = i := by simpa using rl
        simp at l1 hk
        omega
      subst hk2
      rw [← rl] at e'
      have : r = r' := by simpa using e'
      subst this
      rw [show m - (i + 1) = fl by omega]
      have el : lastF sides g (i + 1) = outF (lastF sides g i) fl sides[fl] := by
        show outF (lastF sides g i) (sides.length - 1 - i) ((sides[sides.length - 1 - i]?).getD false) = _
        rw [hl, ← hfl, es]; rfl
      rw [el]
      exact q4
  · rw [List.length_append]; omega
  · omega
/-- the layers as they lie -/
def LayersOk (m : Nat) (N : Nds) (f : List Bool → Bool) (sides : List Bool) (rs : List Nat) : Prop :=
  rs.length = m + 1 ∧ ∀ j r, rs[j]? = some r → Dia.Den j N r (fun x => winB f ((List.range j).map x) (sides.drop j)) 0
theorem layers_of_q (hS : Ok m S o a b c N K P) (hb : BookAt S bo sides gs wish) (hl : sides.length = m) (hg : GatesOk m gs wish) (hn : 600000 ≤ n) (hm : m ≤ 7) (hN : N.length ≤ 40000) (hP : P.length ≤ 100000) :
    ∃ S' xx K' P' rs, Q G n (d + 9) 15 [.ref o, .ref bo] S = .ok (.ref S.length) (S' ++ [Ob.lst (natD rs)]) ∧ S' = wr S a b c (N ++ xx) K' P' ∧ Ok m S' o a b c (N ++ xx) K' P' ∧ xx.length ≤ 130000 ∧ P'.length ≤ P.length + 130000 ∧ LayersOk m (N ++ xx) (wonB gs wish) sides rs := by
  obtain ⟨S1, r0, e1, xx, K1, P1, q0, q1, q2, q3, q4⟩ := book_diagram_q (G := G) (n := n) (d := d) hS hb hl hg (by omega) hm hN hP
  have ch1 : Chg [a, b, c] S S1 := by rw [q0]; exact wr_chg
  have len1 : S1.length = S.length := by rw [q0]; exact wr_length
  have nl := newLst_ok (xs := [.int (r0 : Nat)]) (S := S1) (by simp)
  rw [len1] at nl
  obtain ⟨S2, hS2⟩ : ∃ S2, S2 = S1 ++ [Ob.lst [.int (r0 : Nat)]] := ⟨_, rfl⟩
  rw [← hS2] at nl
  have ok2 : Ok m S2 o a b c (N ++ xx) K1 P1 := q1.grow ⟨_, hS2⟩
  have ch2 : Chg [a, b, c] S S2 := ch1.trans (Chg.of ⟨_, hS2⟩)
  have bm := (hb.chg ch2 (hb.ne hS)).gMany (G := G)
  rw [hl] at bm
  have rg : rangeOf [.int ((m : Int) - 1), .int (-1), .int (-1)] S2 = .ok (.rng ((m : Int) - 1) (-1) m) S2 := by
    have i1 : (inRange62 ((m : Int) - 1) && inRange62 (-1)) = true := by simp [inRange62]; omega
    have e2 : ((m : Int) - 1 - -1).toNat = m := by omega
    simp only [rangeOf, i1, true_and, if_true, e2]
  obtain ⟨σ', S3, e2, rs, yy, K3, P3, s3, hσ, w1, w2, w3, w4, w5, w6, w7, w8⟩ := loopF_rng (lo := (m : Int) - 1) (st := -1) (m := m) (body := turnF G n (evQ G n oldF (d + 8)) (mkQ G n oldF (d + 8)) (.var 3) loBody) (LoP m S o a b c bo N P sides (bookF m gs wish))
    (w := n) (σ := [some (.ref o), some (.ref bo), some (.ref S.length), none]) (S := S2) (by omega)
    ⟨[r0], xx, K1, P1, none, rfl, ok2, ch2, by rw [hS2]; simp; omega, by rw [hS2, ← len1]; simp [natD], rfl, fun k r e => by
      have hk : k = 0 := by
        have := (List.getElem?_eq_some_iff.mp e).1
        simpa using this
      subst hk
      have : r0 = r := by simpa using e
      subst this
      exact q4, by omega, by omega⟩
    (fun i σ S' hi hp => by
      obtain ⟨σ2, S2, e, p⟩ := lo_turn (G := G) (n := n) (d := d + 3) hS hb hl hm hn hN hP hi hp
      have : (m : Int) - 1 = ((m - 1 : Nat) : Int) := by omega
      rw [this]
      exact ⟨σ2, S2, .inl e, p⟩)
  subst hσ
  have rc : bmRecv .reverse (.ref S.length) S3 = true := by simp [bmRecv, w4]
  have rv : bmethod .reverse (.ref S.length) [] S3 = .ok .non (S3.set S.length (.lst (natD rs.reverse))) := by
    have : (natD rs).reverse = natD rs.reverse := by unfold natD; rw [List.map_reverse]
    simp only [bmethod, w4, this]
  obtain ⟨S4, hS4⟩ : ∃ S4, S4 = S3.set S.length (.lst (natD rs.reverse)) := ⟨_, rfl⟩
  rw [← hS4] at rv
  have ok4 : Ok m S4 o a b c (N ++ yy) K3 P3 := by rw [hS4]; exact w1.setW (hS.lt (Nat.le_refl _)) _
  have ch4 : Chg [a, b, c] S S4 := by
    rw [hS4]
    refine ⟨by simpa using w2.1, fun j hj hm => ?_⟩
    rw [List.getElem?_set_ne (by omega)]
    exact w2.2 j hj hm
  have l4 : S4[S.length]? = some (.lst (natD rs.reverse)) := by rw [hS4, List.getElem?_set_self w3]
  refine ⟨_, yy, K3, P3, rs.reverse, ?_, rfl, hS.wr ok4, by omega, by omega, by rw [List.length_reverse]; exact w5, fun j r e => ?_⟩
  · have fin := hS.gcL ok4 ch4 l4 (Nat.le_refl _) (newL_natD _ _)
    rw [Q, evQ_open (fn := ⟨2, 4, c_layers_of⟩) (by decide) (LibD.fn 15 (by decide)) rfl, ← fin]
    simp only [loBody, c_layers_of] at e2
    simp -implicitDefEqProofs [c_layers_of, startD, e1, nl, bm, sub_int, neg1_ev, rg, e2, rc, rv, -evE_neg]
  · have hj : j < m + 1 := by
      have := (List.getElem?_eq_some_iff.mp e).1
      rw [List.length_reverse, w5] at this
      exact this
    rw [List.getElem?_reverse (by omega), w5] at e
    have T := w6 _ r e
    rw [show m - (m + 1 - 1 - j) = j by omega] at T
    have ef : (fun x => winB (wonB gs wish) ((List.range j).map x) (sides.drop j)) = lastF sides (bookF m gs wish) (m + 1 - 1 - j) := by
      funext x
      rw [lastF_win (f := wonB gs wish) (fun x => by rw [bookF_won, hl]) _ (by omega), hl, show m - (m + 1 - 1 - j) = j by omega]
    rw [ef]
    exact T
end
end K74
end

section
set_option autoImplicit false
set_option linter.all false
set_option maxHeartbeats 4000000
set_option maxRecDepth 60000
/-! X10: counts of assignments. -/
namespace K74
open Pv Dia Lc
open PySem (Str)
open L2 (Key)
/-- how many ways to set k flags from t on make it true -/
def cN : Nat → Nat → Fun → Nat
  | 0, _, g => if g (fun _ => false) = true then 1 else 0
  | k + 1, t, g => cN k (t + 1) (cofF g t false) + cN k (t + 1) (cofF g t true)
theorem den_indep {m : Nat} {N : Nds} {i : Nat} {g : Fun} {t : Nat} (T : Dia.Den m N i g t) : ∀ {x y : Nat → Bool}, (∀ f, t ≤ f → x f = y f) → g x = g y := by
  induction T with
  | zero => intro x y _; rfl
  | one => intro x y _; rfl
  | node i f l h t gl gh e h1 hf h3 h4 d1 d2 ih1 ih2 =>
    intro x y hx
    have e1 := ih1 (x := x) (y := y) fun f' hf' => hx f' (by omega)
    have e2 := ih2 (x := x) (y := y) fun f' hf' => hx f' (by omega)
    simp only [hx f h1, e1, e2]
theorem cof_id {m : Nat} {N : Nds} {i : Nat} {g : Fun} {f : Nat} (T : Dia.Den m N i g (f + 1)) (b : Bool) : cofF g f b = g := by
  funext x
  unfold cofF
  refine den_indep T fun f' hf => ?_
  unfold updF
  rw [if_neg (by omega)]
theorem cN_skip {m : Nat} {N : Nds} {i : Nat} {g : Fun} {p : Nat} (T : Dia.Den m N i g p) (hp : p ≤ m) : ∀ (k t : Nat), t + k = p → cN (m - t) t g = cN (m - p) p g * 2 ^ k
  | 0, t, h => by
    have : t = p := by omega
    subst this; simp
  | k + 1, t, h => by
    have e : m - t = (m - (t + 1)) + 1 := by omega
    have T' : Dia.Den m N i g (t + 1) := T.low (by omega)
    rw [e]
    show cN (m - (t + 1)) (t + 1) (cofF g t false) + cN (m - (t + 1)) (t + 1) (cofF g t true) = _
    rw [cof_id T', cof_id T', cN_skip T hp k (t + 1) (by omega), Nat.pow_succ, ← Nat.mul_assoc]
    omega
theorem cN_node {f m : Nat} {gl gh : Fun} {N : Nds} {l h : Nat} (hf : f < m) (dl : Dia.Den m N l gl (f + 1)) (dh : Dia.Den m N h gh (f + 1)) : cN (m - f) f (fun x => if x f = true then gh x else gl x) = cN (m - (f + 1)) (f + 1) gl + cN (m - (f + 1)) (f + 1) gh := by
  have e : m - f = (m - (f + 1)) + 1 := by omega
  rw [e]
  show cN (m - (f + 1)) (f + 1) (cofF _ f false) + cN (m - (f + 1)) (f + 1) (cofF _ f true) = _
  have e1 : cofF (fun x => if x f = true then gh x else gl x) f false = cofF gl f false := by
    funext x
    unfold cofF
    have : updF x f false f = false := by simp [updF]
    simp only [this]; rfl
  have e2 : cofF (fun x => if x f = true then gh x else gl x) f true = cofF gh f true := by
    funext x
    unfold cofF
    have : updF x f true f = true := by simp [updF]
    simp only [this]; rfl
  rw [e1, e2, cof_id dl, cof_id dh]
theorem allPlays_cons : ∀ k : Nat, allPlays (k + 1) = (allPlays k).map (fun p => false :: p) ++ (allPlays k).map fun p => true :: p
  | 0 => rfl
  | k + 1 => by
    show (allPlays (k + 1)).flatMap (fun p => [p ++ [false], p ++ [true]]) = _
    have ih := allPlays_cons k
    have e : ∀ (b : Bool) (l : List (List Bool)), (l.map fun p => b :: p).flatMap (fun p => [p ++ [false], p ++ [true]]) = (l.flatMap fun p => [p ++ [false], p ++ [true]]).map fun p => b :: p := fun b l => by
      induction l with
      | nil => rfl
      | cons p l ihl => rw [List.map_cons, List.flatMap_cons, List.flatMap_cons, ihl, List.map_append]; rfl
    rw [show (allPlays (k + 1)).flatMap (fun p => [p ++ [false], p ++ [true]]) = ((allPlays k).map (fun p => false :: p) ++ (allPlays k).map fun p => true :: p).flatMap (fun p => [p ++ [false], p ++ [true]]) by rw [← ih], List.flatMap_append, e, e]
    rfl
theorem cN_plays (h : List Bool → Bool) : ∀ (k t : Nat) (q : List Bool), cN k t (fun x => h (q ++ (List.range' t k).map x)) = ((allPlays k).filter fun p => h (q ++ p)).length
  | 0, t, q => by
    show (if h (q ++ []) = true then 1 else 0) = (List.filter (fun p => h (q ++ p)) [[]]).length
    rw [List.filter_cons]
    by_cases c : h (q ++ []) = true
    · rw [if_pos c, if_pos c]; rfl
    · rw [if_neg c, if_neg c]; rfl
  | k + 1, t, q => by
    have e : ∀ b, cofF (fun x => h (q ++ (List.range' t (k + 1)).map x)) t b = fun x => h ((q ++ [b]) ++ (List.range' (t + 1) k).map x) := fun b => by
      funext x
      show h (q ++ (List.range' t (k + 1)).map (updF x t b)) = _
      rw [List.range'_succ, List.map_cons, List.append_assoc]
      congr 2
      have h1 : updF x t b t = b := by simp [updF]
      have h2 : (List.range' (t + 1) k).map (updF x t b) = (List.range' (t + 1) k).map x := by
        apply List.map_congr_left
        intro f hf
        have := (List.mem_range'_1.mp hf).1
        unfold updF
        rw [if_neg (by omega)]
      rw [h1, h2]
      rfl
    show cN k (t + 1) (cofF _ t false) + cN k (t + 1) (cofF _ t true) = _
    rw [e, e, cN_plays h k, cN_plays h k, allPlays_cons, List.filter_append, List.length_append, List.filter_map, List.filter_map, List.length_map, List.length_map]
    congr 2
    · congr 1
      funext p
      simp [Function.comp]
    · congr 1
      funext p
      simp [Function.comp]
theorem cN_all (h : List Bool → Bool) (m : Nat) : cN m 0 (fun x => h ((List.range m).map x)) = ((allPlays m).filter h).length := by
  have := cN_plays h m 0 []
  rw [List.range_eq_range']
  exact this
end K74
end

section
set_option autoImplicit false
set_option linter.all false
set_option maxHeartbeats 4000000
set_option maxRecDepth 60000
/-! X11: counted. -/
namespace K74
open Pv Dia Lc
open PySem (Str)
open L2 (Key)
/-- what is known of a number: its place, its count -/
def WayOk (m : Nat) (N : Nds) (i p k : Nat) : Prop := ∀ g t, Dia.Den m N i g t → t ≤ m → t ≤ p ∧ p ≤ m ∧ Dia.Den m N i g p ∧ k = cN (m - p) p g
def wayD (p k : Nat) : Pv.D := .tup [.int p, .int k]
def WaysOk (m : Nat) (N : Nds) (done : List Nat) (kvs : List (Key × Pv.D)) : Prop := ∀ i, (i < 2 ∨ i ∈ done) → ∃ p k : Nat, lookA (ikey i) kvs = some (wayD p k) ∧ WayOk m N i p k
theorem WayOk.zero {m : Nat} {N : Nds} : WayOk m N 0 m 0 := fun g t T h => by
  cases T
  exact ⟨h, Nat.le_refl _, .zero _, by rw [Nat.sub_self]; rfl⟩
theorem WayOk.one {m : Nat} {N : Nds} : WayOk m N 1 m 1 := fun g t T h => by
  cases T
  exact ⟨h, Nat.le_refl _, .one _, by rw [Nat.sub_self]; rfl⟩
theorem WaysOk.put {m : Nat} {N : Nds} {done : List Nat} {kvs : List (Key × Pv.D)} (h : WaysOk m N done kvs) {i p k : Nat} (c : WayOk m N i p k) : WaysOk m N (done ++ [i]) (putA (ikey i) (wayD p k) kvs) := fun j hj => by
  by_cases e : i = j
  · subst e
    exact ⟨p, k, look_put _ _ _, c⟩
  · rw [look_put_ne _ _ (ikey_ne e)]
    refine h j ?_
    rcases hj with hj | hj
    · exact .inl hj
    · rcases List.mem_append.mp hj with q | q
      · exact .inr q
      · have : j = i := by simpa using q
        exact absurd this.symm e
theorem loopF_two {body : Pv.D → Sl → Sto → F} {x y : Pv.D} {n : Nat} {σ σ1 σ2 : Sl} {S S1 S2 : Sto} (hn : 3 ≤ n) (h1 : body x σ S = .nx σ1 S1) (h2 : body y σ1 S1 = .nx σ2 S2) : loopF (.fix [x, y]) body n 0 σ S = .nx σ2 S2 := by
  obtain ⟨k, rfl⟩ : ∃ k, n = k + 3 := ⟨n - 3, by omega⟩
  simp [loopF, IS.at, h1, h2]
def coBody : C := match c_counted with
  | .cons _ (.cons (.forr _ _ b) _) => b
  | _ => .nil
def coIn : C := match coBody with
  | .cons _ (.cons _ (.cons (.forr _ _ b) _)) => b
  | _ => .nil
/-- the loop's stand -/
def CoP (m : Nat) (S : Sto) (o at_ L : Nat) (N : Nds) (sids : List Nat) (i : Nat) (σ : Sl) (S' : Sto) : Prop :=
  ∃ kvs rest s4 s5 s6 s7 s8 s9 s10, σ = [some (.ref o), some (.int at_), some (.int m), some (.ref S.length), s4, s5, s6, s7, s8, s9, s10] ∧ S' = S ++ Ob.dK kvs :: rest ∧ S'[L]? = some (.lst (natD sids)) ∧ WaysOk m N (sids.take i) kvs ∧ kvs.length ≤ 2 + i ∧ (∀ p ∈ kvs, ∃ a b : Nat, p.2 = wayD a b)
section
variable {G : Prog} [LibD G] {n d m : Nat} {S : Sto} {o a b c : Nat} {N : Nds} {K P : List (List Key × Pv.D)}
theorem shifted_q (k : Nat) (hk : k ≤ 1000) : Q G n (d + 1) 26 [.int k] S = .ok (.int (2 ^ k)) S := by
  rw [Q, evQ_old (by decide), shifted_int k hk]
  exact gc_same rfl
theorem co_in (hn : 3 ≤ n) {p k f t : Nat} (hp : f + 1 ≤ p) (hp2 : p ≤ 20) (x y z w s4 s6 s7 s9 s10 : Option Pv.D) :
    turnF G n (evQ G n oldF (d + 1)) (mkQ G n oldF (d + 1)) (.tup (.cons (.var 9) (.cons (.var 10) .nil))) coIn (wayD p k) [x, y, z, w, s4, some (.int f), s6, s7, some (.int t), s9, s10] S = .nx [x, y, z, w, s4, some (.int f), s6, s7, some (.int (t + k * 2 ^ (p - (f + 1)) : Nat)), some (.int p), some (.int k)] S := by
  have e1 : ∀ S, binop .sub (.int (p : Nat)) (.int (f : Nat)) S = .ok (.int ((p : Int) - f)) S := fun S => rfl
  have e2 : ∀ S, binop .sub (.int ((p : Int) - f)) (.int 1) S = .ok (.int ((p - (f + 1) : Nat) : Int)) S := fun S => by
    rw [sub_int]
    have : (p : Int) - f - 1 = ((p - (f + 1) : Nat) : Int) := by omega
    rw [this]
  have sh := shifted_q (G := G) (n := n) (d := d) (S := S) (p - (f + 1)) (by omega)
  have le : 2 ^ (p - (f + 1)) ≤ 2 ^ 20 := Nat.pow_le_pow_right (by omega) (by omega)
  have cast : ((2 ^ (p - (f + 1)) : Nat) : Int) = 2 ^ (p - (f + 1)) := by simp
  rw [← cast] at sh
  obtain ⟨q, hq⟩ : ∃ q, q = 2 ^ (p - (f + 1)) := ⟨_, rfl⟩
  rw [← hq] at le sh ⊢
  have e3 : ∀ S, binop .mul (.int (k : Nat)) (.int (q : Nat)) S = .ok (.int (k * q : Nat)) S := fun S => by
    rw [mul_r _ _ (by omega)]
    congr 2
  have e4 : (t : Int) + (k * q : Nat) = (t + k * q : Nat) := by omega
  obtain ⟨A, hA⟩ : ∃ A : Int, A = ((p - (f + 1) : Nat) : Int) := ⟨_, rfl⟩
  rw [← hA] at e2 sh
  obtain ⟨C', hC⟩ : ∃ A : Int, A = (k * q : Nat) := ⟨_, rfl⟩
  rw [← hC] at e3 e4
  rw [← e4]
  have sq : asSeq S (wayD p k) = some [.int p, .int k] := rfl
  simp -implicitDefEqProofs [turnF, coIn, coBody, c_counted, sq, e1, e2, sh, e3, augF]
theorem co_turn (hS : Ok m S o a b c N K P) {L at_ : Nat} {sids : List Nat} {i id : Nat} {σ : Sl} {S' : Sto} (hn : 3 ≤ n) (hL : S.length < L) (hm : m ≤ 20) (hid : sids[i]? = some id) (asc : sids.Pairwise (· < ·)) (hD : ∀ x ∈ sids, 2 ≤ x ∧ HasDen m N x)
    (cl : ∀ x ∈ sids, ∀ f l h, N[x - 2]? = some (f, l, h) → (2 ≤ l → l ∈ sids) ∧ (2 ≤ h → h ∈ sids)) (hs : sids.length ≤ 1000000) (hP : CoP m S o at_ L N sids i σ S') :
    ∃ σ2 S2, turnF G n (evQ G n oldF (d + 1)) (mkQ G n oldF (d + 1)) (.var 4) coBody (.int id) σ S' = .nx σ2 S2 ∧ CoP m S o at_ L N sids (i + 1) σ2 S2 := by
  obtain ⟨kvs, rest, s4, s5, s6, s7, s8, s9, s10, hσ, hS', hl, wo, kl, kf⟩ := hP
  subst hσ
  have ok : Ok m S' o a b c N K P := hS.grow ⟨_, hS'⟩
  have hd : S'[S.length]? = some (.dK kvs) := by rw [hS']; simp
  have mem := List.mem_of_getElem? hid
  have hil := (List.getElem?_eq_some_iff.mp hid).1
  obtain ⟨h2, hden⟩ := hD id mem
  obtain ⟨f, l, h, en⟩ := hden.node h2
  obtain ⟨k1, k2, k3, k4⟩ := hden.kids h2 en
  obtain ⟨c1, c2⟩ := cl id mem f l h en
  have sg := node_get ok.nds en
  rw [Nat.sub_add_cancel h2] at sg
  have nn := ok.nodes (G := G)
  have kid : ∀ x, x < id → (2 ≤ x → x ∈ sids) → ∃ p k : Nat, lookA (ikey x) kvs = some (wayD p k) ∧ WayOk m N x p k := fun x hx hm => wo x (by
    by_cases q : x < 2
    · exact .inl q
    · exact .inr (asc_take asc hid (hm (by omega)) hx))
  obtain ⟨pl, kl', el, wl⟩ := kid l k3 c1
  obtain ⟨ph, kh, eh, wh⟩ := kid h k4 c2
  obtain ⟨g0, t0, T0⟩ := hden
  have dens : ∃ gl gh, Dia.Den m N l gl (f + 1) ∧ Dia.Den m N h gh (f + 1) ∧ f < m := by
    cases T0 with
    | zero => omega
    | one => omega
    | node j f' l' h' _ gl gh e2 h1 hf h3 h4 d1 d2 =>
      rw [Nat.add_sub_cancel, e2] at en
      cases en
      exact ⟨gl, gh, d1, d2, hf⟩
  obtain ⟨gl, gh, dl, dh, hfm⟩ := dens
  obtain ⟨a1, a2, a3, a4⟩ := wl gl (f + 1) dl (by omega)
  obtain ⟨b1, b2, b3, b4⟩ := wh gh (f + 1) dh (by omega)
  have sl := sub_dict hd el
  have sh := sub_dict hd eh
  have i1 := co_in (G := G) (n := n) (d := d) (S := S') hn (p := pl) (k := kl') (f := f) (t := 0) a1 (by omega) (some (.ref o)) (some (.int at_)) (some (.int m)) (some (.ref S.length)) (some (.int id)) (some (.int l)) (some (.int h)) s9 s10
  have i2 := co_in (G := G) (n := n) (d := d) (S := S') hn (p := ph) (k := kh) (f := f) (t := 0 + kl' * 2 ^ (pl - (f + 1))) b1 (by omega) (some (.ref o)) (some (.int at_)) (some (.int m)) (some (.ref S.length)) (some (.int id)) (some (.int l)) (some (.int h)) (some (.int pl)) (some (.int kl'))
  have lp := loopF_two hn i1 i2
  obtain ⟨tot, htot⟩ : ∃ t, t = 0 + kl' * 2 ^ (pl - (f + 1)) + kh * 2 ^ (ph - (f + 1)) := ⟨_, rfl⟩
  rw [← htot] at lp
  have et : tot = cN (m - f) f (fun x => if x f = true then gh x else gl x) := by
    rw [cN_node hfm dl dh, cN_skip a3 a2 (pl - (f + 1)) (f + 1) (by omega), cN_skip b3 b2 (ph - (f + 1)) (f + 1) (by omega), ← a4, ← b4, htot]
    omega
  have st := set_dict hd (by omega) id (wayD f tot)
  have w : WayOk m N id f tot := fun g t T ht => by
    cases T with
    | zero => omega
    | one => omega
    | node j f' l' h' _ gl' gh' e2 h1 hf h3 h4 d1 d2 =>
      rw [Nat.add_sub_cancel, e2] at en
      cases en
      rw [← d1.uniq dl, ← d2.uniq dh] at et
      exact ⟨h1, by omega, .node j f l h f gl' gh' e2 (Nat.le_refl _) hf h3 h4 d1 d2, et⟩
  have tk : sids.take (i + 1) = sids.take i ++ [id] := by rw [List.take_succ, hid]; rfl
  have e6 : S'.set S.length (.dK (putA (ikey id) (wayD f tot) kvs)) = S ++ Ob.dK (putA (ikey id) (wayD f tot) kvs) :: rest := by rw [hS']; simp
  rw [e6] at st
  refine ⟨_, S ++ Ob.dK (putA (ikey id) (wayD f tot) kvs) :: rest, ?_, putA (ikey id) (wayD f tot) kvs, rest, some (.int id), some (.int f), some (.int l), some (.int h), some (.int tot), some (.int ph), some (.int kh), rfl, rfl, ?_, ?_, ?_, ?_⟩
  · have t2 : ∀ S, newTup [.int (f : Nat), .int (tot : Nat)] S = .ok (wayD f tot) S := fun S => tup2 _ _
    have t3 : ∀ S, newTup [wayD pl kl', wayD ph kh] S = .ok (.tup [wayD pl kl', wayD ph kh]) S := fun S => tup2 _ _
    have lp : loopF (.fix [wayD pl kl', wayD ph kh]) (turnF G n (evQ G n oldF (d + 1)) (mkQ G n oldF (d + 1)) (.tup (.cons (.var 9) (.cons (.var 10) .nil))) coIn) n 0 [some (.ref o), some (.int at_), some (.int m), some (.ref S.length), some (.int id), some (.int f), some (.int l), some (.int h), some (.int 0), s9, s10] S' = .nx [some (.ref o), some (.int at_), some (.int m), some (.ref S.length), some (.int id), some (.int f), some (.int l), some (.int h), some (.int tot), some (.int ph), some (.int kh)] S' := lp
    simp only [coIn, coBody, c_counted] at lp
    simp -implicitDefEqProofs [turnF, coBody, c_counted, nn, sg, asSeq_node, sl, sh, t3, walkOf, lp, t2, st]
  · rw [hS'] at hl
    obtain ⟨j, rfl⟩ : ∃ j, L = S.length + (j + 1) := ⟨L - S.length - 1, by omega⟩
    rw [app_at] at hl ⊢
    simpa using hl
  · rw [tk]; exact wo.put w
  · have := put_length (ikey id) (wayD f tot) kvs
    omega
  · intro p hp
    unfold putA at hp
    by_cases c : hasA (ikey id) kvs = true
    · rw [if_pos c] at hp
      have : ∀ l : List (Key × Pv.D), (∀ p ∈ l, ∃ a b : Nat, p.2 = wayD a b) → ∀ p ∈ repA (ikey id) (wayD f tot) l, ∃ a b : Nat, p.2 = wayD a b := fun l => by
        induction l with
        | nil => intro _ p hp; cases hp
        | cons q l ih =>
          intro h p hp
          unfold repA at hp
          rcases List.mem_cons.mp hp with e | e
          · by_cases z : q.1 = ikey id
            · rw [if_pos z] at e; subst e; exact ⟨f, tot, rfl⟩
            · rw [if_neg z] at e; subst e; exact h _ List.mem_cons_self
          · exact ih (fun p hp => h p (List.mem_cons_of_mem _ hp)) p e
      exact this kvs kf p hp
    · rw [if_neg c] at hp
      rcases List.mem_append.mp hp with e | e
      · exact kf p e
      · have : p = (ikey id, wayD f tot) := by simpa using e
        subst this
        exact ⟨f, tot, rfl⟩
end
end K74
end

section
set_option autoImplicit false
set_option linter.all false
set_option maxHeartbeats 4000000
set_option maxRecDepth 60000
/-! X12: counts. -/
namespace K74
open Pv Dia Lc
open PySem (Str)
open L2 (Key)
/-- the store has grown, what was there is as it was -/
theorem gc_ext {S S' : Sto} {x : Pv.D} (h : S.length ≤ S'.length) (h2 : ∀ i, i < S.length → S'[i]? = S[i]?) (hx : newD S.length x = []) : gc S (.ok x S') = .ok x S := by
  rw [gc_chg hx ⟨h, fun i hi => .inl (h2 i hi)⟩]
  congr 1
  apply List.ext_getElem?
  intro i
  rw [List.getElem?_take]
  by_cases c : i < S.length
  · rw [if_pos c, h2 i c]
  · rw [if_neg c]
    symm
    rw [List.getElem?_eq_none_iff]; omega
theorem gc_raw {S S' : Sto} {x : Pv.D} (h : ¬ OldOk S S') : gc S (.ok x S') = .ok x S' := by
  unfold gc
  simp only
  rw [if_neg fun c => h c.1]
section
variable {G : Prog} [LibD G] {n d m : Nat} {S : Sto} {o a b c bo : Nat} {N : Nds} {K P : List (List Key × Pv.D)} {sides : List Bool} {gs : List Gate} {wish : Nat}
def way0 (m : Nat) : List (Key × Pv.D) := [(Sum.inl 0, wayD m 0), (Sum.inl 1, wayD m 1)]
theorem counted_q (hS : Ok m S o a b c N K P) (hm : m ≤ 20) (hN : N.length ≤ 190000) (hn : 3000000 ≤ n) {at_ : Nat} {g : Fun} (T : Dia.Den m N at_ g 0) : Q G n (d + 2) 17 [.ref o, .int at_, .int m] S = .ok (.int (cN m 0 g : Nat)) S := by
  obtain ⟨S1, hS1⟩ : ∃ S1, S1 = S ++ [Ob.dK (way0 m)] := ⟨_, rfl⟩
  have ok1 : Ok m S1 o a b c N K P := hS.grow ⟨_, hS1⟩
  obtain ⟨ids, W, ew⟩ := within_q (G := G) (n := n) (d := d) ok1 (by omega) (by omega) (at_ := at_) ⟨g, 0, T⟩
  obtain ⟨S2, hS2⟩ : ∃ S2, S2 = S1 ++ [Ob.lst (natD ids)] := ⟨_, rfl⟩
  rw [← hS2] at ew
  have so := sorted_nat (S := S2) (k := S1.length) (ids := ids) (by rw [hS2]; simp)
  obtain ⟨S3, hS3⟩ : ∃ S3, S3 = S2 ++ [Ob.lst (natD (sortN ids))] := ⟨_, rfl⟩
  rw [← hS3] at so
  have e3 : S3 = S ++ Ob.dK (way0 m) :: [Ob.lst (natD ids), Ob.lst (natD (sortN ids))] := by rw [hS3, hS2, hS1]; simp
  have L2 : S2.length = S.length + 2 := by rw [hS2, hS1]; simp
  have l3 : S3[S2.length]? = some (.lst (natD (sortN ids))) := by rw [hS3]; simp
  have wl : walkOf (.ref S2.length) S3 = .ok (.lst S2.length) S3 := by simp only [walkOf, l3]
  have slen : (sortN ids).length ≤ 2 ^ m - 1 := by rw [sortN_length]; exact W.len
  have le : 2 ^ m ≤ 2 ^ 20 := Nat.pow_le_pow_right (by omega) hm
  have slen2 : (sortN ids).length ≤ N.length := by
    rw [sortN_length]
    exact nodup_lt W.nd fun x hx => ⟨(W.f2 x hx).1, (W.f2 x hx).2.lt⟩
  obtain ⟨σ', S', e, kvs, rest, s4, s5, s6, s7, s8, s9, s10, hσ, hS', hl, wo, kl, kf⟩ := loopF_lst (n := S2.length) (xs := natD (sortN ids)) (body := turnF G n (evQ G n oldF (d + 1)) (mkQ G n oldF (d + 1)) (.var 4) coBody) (CoP m S o at_ S2.length N (sortN ids))
    (w := n) (σ := [some (.ref o), some (.int at_), some (.int m), some (.ref S.length), none, none, none, none, none, none, none]) (S := S3) (by unfold natD; rw [List.length_map]; omega)
    ⟨way0 m, _, none, none, none, none, none, none, none, rfl, e3, l3, fun i hi => by
      rcases hi with hi | hi
      · have : i = 0 ∨ i = 1 := by omega
        rcases this with q | q
        · subst q; exact ⟨m, 0, rfl, WayOk.zero⟩
        · subst q; exact ⟨m, 1, rfl, WayOk.one⟩
      · simp at hi, by simp [way0], fun p hp => by
      simp [way0] at hp
      rcases hp with hp | hp
      · exact ⟨m, 0, by rw [hp]⟩
      · exact ⟨m, 1, by rw [hp]⟩⟩
    (fun i σ S' h => by obtain ⟨_, _, _, _, _, _, _, _, _, _, _, h6, _⟩ := h; exact h6)
    (fun i x σ S' hx hp => by
      unfold natD at hx
      rw [List.getElem?_map] at hx
      cases ei : (sortN ids)[i]? with
      | none => rw [ei] at hx; cases hx
      | some id =>
        rw [ei] at hx
        have hx : Pv.D.int id = x := Option.some.inj hx
        subst hx
        obtain ⟨σ2, S2', e, p⟩ := co_turn (G := G) (n := n) (d := d) hS (by omega) (by omega) hm ei (sortN_asc ids W.nd) (fun x hx => W.f2 x ((mem_sortN x ids).mp hx)) (fun x hx f l h e => by
          obtain ⟨a1, a2⟩ := W.cl x ((mem_sortN x ids).mp hx) f l h e
          exact ⟨fun q => (mem_sortN l ids).mpr (a1 q), fun q => (mem_sortN h ids).mpr (a2 q)⟩) (by omega) hp
        exact ⟨σ2, S2', .inl e, p⟩)
  have nl : (natD (sortN ids)).length = (sortN ids).length := by unfold natD; rw [List.length_map]
  rw [nl, List.take_length] at wo
  subst hσ
  obtain ⟨p, k, ek, w⟩ := wo at_ (by
    by_cases q : at_ < 2
    · exact .inl q
    · exact .inr ((mem_sortN at_ ids).mpr (W.top (by omega))))
  obtain ⟨c1, c2, c3, c4⟩ := w g 0 T (by omega)
  have hd : S'[S.length]? = some (.dK kvs) := by rw [hS']; simp
  have sb := sub_dict hd ek
  have sk := cN_skip c3 c2 p 0 (by omega)
  rw [Nat.sub_zero, ← c4] at sk
  have lp : 2 ^ p ≤ 2 ^ 20 := Nat.pow_le_pow_right (by omega) (by omega)
  have cast : ((2 ^ p : Nat) : Int) = 2 ^ p := by simp
  have sh := shifted_q (G := G) (n := n) (d := d) (S := S') p (by omega)
  rw [← cast] at sh
  obtain ⟨q, hq⟩ : ∃ q, q = 2 ^ p := ⟨_, rfl⟩
  rw [← hq] at lp sk sh
  have mu : ∀ S, binop .mul (.int (k : Nat)) (.int (q : Nat)) S = .ok (.int (cN m 0 g : Nat)) S := fun S => by
    rw [mul_r _ _ (by omega), sk]
    congr 2
  have g0 : ∀ S, subscr (wayD p k) (.int 0) S = .ok (.int p) S := fun S => by simp [subscr, wayD]
  have g1 : ∀ S, subscr (wayD p k) (.int 1) S = .ok (.int k) S := fun S => by simp [subscr, wayD]
  have dk : ∀ call mk σ, σ[2]? = some (some (.int m)) → evE G n call mk (.dict false (.cons (.con (.int 0)) (.cons (.tup (.cons (.var 2) (.cons (.con (.int 0)) .nil))) (.cons (.con (.int 1)) (.cons (.tup (.cons (.var 2) (.cons (.con (.int 1)) .nil))) .nil))))) σ S = .ok (.ref S.length) S1 := fun call mk σ hσ => by
    have e : putA (Sum.inl 1 : Key) (Pv.D.tup [.int m, .int 1]) (putA (Sum.inl 0) (.tup [.int m, .int 0]) []) = way0 m := by
      simp [putA, hasA, way0, wayD]
    rw [hS1]
    simp [keyOf, e, hσ, tup2]
  rw [Q, evQ_open (fn := ⟨3, 11, c_counted⟩) (by decide) (LibD.fn 17 (by decide)) rfl]
  have fin : gc S (.ok (.int (cN m 0 g : Nat)) S') = .ok (.int (cN m 0 g : Nat)) S := by rw [hS']; exact gc_app rfl
  rw [← fin]
  have ins := ok1.ins
  simp only [coBody, c_counted] at e
  simp -implicitDefEqProofs [c_counted, startD, dk, ins, ms7, lookA, ew, so, wl, e, sb, g0, g1, sh, mu, -evE_dict]
/-- new diagrams -/
def dia0 (k : Nat) : Sto := [Ob.ins 3 [(2, .ref (k + 1)), (6, .ref (k + 2)), (5, .ref (k + 3))], Ob.lst [.non, .non], Ob.dT [], Ob.dT []]
theorem dia0_ok (m : Nat) : Ok m (S ++ dia0 S.length) S.length (S.length + 1) (S.length + 2) (S.length + 3) [] [] [] := by
  refine ⟨by simp [dia0], by simp [dia0, nodesD], by simp [dia0], by simp [dia0], by omega, fun k v e => (nomatch e), fun k v e => (nomatch e), Nat.le_refl _, fun q hq => (nomatch hq), fun q hq => (nomatch hq)⟩
theorem init3 : G.init 3 = some 16 := LibD.init (3, 16) (by decide)
theorem dfl3 (f : Nat) (h : (3, f) ∈ dFlds) : G.flds 3 f = true := LibD.flds (3, f) h
theorem dia_init : evQ G n oldF (d + 1) 16 [.ref S.length] (S ++ [Ob.ins 3 []]) = .ok .non (S ++ dia0 S.length) := by
  rw [evQ_open (fn := ⟨1, 1, c_Diagrams___init__⟩) (by decide) (LibD.fn 16 (by decide)) rfl]
  have f2 := dfl3 (G := G) 2 (by decide)
  have f6 := dfl3 (G := G) 6 (by decide)
  have f5 := dfl3 (G := G) 5 (by decide)
  have nl := newLst_ok (xs := [.non, .non]) (S := S ++ [Ob.ins 3 []]) (by simp)
  have lst : (S ++ [Ob.ins 3 []]).length = S.length + 1 := by simp
  rw [lst] at nl
  have ev : (evB G n (evQ G n oldF d) (mkQ G n oldF d) c_Diagrams___init__ (startD 1 [.ref S.length]) (S ++ [Ob.ins 3 []])).out = .ok .non (S ++ dia0 S.length) := by
    simp -implicitDefEqProofs [c_Diagrams___init__, startD, nl, setattr, f2, f6, f5, putN, alloc, dia0]
  rw [ev]
  refine gc_raw fun h => ?_
  rcases h.2 S.length (by simp) with e | e
  · simp [dia0] at e
  · simp [dia0, newD_ref] at e
theorem dia_new (σ : Sl) : evE G n (evQ G n oldF (d + 2)) (mkQ G n oldF (d + 2)) (.make 3 .nil) σ S = .ok (.ref S.length) (S ++ dia0 S.length) := by
  have e := dia_init (G := G) (n := n) (d := d) (S := S)
  have mk : mkQ G n oldF (d + 2) = evQ G n oldF (d + 1) := rfl
  simp -implicitDefEqProofs [init3, mk, e]
end
end K74
end

section
set_option autoImplicit false
set_option linter.all false
set_option maxHeartbeats 4000000
set_option maxRecDepth 60000
/-! X13: plays_won, good_begun. -/
namespace K74
open Pv Dia Lc
open PySem (Str)
open L2 (Key)
/-- good_begun, good_moves, winner_behind, begun_asked -/
def kFns : List Nat := [3, 5, 7, 14]
class LibK (G : Prog) : Prop where
  fn : ∀ f ∈ kFns, G.fn f = Lc.fn f
  exc : G.field 1 = some none
section
variable {G : Prog} [LibD G] {n d m : Nat} {S : Sto} {o a b c bo : Nat} {N : Nds} {K P : List (List Key × Pv.D)} {sides : List Bool} {gs : List Gate} {wish : Nat}
theorem BookAt.app (h : BookAt S bo sides gs wish) (l : Sto) : BookAt (S ++ l) bo sides gs wish := app_old h
theorem cN_book (gs : List Gate) (wish m : Nat) : cN m 0 (bookF m gs wish) = ((allPlays m).filter (wonB gs wish)).length := by
  have : bookF m gs wish = fun x => wonB gs wish ((List.range m).map x) := by
    funext x
    exact bookF_won m gs wish x
  rw [this, cN_all]
/-- new diagrams that grow: nothing that was there changes -/
theorem new_ext {S' : Sto} (h : Chg [S.length + 1, S.length + 2, S.length + 3] (S ++ dia0 S.length) S') : S.length ≤ S'.length ∧ ∀ i, i < S.length → S'[i]? = S[i]? := by
  have h1 := h.1
  simp at h1
  refine ⟨by omega, fun i hi => ?_⟩
  rw [h.2 i (by simp; omega) (by simp; omega), List.getElem?_append_left hi]
theorem plays_won_q (hb : BookAt S bo sides gs wish) (hl : sides.length = m) (hg : GatesOk m gs wish) (hm : m ≤ 7) (hn : 3000000 ≤ n) : Q G n (d + 9) 8 [.ref bo] S = .ok (.int (((allPlays m).filter (wonB gs wish)).length : Nat)) S := by
  have ok0 := dia0_ok (S := S) m
  obtain ⟨S1, hS1⟩ : ∃ S1, S1 = S ++ dia0 S.length := ⟨_, rfl⟩
  have dn := fun σ => dia_new (G := G) (n := n) (d := d + 6) (S := S) σ
  rw [← hS1] at ok0 dn
  have hb1 : BookAt S1 bo sides gs wish := by rw [hS1]; exact hb.app _
  obtain ⟨S2, r, e2, xx, K2, P2, q0, q1, q2, q3, q4⟩ := book_diagram_q (G := G) (n := n) (d := d) ok0 hb1 hl hg (by omega) hm (by simp) (by simp)
  have ch : Chg [S.length + 1, S.length + 2, S.length + 3] S1 S2 := by rw [q0]; exact wr_chg
  have hb2 := (hb1.chg ch (hb1.ne ok0)).gMany (G := G)
  have ct := counted_q (G := G) (n := n) (d := d + 6) q1 (by omega) (by simp; omega) hn q4
  rw [cN_book] at ct
  rw [hl] at hb2
  rw [hS1] at ch
  obtain ⟨x1, x2⟩ := new_ext ch
  rw [Q, evQ_open (fn := ⟨1, 2, c_plays_won⟩) (by decide) (LibD.fn 8 (by decide)) rfl]
  have fin : gc S (.ok (.int (((allPlays m).filter (wonB gs wish)).length : Nat)) S2) = .ok (.int (((allPlays m).filter (wonB gs wish)).length : Nat)) S := gc_ext x1 x2 rfl
  rw [← fin]
  simp -implicitDefEqProofs [c_plays_won, startD, dn, e2, hb2, ct, -evE_make]
theorem enum_lst {k : Nat} {rs : List Nat} (h : S[k]? = some (.lst (natD rs))) : ∀ i (ob : Ob), (IS.enumL k).at i (S ++ [ob]) = some ((List.range rs.length).map fun j : Nat => Pv.D.tup [.int j, .int ((rs[j]?).getD 0 : Nat)])[i]? := fun i ob => by
  simp only [IS.at, app_old h]
  by_cases c : i < rs.length
  · have e1 : (natD rs)[i]? = some (.int (rs[i] : Nat)) := by unfold natD; simp [c]
    have e2 : rs[i]? = some rs[i] := by simp [c]
    rw [e1]
    simp [c, e2]
  · have e1 : (natD rs)[i]? = none := by unfold natD; simp; omega
    have e2 : (List.range rs.length)[i]? = none := by rw [List.getElem?_eq_none_iff, List.length_range]; omega
    rw [e1, List.getElem?_map, e2]
    rfl
theorem good_begun_q [LibK G] (hb : BookAt S bo sides gs wish) (hl : sides.length = m) (hg : GatesOk m gs wish) (hm : m ≤ 7) (hn : 3000000 ≤ n) :
    Q G n (d + 10) 7 [.ref bo] S = .ok (.tup ((List.range (m + 1)).map fun j => .int (((layerB (wonB gs wish) sides j).filter id).length : Nat))) S := by
  have ok0 := dia0_ok (S := S) m
  obtain ⟨S1, hS1⟩ : ∃ S1, S1 = S ++ dia0 S.length := ⟨_, rfl⟩
  have dn := fun σ => dia_new (G := G) (n := n) (d := d + 7) (S := S) σ
  rw [← hS1] at ok0 dn
  have hb1 : BookAt S1 bo sides gs wish := by rw [hS1]; exact hb.app _
  obtain ⟨S2, xx, K2, P2, rs, e2, q0, q1, q2, q3, q4⟩ := layers_of_q (G := G) (n := n) (d := d) ok0 hb1 hl hg (by omega) hm (by simp) (by simp)
  have ch : Chg [S.length + 1, S.length + 2, S.length + 3] S1 S2 := by rw [q0]; exact wr_chg
  have len2 : S2.length = S1.length := by rw [q0]; exact wr_length
  obtain ⟨S3, hS3⟩ : ∃ S3, S3 = S2 ++ [Ob.lst (natD rs)] := ⟨_, rfl⟩
  rw [← hS3] at e2
  have ok3 : Ok m S3 S.length (S.length + 1) (S.length + 2) (S.length + 3) ([] ++ xx) K2 P2 := q1.grow ⟨_, hS3⟩
  have l3 : S3[S1.length]? = some (.lst (natD rs)) := by rw [hS3, ← len2]; simp
  have eo : enumOf (.ref S1.length) S3 = .ok (.enumL S1.length) S3 := by simp only [enumOf, l3]
  have co := comp_m (S := S3) (src := .enumL S1.length) (n := n) (ys := List.range rs.length) (e := fun j : Nat => Pv.D.tup [.int j, .int ((rs[j]?).getD 0 : Nat)]) (turn := turnE G n (evQ G n oldF (d + 9)) (mkQ G n oldF (d + 9)) (.call 17 (.cons (.var 1) (.cons (.var 4) (.cons (.var 3) .nil)))) (.tup (.cons (.var 3) (.cons (.var 4) .nil))) .nil [3, 4] [some (.ref bo), some (.ref S.length), some (.ref S1.length), none, none])
    (fun j => .int (((layerB (wonB gs wish) sides j).filter id).length : Nat)) (enum_lst l3) (by simp; have := q4.1; omega) (by simp; have := q4.1; omega) fun j hj ob => by
      have hj : j < rs.length := by simpa using hj
      have ej : rs[j]? = some rs[j] := by simp [hj]
      have T := q4.2 j rs[j] ej
      have hjm : j ≤ m := by have := q4.1; omega
      have ct := counted_q (G := G) (n := n) (d := d + 7) (S := S3 ++ [ob]) (m := j) ((ok3.grow (Grow.snoc _ ob)).any j) (by omega) (by simp; omega) hn T
      rw [cN_all (fun p => winB (wonB gs wish) p (sides.drop j))] at ct
      have el : ((allPlays j).filter fun p => winB (wonB gs wish) p (sides.drop j)).length = ((layerB (wonB gs wish) sides j).filter id).length := by
        unfold layerB
        rw [List.filter_map, List.length_map]
        rfl
      rw [el] at ct
      rw [ej]
      have sq : ∀ S, asSeq S (.tup [.int (j : Nat), .int (rs[j] : Nat)]) = some [.int (j : Nat), .int (rs[j] : Nat)] := fun S => rfl
      simp -implicitDefEqProofs [turnE, wipeD, sq, ct]
  rw [q4.1] at co
  obtain ⟨xs, hxs⟩ : ∃ xs, xs = (List.range (m + 1)).map fun j => Pv.D.int (((layerB (wonB gs wish) sides j).filter id).length : Nat) := ⟨_, rfl⟩
  rw [← hxs] at co ⊢
  have tp := tuple_lst (S := S3 ++ [Ob.lst xs]) (k := S3.length) (xs := xs) (by simp)
  obtain ⟨S4, hS4⟩ : ∃ S4, S4 = S3 ++ [Ob.lst xs] := ⟨_, rfl⟩
  rw [← hS4] at co tp
  have ch4 : Chg [S.length + 1, S.length + 2, S.length + 3] S1 S4 := ch.trans (Chg.of ⟨[Ob.lst (natD rs), Ob.lst xs], by rw [hS4, hS3]; simp⟩)
  rw [hS1] at ch4
  obtain ⟨x1, x2⟩ := new_ext ch4
  have fx : newD S.length (.tup xs) = [] := by rw [hxs]; exact newL_map (fun _ => rfl) _
  rw [Q, evQ_open (fn := ⟨1, 5, c_good_begun⟩) (by decide) (LibK.fn 7 (by decide)) rfl]
  have fin : gc S (.ok (.tup xs) S4) = .ok (.tup xs) S := gc_ext x1 x2 fx
  rw [← fin]
  simp -implicitDefEqProofs [c_good_begun, startD, dn, e2, eo, co, tp, -evE_make]
end
end K74
end

section
set_option autoImplicit false
set_option linter.all false
set_option maxHeartbeats 4000000
set_option maxRecDepth 60000
/-! X14: winner_behind, good_moves. -/
namespace K74
open Pv Dia Lc
open PySem (Str)
open L2 (Key)
def asgP (p : List Bool) : Nat → Bool := fun f => (p[f]?).getD false
theorem range_asg (p : List Bool) : (List.range p.length).map (asgP p) = p := by
  apply List.ext_getElem
  · simp
  · intro i h1 h2
    have : i < p.length := h2
    simp [asgP, this]
def wbBody : C := match c_winner_behind with
  | .cons _ (.cons _ (.cons _ (.cons (.whl _ b) _))) => b
  | _ => .nil
/-- what tells no first flags -/
inductive BadBegun (S : Sto) (m : Nat) : Pv.D → Prop
  | lst (k : Nat) (xs : List Pv.D) (h : S[k]? = some (.lst xs)) : BadBegun S m (.ref k)
  | tup (xs : List Pv.D) (h : xs.all isBl = false) (hl : xs.length < 1000) : BadBegun S m (.tup xs)
  | long (p : List Bool) (h : m < p.length) (hl : p.length < 1000) : BadBegun S m (bitsD p)
  | non : BadBegun S m .non
  | str (x : Str) : BadBegun S m (.str x)
section
variable {G : Prog} [LibD G] {n d m : Nat} {S : Sto} {o a b c bo : Nat} {N : Nds} {K P : List (List Key × Pv.D)} {sides : List Bool} {gs : List Gate} {wish : Nat}
theorem tyIs_bool {x : Pv.D} {S : Sto} (h : ∀ k, x ≠ .ref k) (h2 : ∀ xs, x ≠ .ktup xs) (h3 : ∀ xs, x ≠ .klst xs) : tyIs S x .bool = some (isBl x) := by
  cases x with
  | ref k => exact absurd rfl (h k)
  | ktup xs => exact absurd rfl (h2 xs)
  | klst xs => exact absurd rfl (h3 xs)
  | _ => rfl
/-- no mutable things, no constants of the top -/
def plainD : Pv.D → Bool
  | .ref _ => false
  | .ktup _ => false
  | .klst _ => false
  | _ => true
theorem are_flags_tup {xs : List Pv.D} (hp : ∀ x ∈ xs, plainD x = true) (hl : xs.length < 4000) (hn : 5000 ≤ n) : Q G n (d + 1) 23 [.tup xs] S = .ok (.bl (xs.all isBl)) S := by
  have co := comp_m (S := S) (src := .fix xs) (n := n) (ys := xs) (e := id) (turn := turnE G n (evQ G n oldF d) (mkQ G n oldF d) (.isi (.var 1) .bool) (.var 1) .nil [1] [some (.tup xs), none])
    (fun x => .bl (isBl x)) (fun i ob => by simp [IS.at]) (by omega) (by omega) fun x hx ob => by
      have := tyIs_bool (x := x) (S := S ++ [ob]) (fun k e => by have := hp x hx; rw [e] at this; cases this) (fun k e => by have := hp x hx; rw [e] at this; cases this) (fun k e => by have := hp x hx; rw [e] at this; cases this)
      simp -implicitDefEqProofs [turnE, wipeD, this]
  have al : builtin .all [.ref S.length] (S ++ [Ob.lst (xs.map fun x => .bl (isBl x))]) = .ok (.bl (xs.all isBl)) (S ++ [Ob.lst (xs.map fun x => .bl (isBl x))]) := by
    have : (xs.map isBl).all id = xs.all isBl := by rw [List.all_map]; rfl
    simp only [builtin, app_at0, boolsOf_map, this]
  have tt : tyIs S (.tup xs) .tuple = some true := rfl
  obtain ⟨S1, hS1⟩ : ∃ S1, S1 = S ++ [Ob.lst (xs.map fun x => .bl (isBl x))] := ⟨_, rfl⟩
  rw [← hS1] at co al
  have fin : gc S (.ok (.bl (xs.all isBl)) S1) = .ok (.bl (xs.all isBl)) S := by rw [hS1]; exact gc_app rfl
  rw [Q, evQ_open (fn := ⟨1, 2, c_are_flags⟩) (by decide) (LibD.fn 23 (by decide)) rfl, ← fin]
  simp -implicitDefEqProofs [c_are_flags, startD, tt, walkOf, co, al]
theorem are_flags_no {x : Pv.D} (h : tyIs S x .tuple = some false) : Q G n (d + 1) 23 [x] S = .ok (.bl false) S := by
  rw [Q, evQ_open (fn := ⟨1, 2, c_are_flags⟩) (by decide) (LibD.fn 23 (by decide)) rfl]
  simp -implicitDefEqProofs [c_are_flags, startD, h]
  exact gc_same rfl
theorem are_flags_bits (p : List Bool) (hl : p.length < 4000) (hn : 5000 ≤ n) : Q G n (d + 1) 23 [bitsD p] S = .ok (.bl true) S := by
  have e := are_flags_tup (G := G) (n := n) (d := d) (S := S) (xs := p.map Pv.D.bl) (fun x hx => by obtain ⟨b, _, rfl⟩ := List.mem_map.mp hx; rfl) (by simpa using hl) hn
  have : (p.map Pv.D.bl).all isBl = true := by
    rw [List.all_map, List.all_eq_true]
    intro b _; rfl
  rw [this] at e
  exact e
variable [LibK G]
theorem begun_ok (hb : BookAt S bo sides gs wish) (p : List Bool) (hp : p.length ≤ sides.length) (hl : p.length < 4000) (hn : 5000 ≤ n) : Q G n (d + 2) 14 [.ref bo, bitsD p] S = .ok .non S := by
  have af := are_flags_bits (G := G) (n := n) (d := d) (S := S) p hl hn
  have bm := hb.gMany (G := G)
  have ln : builtin .len [bitsD p] S = .ok (.int p.length) S := by simp [builtin, bitsD]
  have gt : cmpop .gt (.int p.length) (.int sides.length) S = .ok (.bl false) S := by
    show R.ok (Pv.D.bl (decide ((sides.length : Int) < p.length))) S = _
    rw [decide_eq_false (by omega)]
  rw [Q, evQ_open (fn := ⟨2, 2, c_begun_asked⟩) (by decide) (LibK.fn 14 (by decide)) rfl]
  simp -implicitDefEqProofs [c_begun_asked, startD, af, ln, bm, gt]
  exact gc_same rfl
theorem raise_ev (hG : G.field 1 = some none) (w : Nat) (call mk : Call) (σ : Sl) (S : Sto) : evS G w call mk (.raise 1 .nil) σ S = .exc σ ⟨1, []⟩ S := by
  show (match G.field 1, C.nil with
    | some none, .nil => F.exc σ ⟨1, []⟩ S
    | _, _ => .bad) = _
  rw [hG]
theorem begun_bad (hb : BookAt S bo sides gs wish) {x : Pv.D} (hx : BadBegun S sides.length x) (hx2 : ∀ xs, x = .tup xs → ∀ y ∈ xs, plainD y = true) (hn : 5000 ≤ n) : Q G n (d + 2) 14 [.ref bo, x] S = .exc ⟨1, []⟩ S := by
  have bm := hb.gMany (G := G)
  have rs := fun call mk σ => raise_ev (G := G) LibK.exc n call mk σ S
  have fin : gc S (.exc ⟨1, []⟩ S) = .exc ⟨1, []⟩ S := by
    have := gc_excA (S := S) (l := []) (c := 1)
    simpa using this
  rw [Q, evQ_open (fn := ⟨2, 2, c_begun_asked⟩) (by decide) (LibK.fn 14 (by decide)) rfl, ← fin]
  cases hx with
  | lst k xs h =>
    have af := are_flags_no (G := G) (n := n) (d := d) (S := S) (x := .ref k) (by simp [tyIs, h])
    simp -implicitDefEqProofs [c_begun_asked, startD, af, rs]
  | tup xs h hl =>
    have af := are_flags_tup (G := G) (n := n) (d := d) (S := S) (xs := xs) (hx2 xs rfl) (by omega) hn
    rw [h] at af
    simp -implicitDefEqProofs [c_begun_asked, startD, af, rs]
  | long p h hl =>
    have af := are_flags_bits (G := G) (n := n) (d := d) (S := S) p (by omega) hn
    have ln : builtin .len [bitsD p] S = .ok (.int p.length) S := by simp [builtin, bitsD]
    have gt : cmpop .gt (.int p.length) (.int sides.length) S = .ok (.bl true) S := by
      show R.ok (Pv.D.bl (decide ((sides.length : Int) < p.length))) S = _
      rw [decide_eq_true (by omega)]
    simp -implicitDefEqProofs [c_begun_asked, startD, af, ln, bm, gt, rs]
  | non =>
    have af := are_flags_no (G := G) (n := n) (d := d) (S := S) (x := .non) rfl
    simp -implicitDefEqProofs [c_begun_asked, startD, af, rs]
  | str y =>
    have af := are_flags_no (G := G) (n := n) (d := d) (S := S) (x := .str y) rfl
    simp -implicitDefEqProofs [c_begun_asked, startD, af, rs]
theorem winner_behind_q (hb : BookAt S bo sides gs wish) (hl : sides.length = m) (hg : GatesOk m gs wish) (hm : m ≤ 7) (hn : 3000000 ≤ n) (p : List Bool) (hp : p.length ≤ m) :
    Q G n (d + 10) 5 [.ref bo, bitsD p] S = .ok (.bl (winB (wonB gs wish) p (sides.drop p.length))) S := by
  have ok0 := dia0_ok (S := S) m
  have bk := begun_ok (G := G) (n := n) (d := d + 7) hb p (by omega) (by omega) (by omega)
  obtain ⟨S1, hS1⟩ : ∃ S1, S1 = S ++ dia0 S.length := ⟨_, rfl⟩
  have dn := fun σ => dia_new (G := G) (n := n) (d := d + 7) (S := S) σ
  rw [← hS1] at ok0 dn
  have hb1 : BookAt S1 bo sides gs wish := by rw [hS1]; exact hb.app _
  obtain ⟨S2, xx, K2, P2, rs, e2, q0, q1, q2, q3, q4⟩ := layers_of_q (G := G) (n := n) (d := d) ok0 hb1 hl hg (by omega) hm (by simp) (by simp)
  have ch : Chg [S.length + 1, S.length + 2, S.length + 3] S1 S2 := by rw [q0]; exact wr_chg
  have len2 : S2.length = S1.length := by rw [q0]; exact wr_length
  obtain ⟨S3, hS3⟩ : ∃ S3, S3 = S2 ++ [Ob.lst (natD rs)] := ⟨_, rfl⟩
  rw [← hS3] at e2
  have ok3 : Ok m S3 S.length (S.length + 1) (S.length + 2) (S.length + 3) ([] ++ xx) K2 P2 := q1.grow ⟨_, hS3⟩
  have l3 : S3[S1.length]? = some (.lst (natD rs)) := by rw [hS3, ← len2]; simp
  have hjr : p.length < rs.length := by have := q4.1; omega
  have ej : rs[p.length]? = some rs[p.length] := by simp [hjr]
  have T := q4.2 p.length _ ej
  have sb : subscr (.ref S1.length) (.int p.length) S3 = .ok (.int (rs[p.length] : Nat)) S3 := sub_lst l3 (i := p.length) (by unfold natD; rw [List.getElem?_map, ej]; rfl)
  have ln : ∀ S, builtin .len [bitsD p] S = .ok (.int p.length) S := fun S => by simp [builtin, bitsD]
  obtain ⟨val, hval⟩ : ∃ v, v = winB (wonB gs wish) p (sides.drop p.length) := ⟨_, rfl⟩
  have top : (fun x => winB (wonB gs wish) ((List.range p.length).map x) (sides.drop p.length)) (asgP p) = val := by
    show winB (wonB gs wish) ((List.range p.length).map (asgP p)) (sides.drop p.length) = val
    rw [range_asg, hval]
  have nn := ok3.nodes (G := G)
  obtain ⟨σ', S', e, at_, g, t, s4, s5, s6, hσ, hS', T', hv, lt⟩ := loopW_nx (t := evT G n (evQ G n oldF (d + 9)) (mkQ G n oldF (d + 9)) (.cmp .gt (.var 3) (.con (.int 1)))) (body := evB G n (evQ G n oldF (d + 9)) (mkQ G n oldF (d + 9)) wbBody)
    (fun μ σ S' => ∃ at_ g t s4 s5 s6, σ = [some (.ref bo), some (bitsD p), some (.ref S.length), some (.int (at_ : Nat)), s4, s5, s6] ∧ S' = S3 ∧ Dia.Den p.length ([] ++ xx) at_ g t ∧ g (asgP p) = val ∧ μ = at_)
    (fun σ S' => ∃ at_ g t s4 s5 s6, σ = [some (.ref bo), some (bitsD p), some (.ref S.length), some (.int (at_ : Nat)), s4, s5, s6] ∧ S' = S3 ∧ Dia.Den p.length ([] ++ xx) at_ g t ∧ g (asgP p) = val ∧ at_ < 2)
    (fun μ σ S' ⟨at_, g, t, s4, s5, s6, hσ, hS', T, hv, hμ⟩ => by
      subst hσ; subst hμ
      rw [hS']
      by_cases c : μ < 2
      · have gt : cmpop .gt (.int (μ : Nat)) (.int 1) S3 = .ok (.bl false) S3 := by
          show R.ok (Pv.D.bl (decide ((1 : Int) < μ))) S3 = _
          rw [decide_eq_false (by omega)]
        exact .inl ⟨S3, by simp -implicitDefEqProofs [gt], μ, g, t, s4, s5, s6, rfl, rfl, T, hv, c⟩
      · have gt : cmpop .gt (.int (μ : Nat)) (.int 1) S3 = .ok (.bl true) S3 := by
          show R.ok (Pv.D.bl (decide ((1 : Int) < μ))) S3 = _
          rw [decide_eq_true (by omega)]
        cases T with
        | zero => omega
        | one => omega
        | node i f l h _ gl gh e1 h1 hf h3 h4 d1 d2 =>
          have sg := node_get ok3.nds e1
          have ef : p[f]? = some p[f] := by simp [hf]
          have sp : subscr (bitsD p) (.int (f : Nat)) S3 = .ok (.bl p[f]) S3 := by
            have := getAt_map Pv.D.bl p f ef
            simp only [bitsD, subscr, this]
          have av : asgP p f = p[f] := by unfold asgP; rw [ef]; rfl
          simp only [av] at hv
          obtain ⟨V, hV⟩ : ∃ V, V = ((i + 2 : Nat) : Int) := ⟨_, rfl⟩
          rw [← hV] at gt sg
          refine .inr ⟨S3, by rw [← hV]; simp -implicitDefEqProofs [gt], [some (.ref bo), some (bitsD p), some (.ref S.length), some (.int ((if p[f] = true then h else l : Nat))), some (.int f), some (.int l), some (.int h)], S3, if p[f] = true then h else l, .inl ?_, by split <;> assumption, if p[f] = true then h else l, if p[f] = true then gh else gl, f + 1, _, _, _, rfl, rfl, by split <;> assumption, ?_, rfl⟩
          · rw [← hV]
            cases hp : p[f] <;> rw [hp] at sp <;> simp -implicitDefEqProofs [wbBody, c_winner_behind, nn, sg, asSeq_node, sp]
          · cases hp : p[f] <;> rw [hp] at hv <;> simpa using hv)
    n rs[p.length] [some (.ref bo), some (bitsD p), some (.ref S.length), some (.int (rs[p.length] : Nat)), none, none, none] S3 (by
      have := T.lt
      simp at this
      omega) ⟨_, _, 0, none, none, none, rfl, rfl, T, top, rfl⟩
  subst hσ
  rw [hS'] at e
  have fv : decide ((at_ : Int) = 1) = val := by
    cases T' with
    | zero => rw [← hv]; rfl
    | one => rw [← hv]; rfl
    | node => omega
  have eqv : cmpop .eq (.int (at_ : Nat)) (.int 1) S3 = .ok (.bl val) S3 := by
    rw [← fv]; rfl
  have ch4 : Chg [S.length + 1, S.length + 2, S.length + 3] S1 S3 := ch.trans (Chg.of ⟨_, hS3⟩)
  rw [hS1] at ch4
  obtain ⟨x1, x2⟩ := new_ext ch4
  rw [← hval, Q, evQ_open (fn := ⟨2, 7, c_winner_behind⟩) (by decide) (LibK.fn 5 (by decide)) rfl]
  have fin : gc S (.ok (.bl val) S3) = .ok (.bl val) S := gc_ext x1 x2 rfl
  rw [← fin]
  simp only [wbBody, c_winner_behind] at e
  simp -implicitDefEqProofs [c_winner_behind, startD, bk, dn, e2, ln, sb, e, eqv, -evE_make]
end
end K74
end

section
set_option autoImplicit false
set_option linter.all false
set_option maxHeartbeats 4000000
set_option maxRecDepth 60000
/-! X15: good_moves; a Book is made. -/
namespace K74
open Pv Dia Lc
open PySem (Str)
open L2 (Key)
/-- the values of the next flag by which its side wins -/
def goodMv (f : List Bool → Bool) (sides : List Bool) (p : List Bool) : List Bool := match sides[p.length]? with
  | none => []
  | some side => [false, true].filter fun v => winB f (p ++ [v]) (sides.drop (p.length + 1)) == side
section
variable {G : Prog} [LibD G] {n d m : Nat} {S : Sto} {bo : Nat} {sides : List Bool} {gs : List Gate} {wish : Nat}
theorem bl_eq (x y : Bool) (S : Sto) : cmpop .eq (.bl x) (.bl y) S = .ok (.bl (x == y)) S := rfl
theorem good_moves_q [LibK G] (hb : BookAt S bo sides gs wish) (hl : sides.length = m) (hg : GatesOk m gs wish) (hm : m ≤ 7) (hn : 3000000 ≤ n) (p : List Bool) (hp : p.length ≤ m) :
    Q G n (d + 11) 3 [.ref bo, bitsD p] S = .ok (bitsD (goodMv (wonB gs wish) sides p)) S := by
  have bk := begun_ok (G := G) (n := n) (d := d + 8) hb p (by omega) (by omega) (by omega)
  have bm := hb.gMany (G := G)
  have bs := hb.gSides (G := G)
  have ln : ∀ S, builtin .len [bitsD p] S = .ok (.int p.length) S := fun S => by simp [builtin, bitsD]
  rw [Q, evQ_open (fn := ⟨2, 4, c_good_moves⟩) (by decide) (LibK.fn 3 (by decide)) rfl]
  have t0 : ∀ S, newTup [] S = .ok (.tup []) S := fun S => by
    unfold newTup
    rw [if_pos (by simp)]
  by_cases c : p.length = sides.length
  · have eq : cmpop .eq (.int p.length) (.int sides.length) S = .ok (.bl true) S := by rw [c, int_eq]; simp
    have : goodMv (wonB gs wish) sides p = [] := by
      unfold goodMv
      have : sides[p.length]? = none := by rw [List.getElem?_eq_none_iff]; omega
      rw [this]
    rw [this]
    have fin : gc S (.ok (bitsD []) S) = .ok (bitsD []) S := gc_same (newD_bits _ _)
    rw [← fin]
    have e0 : bitsD [] = .tup [] := rfl
    simp -implicitDefEqProofs [c_good_moves, startD, bk, ln, bm, eq, t0, e0]
  · have hlt : p.length < sides.length := by omega
    have es : sides[p.length]? = some sides[p.length] := by simp [hlt]
    have eq : cmpop .eq (.int p.length) (.int sides.length) S = .ok (.bl false) S := by
      rw [int_eq, decide_eq_false (by omega)]
    have ss : subscr (bitsD sides) (.int p.length) S = .ok (.bl sides[p.length]) S := by
      have := getAt_map Pv.D.bl sides p.length es
      simp only [bitsD, subscr, this]
    have t2 : ∀ S, newTup [.bl false, .bl true] S = .ok (.tup [.bl false, .bl true]) S := fun S => tup2 _ _
    have wb : ∀ (v : Bool) (ob : Ob), evQ G n oldF (d + 10) 5 [.ref bo, bitsD (p ++ [v])] (S ++ [ob]) = .ok (.bl (winB (wonB gs wish) (p ++ [v]) (sides.drop (p.length + 1)))) (S ++ [ob]) := fun v ob => by
      have := winner_behind_q (G := G) (n := n) (d := d) (hb.app [ob]) hl hg hm hn (p ++ [v]) (by simp; omega)
      rw [List.length_append] at this
      exact this
    have tv : ∀ (v : Bool) (S : Sto), newTup (p.map Pv.D.bl ++ [.bl v]) S = .ok (bitsD (p ++ [v])) S := fun v S => by
      have sz : 16000000 ≤ PySem.sizeLine := by decide
      unfold newTup bitsD
      rw [if_pos (by simp; omega), List.map_append]
      rfl
    have sq : ∀ S, asSeq S (bitsD p) = some (p.map Pv.D.bl) := fun S => rfl
    have co := comp_f (S := S) (src := .fix [.bl false, .bl true]) (n := n) (xs := [.bl false, .bl true]) (turn := turnE G n (evQ G n oldF (d + 10)) (mkQ G n oldF (d + 10)) (.var 3) (.var 3) (.cons (.cmp .eq (.call 5 (.cons (.var 0) (.cons (.tup (.star (.var 1) (.cons (.var 3) .nil))) .nil))) (.var 2)) .nil) [3] [some (.ref bo), some (bitsD p), some (.bl sides[p.length]), none])
      (fun x => match x with | .bl v => (if (winB (wonB gs wish) (p ++ [v]) (sides.drop (p.length + 1)) == sides[p.length]) = true then some (.bl v) else none) | _ => none) (fun i ob => rfl) (by simp; omega) (by simp) fun x hx ob => by
        obtain ⟨v, rfl⟩ : ∃ v, x = .bl v := by
          simp at hx
          rcases hx with h | h
          · exact ⟨_, h⟩
          · exact ⟨_, h⟩
        have w := wb v ob
        have e := bl_eq (winB (wonB gs wish) (p ++ [v]) (sides.drop (p.length + 1))) sides[p.length] (S ++ [ob])
        simp only
        cases h : (winB (wonB gs wish) (p ++ [v]) (sides.drop (p.length + 1)) == sides[p.length]) <;> rw [h] at e <;> simp -implicitDefEqProofs [turnE, wipeD, sq, tv, w, e]
    have em : ([Pv.D.bl false, .bl true].filterMap fun x => match x with | .bl v => (if (winB (wonB gs wish) (p ++ [v]) (sides.drop (p.length + 1)) == sides[p.length]) = true then some (Pv.D.bl v) else none) | _ => none) = (goodMv (wonB gs wish) sides p).map Pv.D.bl := by
      unfold goodMv
      rw [es]
      simp only [List.filterMap_cons, List.filterMap_nil, List.filter_cons, List.filter_nil]
      cases (winB (wonB gs wish) (p ++ [false]) (sides.drop (p.length + 1)) == sides[p.length]) <;> cases (winB (wonB gs wish) (p ++ [true]) (sides.drop (p.length + 1)) == sides[p.length]) <;> rfl
    rw [em] at co
    obtain ⟨S1, hS1⟩ : ∃ S1, S1 = S ++ [Ob.lst ((goodMv (wonB gs wish) sides p).map Pv.D.bl)] := ⟨_, rfl⟩
    have tp := tuple_lst (S := S1) (k := S.length) (xs := (goodMv (wonB gs wish) sides p).map Pv.D.bl) (by rw [hS1]; simp)
    rw [← hS1] at co
    have fin : gc S (.ok (bitsD (goodMv (wonB gs wish) sides p)) S1) = .ok (bitsD (goodMv (wonB gs wish) sides p)) S := by rw [hS1]; exact gc_app (newD_bits _ _)
    rw [← fin]
    have eb : bitsD (goodMv (wonB gs wish) sides p) = .tup ((goodMv (wonB gs wish) sides p).map Pv.D.bl) := rfl
    rw [eb]
    simp -implicitDefEqProofs [c_good_moves, startD, bk, ln, bm, eq, bs, ss, t2, walkOf, co, tp]
/-! ### books -/
theorem below_q (xs : List Nat) (b : Nat) (h : ∀ x ∈ xs, x < b) (hl : xs.length < 5000) (hn : 5000 ≤ n) : Q G n (d + 3) 43 [.tup (natD xs), .int b] S = .ok (.bl true) S := by
  obtain ⟨S', e, g⟩ := are_below_ints (G := G) (n := n) (d := d) (S := S) hn (xs.map fun i : Nat => (i : Int)) b (by simpa using hl)
  have e1 : (xs.map fun i : Nat => (i : Int)).map Pv.D.int = natD xs := by unfold natD; rw [List.map_map]; rfl
  have e2 : ((xs.map fun i : Nat => (i : Int)).all fun i => decide (0 ≤ i) && decide (i < (b : Int))) = true := by
    rw [List.all_eq_true]
    intro i hi
    obtain ⟨x, hx, rfl⟩ := List.mem_map.mp hi
    have := h x hx
    simp; omega
  rw [e1, e2] at e
  obtain ⟨l, hl'⟩ := g
  rw [Q, evQ_old (by decide), e, hl']
  exact gc_app rfl
theorem told_yes (w : Str) (xs : List Pv.D) (k : Nat) (hk : xs.length + 1 = k) : Q G n (d + 1) 42 [.tup (.str w :: xs), .str w, .int k] S = .ok (.bl true) S := by
  have ln : builtin .len [.tup (.str w :: xs)] S = .ok (.int k) S := by
    rw [← hk]; simp [builtin]
  have e1 : cmpop .eq (.int k) (.int k) S = .ok (.bl true) S := by rw [int_eq]; simp
  have s0 := sub0 (S := S) (.str w) xs
  have e2 : cmpop .eq (.str w) (.str w) S = .ok (.bl true) S := by rw [str_eq]; simp
  rw [Q, evQ_open (fn := ⟨3, 3, c_is_told⟩) (by decide) (LibD.fn 42 (by decide)) rfl]
  have fin : gc S (.ok (.bl true) S) = .ok (.bl true) S := gc_same rfl
  rw [← fin]
  simp -implicitDefEqProofs [c_is_told, startD, tyIs, ln, e1, s0, e2]
theorem told_word (w v : Str) (xs : List Pv.D) (k : Nat) (hk : xs.length + 1 = k) (ne : w ≠ v) : Q G n (d + 1) 42 [.tup (.str w :: xs), .str v, .int k] S = .ok (.bl false) S := by
  have ln : builtin .len [.tup (.str w :: xs)] S = .ok (.int k) S := by
    rw [← hk]; simp [builtin]
  have e1 : cmpop .eq (.int k) (.int k) S = .ok (.bl true) S := by rw [int_eq]; simp
  have s0 := sub0 (S := S) (.str w) xs
  have e2 : cmpop .eq (.str w) (.str v) S = .ok (.bl false) S := by rw [str_eq, decide_eq_false ne]
  rw [Q, evQ_open (fn := ⟨3, 3, c_is_told⟩) (by decide) (LibD.fn 42 (by decide)) rfl]
  have fin : gc S (.ok (.bl false) S) = .ok (.bl false) S := gc_same rfl
  rw [← fin]
  simp -implicitDefEqProofs [c_is_told, startD, tyIs, ln, e1, s0, e2]
theorem told_len (v : Str) (xs : List Pv.D) (k : Nat) (hk : xs.length ≠ k) : Q G n (d + 1) 42 [.tup xs, .str v, .int k] S = .ok (.bl false) S := by
  have ln : builtin .len [.tup xs] S = .ok (.int xs.length) S := rfl
  have e1 : cmpop .eq (.int xs.length) (.int k) S = .ok (.bl false) S := by rw [int_eq, decide_eq_false (by omega)]
  rw [Q, evQ_open (fn := ⟨3, 3, c_is_told⟩) (by decide) (LibD.fn 42 (by decide)) rfl]
  have fin : gc S (.ok (.bl false) S) = .ok (.bl false) S := gc_same rfl
  rw [← fin]
  simp -implicitDefEqProofs [c_is_told, startD, tyIs, ln, e1]
theorem is_gate_q (g : Gate) (b : Nat) (h : ∀ x ∈ g.refs, x < b) (hl : g.refs.length < 4000) (hn : 5000 ≤ n) : Q G n (d + 4) 35 [g.D, .int b] S = .ok (.bl true) S := by
  have bl := below_q (G := G) (n := n) (d := d) (S := S) g.refs b h (by omega) hn
  have fin : gc S (.ok (.bl true) S) = .ok (.bl true) S := gc_same rfl
  rw [Q, evQ_open (fn := ⟨2, 2, c_is_gate⟩) (by decide) (LibD.fn 35 (by decide)) rfl, ← fin]
  cases g with
  | conj r =>
    have t1 : evQ G n oldF (d + 3) 42 [.tup [.str "and", .tup (natD r)], .str "and", .int 2] S = .ok (.bl true) S := told_yes (d := d + 2) "and" [.tup (natD r)] 2 rfl
    simp only [Gate.refs] at bl
    simp -implicitDefEqProofs [c_is_gate, startD, Gate.D, t1, sub1, bl]
  | disj r =>
    have t1 : evQ G n oldF (d + 3) 42 [.tup [.str "or", .tup (natD r)], .str "and", .int 2] S = .ok (.bl false) S := told_word (d := d + 2) "or" "and" [.tup (natD r)] 2 rfl (by decide)
    have t2 : evQ G n oldF (d + 3) 42 [.tup [.str "or", .tup (natD r)], .str "or", .int 2] S = .ok (.bl true) S := told_yes (d := d + 2) "or" [.tup (natD r)] 2 rfl
    simp only [Gate.refs] at bl
    simp -implicitDefEqProofs [c_is_gate, startD, Gate.D, t1, t2, sub1, bl]
  | xor x y =>
    have t1 : evQ G n oldF (d + 3) 42 [.tup [.str "xor", .int (x : Nat), .int (y : Nat)], .str "and", .int 2] S = .ok (.bl false) S := told_len (d := d + 2) "and" _ 2 (by simp)
    have t2 : evQ G n oldF (d + 3) 42 [.tup [.str "xor", .int (x : Nat), .int (y : Nat)], .str "or", .int 2] S = .ok (.bl false) S := told_len (d := d + 2) "or" _ 2 (by simp)
    have t3 : evQ G n oldF (d + 3) 42 [.tup [.str "xor", .int (x : Nat), .int (y : Nat)], .str "xor", .int 3] S = .ok (.bl true) S := told_yes (d := d + 2) "xor" [.int (x : Nat), .int (y : Nat)] 3 rfl
    have s1 : sliced (.tup [.str "xor", .int (x : Nat), .int (y : Nat)]) (some 1) none S = .ok (.tup (natD [x, y])) S := by simp [sliced, cutD, HT.sIx, natD]
    simp only [Gate.refs] at bl
    simp -implicitDefEqProofs [c_is_gate, startD, Gate.D, t1, t2, t3, s1, bl]
  | ite x y z =>
    have t1 : evQ G n oldF (d + 3) 42 [.tup [.str "if", .int (x : Nat), .int (y : Nat), .int (z : Nat)], .str "and", .int 2] S = .ok (.bl false) S := told_len (d := d + 2) "and" _ 2 (by simp)
    have t2 : evQ G n oldF (d + 3) 42 [.tup [.str "if", .int (x : Nat), .int (y : Nat), .int (z : Nat)], .str "or", .int 2] S = .ok (.bl false) S := told_len (d := d + 2) "or" _ 2 (by simp)
    have t3 : evQ G n oldF (d + 3) 42 [.tup [.str "if", .int (x : Nat), .int (y : Nat), .int (z : Nat)], .str "xor", .int 3] S = .ok (.bl false) S := told_len (d := d + 2) "xor" _ 3 (by simp)
    have t4 : evQ G n oldF (d + 3) 42 [.tup [.str "if", .int (x : Nat), .int (y : Nat), .int (z : Nat)], .str "if", .int 4] S = .ok (.bl true) S := told_yes (d := d + 2) "if" [.int (x : Nat), .int (y : Nat), .int (z : Nat)] 4 rfl
    have s1 : sliced (.tup [.str "if", .int (x : Nat), .int (y : Nat), .int (z : Nat)]) (some 1) none S = .ok (.tup (natD [x, y, z])) S := by simp [sliced, cutD, HT.sIx, natD]
    simp only [Gate.refs] at bl
    simp -implicitDefEqProofs [c_is_gate, startD, Gate.D, t1, t2, t3, t4, s1, bl]
end
end K74
end

section
set_option autoImplicit false
set_option linter.all false
set_option maxHeartbeats 4000000
set_option maxRecDepth 60000
/-! X16: a Book is made. -/
namespace K74
open Pv Dia Lc
open PySem (Str)
open L2 (Key)
section
variable {G : Prog} [LibD G] {n d m : Nat} {S : Sto} {bo : Nat} {sides : List Bool} {gs : List Gate} {wish : Nat}
theorem enumT_at {α : Type} (ys : List α) (e : α → Pv.D) : ∀ i (ob : Ob), (IS.enumT (ys.map e)).at i (S ++ [ob]) = some (((List.range ys.length).map fun j => (j, ys[j]?)).map fun p : Nat × Option α => Pv.D.tup [.int p.1, (p.2.map e).getD .non])[i]? := fun i ob => by
  by_cases c : i < ys.length
  · have e2 : ys[i]? = some ys[i] := by simp [c]
    simp [IS.at, c]
  · have e1 : (List.range ys.length)[i]? = none := by rw [List.getElem?_eq_none_iff, List.length_range]; omega
    have e2 : ys[i]? = none := by rw [List.getElem?_eq_none_iff]; omega
    simp [IS.at, e1, e2]
theorem are_gates_q (hw : WfG m gs) (hl : gs.length ≤ 400) (hm : m ≤ 400) (hn : 5000 ≤ n) : Q G n (d + 5) 22 [.tup (gs.map Gate.D), .int m, .int 400] S = .ok (.bl true) S := by
  have co := comp_m (S := S) (src := .enumT (gs.map Gate.D)) (n := n) (ys := (List.range gs.length).map fun j => (j, gs[j]?)) (e := fun p : Nat × Option Gate => Pv.D.tup [.int p.1, (p.2.map Gate.D).getD .non]) (turn := turnE G n (evQ G n oldF (d + 4)) (mkQ G n oldF (d + 4)) (.call 35 (.cons (.var 4) (.cons (.bin .mul (.con (.int 2)) (.bin .add (.var 1) (.var 3))) .nil))) (.tup (.cons (.var 3) (.cons (.var 4) .nil))) .nil [3, 4] [some (.tup (gs.map Gate.D)), some (.int m), some (.int 400), none, none])
    (fun _ => .bl true) (enumT_at gs Gate.D) (by simp; omega) (by simp; omega) fun p hp ob => by
      obtain ⟨j, hj, rfl⟩ := List.mem_map.mp hp
      have hj : j < gs.length := List.mem_range.mp hj
      have ej : gs[j]? = some gs[j] := by simp [hj]
      obtain ⟨w1, w2⟩ := hw.at ej
      have ig := is_gate_q (G := G) (n := n) (d := d) (S := S ++ [ob]) gs[j] (2 * (m + j)) w1 (by omega) hn
      have a1 : ∀ S, binop .add (.int (m : Nat)) (.int (j : Nat)) S = .ok (.int (m + j : Nat)) S := fun S => by rw [add_int]; simp
      have a2 : ∀ S, binop .mul (.int 2) (.int (m + j : Nat)) S = .ok (.int (2 * (m + j) : Nat)) S := fun S => by rw [mul_l _ _ (by decide)]; simp
      obtain ⟨A, hA⟩ : ∃ A : Int, A = (m + j : Nat) := ⟨_, rfl⟩
      obtain ⟨B, hB⟩ : ∃ A : Int, A = (2 * (m + j) : Nat) := ⟨_, rfl⟩
      rw [← hA] at a1 a2
      rw [← hB] at a2 ig
      have sq : ∀ S, asSeq S (.tup [.int (j : Nat), gs[j].D]) = some [.int (j : Nat), gs[j].D] := fun S => rfl
      rw [ej]
      simp -implicitDefEqProofs [turnE, wipeD, sq, a1, a2, ig]
  rw [List.map_map] at co
  obtain ⟨bs, hbs⟩ : ∃ bs : List Bool, bs = (List.range gs.length).map fun _ => true := ⟨_, rfl⟩
  have eb : (List.range gs.length).map ((fun _ => Pv.D.bl true) ∘ fun j => (j, gs[j]?)) = bs.map Pv.D.bl := by rw [hbs, List.map_map]; rfl
  rw [eb] at co
  have ba : bs.all id = true := by
    rw [hbs, List.all_map, List.all_eq_true]
    intro x _; rfl
  have bo : boolsOf (bs.map Pv.D.bl) = some bs := by
    have := boolsOf_map (fun b : Bool => b) bs
    simpa using this
  obtain ⟨S1, hS1⟩ : ∃ S1, S1 = S ++ [Ob.lst (bs.map Pv.D.bl)] := ⟨_, rfl⟩
  have al : builtin .all [.ref S.length] S1 = .ok (.bl true) S1 := by
    rw [hS1]
    simp only [builtin, app_at0, bo, ba]
  rw [← hS1] at co
  have ln : builtin .len [.tup (gs.map Gate.D)] S = .ok (.int gs.length) S := by simp [builtin]
  have gt : cmpop .gt (.int gs.length) (.int 400) S = .ok (.bl false) S := by
    show R.ok (Pv.D.bl (decide ((400 : Int) < gs.length))) S = _
    rw [decide_eq_false (by omega)]
  have tt : tyIs S (.tup (gs.map Gate.D)) .tuple = some true := rfl
  have eo : enumOf (.tup (gs.map Gate.D)) S = .ok (.enumT (gs.map Gate.D)) S := rfl
  have fin : gc S (.ok (.bl true) S1) = .ok (.bl true) S := by rw [hS1]; exact gc_app rfl
  rw [Q, evQ_open (fn := ⟨3, 5, c_are_gates⟩) (by decide) (LibD.fn 22 (by decide)) rfl, ← fin]
  simp -implicitDefEqProofs [c_are_gates, startD, tt, ln, gt, eo, co, al, -List.map_map]
def bookO (sides : List Bool) (gs : List Gate) (wish : Nat) : Ob := .ins 0 [(0, bitsD sides), (4, .tup (gs.map Gate.D)), (3, .int wish), (1, .int sides.length)]
theorem init0 : G.init 0 = some 12 := LibD.init (0, 12) (by decide)
theorem below_int_q (i b : Int) (h : 0 ≤ i) (h2 : i < b) : Q G n (d + 2) 21 [.int i, .int b] S = .ok (.bl true) S := by
  rw [Q, evQ_old (by decide), is_below_int]
  simp only [decide_eq_true h, decide_eq_true h2, Bool.and_self]
  exact gc_same rfl
theorem book_init (hw : WfG sides.length gs) (hl : gs.length ≤ 400) (hm : sides.length ≤ 40) (hwi : wish < 2 * (sides.length + gs.length)) (hn : 5000 ≤ n) :
    evQ G n oldF (d + 6) 12 [.ref S.length, bitsD sides, .tup (gs.map Gate.D), .int wish] (S ++ [Ob.ins 0 []]) = .ok .non (S ++ [bookO sides gs wish]) := by
  obtain ⟨S1, hS1⟩ : ∃ S1, S1 = S ++ [Ob.ins 0 []] := ⟨_, rfl⟩
  have af := are_flags_bits (G := G) (n := n) (d := d + 4) (S := S1) sides (by omega) hn
  have ag := are_gates_q (G := G) (n := n) (d := d) (S := S1) hw hl (by omega) hn
  have ib := below_int_q (G := G) (n := n) (d := d + 3) (S := S1) wish (2 * ((sides.length : Int) + gs.length)) (by omega) (by omega)
  have ln : ∀ S, builtin .len [bitsD sides] S = .ok (.int sides.length) S := fun S => by simp [builtin, bitsD]
  have lg : ∀ S, builtin .len [.tup (gs.map Gate.D)] S = .ok (.int gs.length) S := fun S => by simp [builtin]
  have gt : cmpop .gt (.int sides.length) (.int 40) S1 = .ok (.bl false) S1 := by
    show R.ok (Pv.D.bl (decide ((40 : Int) < sides.length))) S1 = _
    rw [decide_eq_false (by omega)]
  have m2 : ∀ S, binop .mul (.int 2) (.int ((sides.length : Int) + gs.length)) S = .ok (.int (2 * ((sides.length : Int) + gs.length))) S := fun S => mul_l _ _ (by decide) S
  have f0 := dfl (G := G) 0 (by decide)
  have f4 := dfl (G := G) 4 (by decide)
  have f3 := dfl (G := G) 3 (by decide)
  have f1 := dfl (G := G) 1 (by decide)
  have s1 : S1[S.length]? = some (.ins 0 []) := by rw [hS1]; simp
  have w : ∀ fs f x, G.flds 0 f = true → fs.length < 1000 → setattr G (.ref S.length) f x (S ++ [Ob.ins 0 fs]) = some (S ++ [Ob.ins 0 (putN f x fs)]) := fun fs f x h1 h2 => by
    simp [setattr, h1, h2]
  have w0 := w [] 0 (bitsD sides) f0 (by simp)
  have w4 := w (putN 0 (bitsD sides) []) 4 (.tup (gs.map Gate.D)) f4 (by simp [putN])
  have w3 := w (putN 4 (.tup (gs.map Gate.D)) (putN 0 (bitsD sides) [])) 3 (.int wish) f3 (by simp [putN])
  have w1 := w (putN 3 (.int wish) (putN 4 (.tup (gs.map Gate.D)) (putN 0 (bitsD sides) []))) 1 (.int sides.length) f1 (by simp [putN])
  rw [← hS1] at w0
  obtain ⟨SA, hSA⟩ : ∃ SA, SA = S ++ [Ob.ins 0 (putN 0 (bitsD sides) [])] := ⟨_, rfl⟩
  obtain ⟨SB, hSB⟩ : ∃ SB, SB = S ++ [Ob.ins 0 (putN 4 (.tup (gs.map Gate.D)) (putN 0 (bitsD sides) []))] := ⟨_, rfl⟩
  obtain ⟨SC, hSC⟩ : ∃ SC, SC = S ++ [Ob.ins 0 (putN 3 (.int wish) (putN 4 (.tup (gs.map Gate.D)) (putN 0 (bitsD sides) [])))] := ⟨_, rfl⟩
  obtain ⟨SD, hSD⟩ : ∃ SD, SD = S ++ [Ob.ins 0 (putN 1 (.int sides.length) (putN 3 (.int wish) (putN 4 (.tup (gs.map Gate.D)) (putN 0 (bitsD sides) []))))] := ⟨_, rfl⟩
  rw [← hSA] at w0 w4
  rw [← hSB] at w4 w3
  rw [← hSC] at w3 w1
  rw [← hSD] at w1
  have e9 : SD = S ++ [bookO sides gs wish] := by rw [hSD]; simp [putN, bookO]
  have l1 : S1.length = SD.length := by rw [hS1, hSD]; simp
  have fin : gc S1 (.ok .non SD) = .ok .non SD := by
    have fl : newO S1.length (bookO sides gs wish) = [] := by simp [bookO]
    have := gc_chg (S := S1) (S' := SD) (x := .non) rfl ⟨by omega, fun i hi => by
      by_cases c : i < S.length
      · left
        rw [hS1, e9, List.getElem?_append_left c, List.getElem?_append_left c]
      · right
        have : i = S.length := by rw [hS1] at hi; simp at hi; omega
        subst this
        rw [e9]
        simp only [app_at0, Option.getD_some]
        exact fl⟩
    rw [this, l1, List.take_length]
  rw [← e9, ← hS1]
  rw [evQ_open (fn := ⟨4, 4, c_Book___init__⟩) (by decide) (LibD.fn 12 (by decide)) rfl, ← fin]
  simp -implicitDefEqProofs [c_Book___init__, startD, af, ln, gt, ag, lg, add_int, m2, ib, w0, w4, w3, w1]
theorem book_new (hw : WfG sides.length gs) (hl : gs.length ≤ 400) (hm : sides.length ≤ 40) (hwi : wish < 2 * (sides.length + gs.length)) (hn : 5000 ≤ n) {σ : Sl} {xs : C} (hx : evL G n (evQ G n oldF (d + 7)) (mkQ G n oldF (d + 7)) xs σ S = .ok [bitsD sides, .tup (gs.map Gate.D), .int wish] S) :
    evE G n (evQ G n oldF (d + 7)) (mkQ G n oldF (d + 7)) (.make 0 xs) σ S = .ok (.ref S.length) (S ++ [bookO sides gs wish]) ∧ BookAt (S ++ [bookO sides gs wish]) S.length sides gs wish := by
  have e := book_init (G := G) (n := n) (d := d) (S := S) hw hl hm hwi hn
  have mk : mkQ G n oldF (d + 7) = evQ G n oldF (d + 6) := rfl
  refine ⟨?_, by unfold BookAt bookO; simp⟩
  rw [evE_make, hx]
  simp -implicitDefEqProofs [init0, mk, e]
end
end K74
end

section
set_option autoImplicit false
set_option linter.all false
set_option maxHeartbeats 4000000
set_option maxRecDepth 60000
/-! X17: what is refused; a comprehension that leaves things behind. -/
namespace K74
open Pv Dia Lc
open PySem (Str)
open L2 (Key)
theorem comp_j {α : Type} {S : Sto} {src : IS} {n : Nat} {ys : List α} {e : α → Pv.D} {turn : Pv.D → Sto → R (Option Pv.D)} (g : α → Pv.D) (hsrc : ∀ i o rest, src.at i (S ++ o :: rest) = some (ys.map e)[i]?) (hn : ys.length < n) (hl : ys.length < 16000000)
    (ht : ∀ y ∈ ys, ∀ o rest, ∃ l, turn (e y) (S ++ o :: rest) = .ok (some (g y)) (S ++ o :: (rest ++ l))) : ∃ junk, loopC src S.length turn n 0 (S ++ [.lst []]) = .ok (.ref S.length) (S ++ Ob.lst (ys.map g) :: junk) := by
  have sz : 16000000 ≤ PySem.sizeLine := by decide
  have key : ∀ (k i : Nat) (acc : List Pv.D) (rest : Sto), ys.length - i < k → acc.length ≤ i → ∃ junk, loopC src S.length turn k i (S ++ Ob.lst acc :: rest) = .ok (.ref S.length) (S ++ Ob.lst (acc ++ (ys.drop i).map g) :: junk) := by
    intro k
    induction k with
    | zero => intro i acc rest h; omega
    | succ k ih =>
      intro i acc rest hk hi
      unfold loopC
      rw [hsrc]
      by_cases c : i < ys.length
      · have e1 : (ys.map e)[i]? = some (e ys[i]) := by simp [c]
        have hd : ys.drop i = ys[i] :: ys.drop (i + 1) := (List.drop_eq_getElem_cons c)
        have e3 : acc.length < PySem.sizeLine := by omega
        obtain ⟨l, ht⟩ := ht ys[i] (List.getElem_mem c) (.lst acc) rest
        obtain ⟨junk, q⟩ := ih (i + 1) (acc ++ [g ys[i]]) (rest ++ l) (by omega) (by simp; omega)
        refine ⟨junk, ?_⟩
        rw [e1]
        simp only [ht, app_at0, if_pos e3, app_set0]
        rw [q, hd, List.map_cons, List.append_assoc]
        rfl
      · have e1 : (ys.map e)[i]? = none := by simp; omega
        have hd : ys.drop i = [] := List.drop_eq_nil_of_le (by omega)
        rw [e1, hd]
        exact ⟨rest, by simp⟩
  obtain ⟨junk, q⟩ := key n 0 [] [] (by omega) (by simp)
  exact ⟨junk, by simpa using q⟩
section
variable {G : Prog} [LibD G] [LibK G] {n d m : Nat} {S : Sto} {bo : Nat} {sides : List Bool} {gs : List Gate} {wish : Nat}
theorem winner_bad (hb : BookAt S bo sides gs wish) {x : Pv.D} (hx : BadBegun S sides.length x) (hx2 : ∀ xs, x = .tup xs → ∀ y ∈ xs, plainD y = true) (hn : 5000 ≤ n) : Q G n (d + 3) 5 [.ref bo, x] S = .exc ⟨1, []⟩ S := by
  have bb := begun_bad (G := G) (n := n) (d := d) hb hx hx2 hn
  have fin : gc S (.exc ⟨1, []⟩ S) = .exc ⟨1, []⟩ S := by
    have := gc_excA (S := S) (l := []) (c := 1)
    simpa using this
  rw [Q, evQ_open (fn := ⟨2, 7, c_winner_behind⟩) (by decide) (LibK.fn 5 (by decide)) rfl, ← fin]
  simp -implicitDefEqProofs [c_winner_behind, startD, bb]
theorem good_bad (hb : BookAt S bo sides gs wish) {x : Pv.D} (hx : BadBegun S sides.length x) (hx2 : ∀ xs, x = .tup xs → ∀ y ∈ xs, plainD y = true) (hn : 5000 ≤ n) : Q G n (d + 3) 3 [.ref bo, x] S = .exc ⟨1, []⟩ S := by
  have bb := begun_bad (G := G) (n := n) (d := d) hb hx hx2 hn
  have fin : gc S (.exc ⟨1, []⟩ S) = .exc ⟨1, []⟩ S := by
    have := gc_excA (S := S) (l := []) (c := 1)
    simpa using this
  rw [Q, evQ_open (fn := ⟨2, 4, c_good_moves⟩) (by decide) (LibK.fn 3 (by decide)) rfl, ← fin]
  simp -implicitDefEqProofs [c_good_moves, startD, bb]
theorem BadBegun.app {x : Pv.D} {m : Nat} {S : Sto} (h : BadBegun S m x) (l : Sto) : BadBegun (S ++ l) m x := by
  cases h with
  | lst k xs h => exact .lst k xs (app_old h)
  | tup xs h hl => exact .tup xs h hl
  | long p h hl => exact .long p h hl
  | non => exact .non
  | str x => exact .str x
def rfBody : C := match c__law_refused with
  | .cons _ (.cons (.forr _ _ b) _) => b
  | _ => .nil
theorem refused_turn (hb : BookAt S bo sides gs wish) {x : Pv.D} (hx : BadBegun S sides.length x) (hx2 : ∀ xs, x = .tup xs → ∀ y ∈ xs, plainD y = true) (hn : 5000 ≤ n) (i : Nat) (xs : List Bool) (hxs : xs.length < 1000) (s3 : Option Pv.D) :
    turnF G n (evQ G n oldF (d + 3)) (mkQ G n oldF (d + 3)) (.var 3) rfBody (.int i) [some (.ref bo), some x, some (.ref S.length), s3, none] (S ++ [Ob.lst (xs.map Pv.D.bl)]) = .nx [some (.ref bo), some x, some (.ref S.length), some (.int i), none] (S ++ [Ob.lst ((xs ++ [true]).map Pv.D.bl)]) := by
  have w := winner_bad (G := G) (n := n) (d := d) (hb.app [Ob.lst (xs.map Pv.D.bl)]) (hx.app _) hx2 hn
  have g := good_bad (G := G) (n := n) (d := d) (hb.app [Ob.lst (xs.map Pv.D.bl)]) (hx.app _) hx2 hn
  have rc : bmRecv .append (.ref S.length) (S ++ [Ob.lst (xs.map Pv.D.bl)]) = true := recv_append (xs := xs.map Pv.D.bl) (by simp)
  have ap : bmethod .append (.ref S.length) [.bl true] (S ++ [Ob.lst (xs.map Pv.D.bl)]) = .ok .non (S ++ [Ob.lst ((xs ++ [true]).map Pv.D.bl)]) := by
    rw [append_at (l := []) (xs := xs.map Pv.D.bl) (by simp) (by simp; omega), app_set0]
    simp
  have tr : ∀ (call mk : Call) (b alts : C) (c j : Nat) (σ : Sl) (S : Sto), evS G n call mk (.tryE b c j alts) σ S = match evB G n call mk b σ S with
    | .exc σ1 x S1 => (evA G n call mk alts x (σ1.set j none) S1).wipe j
    | r => r := fun call mk b alts c j σ S => rfl
  have al : ∀ (call mk : Call) (c : Nat) (h r : C) (x : Exc) (σ : Sl) (S : Sto), evA G n call mk (.alt c h r) x σ S = if x.c = c then (match x.fs with
    | [] => evB G n call mk h σ S
    | _ => .bad) else evA G n call mk r x σ S := fun call mk c h r x σ S => rfl
  have wp : ∀ (σ : Sl) (S : Sto) (j : Nat), (F.nx σ S).wipe j = .nx (σ.set j none) S := fun σ S j => rfl
  by_cases c : i = 0
  · have e0 : ∀ S, cmpop .eq (.int (i : Nat)) (.int 0) S = .ok (.bl true) S := fun S => by rw [int_eq, decide_eq_true (by omega)]
    simp -implicitDefEqProofs [turnF, rfBody, c__law_refused, tr, e0, w, al, rc, ap, wp, -List.map_append]
  · have e0 : ∀ S, cmpop .eq (.int (i : Nat)) (.int 0) S = .ok (.bl false) S := fun S => by rw [int_eq, decide_eq_false (by omega)]
    simp -implicitDefEqProofs [turnF, rfBody, c__law_refused, tr, e0, g, al, rc, ap, wp, -List.map_append]
theorem eq_true2 {S : Sto} {k j : Nat} (hk : S[k]? = some (.lst [.bl true, .bl true])) (hj : S[j]? = some (.lst [.bl true, .bl true])) : cmpop .eq (.ref k) (.ref j) S = .ok (.bl true) S := by
  have e : eqS S (.ref k) (.ref j) = some true := by
    show eqP (pdS S (.ref k)) (pdS S (.ref j)) = _
    have p1 : pdS S (.ref k) = some (.list [.bool true, .bool true]) := by
      simp only [pdS, hk]
      rfl
    have p2 : pdS S (.ref j) = some (.list [.bool true, .bool true]) := by
      simp only [pdS, hj]
      rfl
    rw [p1, p2]
    unfold eqP
    have e1 : (PySem.SeqAt.shaped (.list [.bool true, .bool true]) && PySem.SeqAt.shaped (.list [.bool true, .bool true])) = true := by rfl
    simp only [e1, if_true]
    congr 1
  simp only [cmpop, e]
  rfl
theorem refused_q (hf : G.fn 1 = Lc.fn 1) (hb : BookAt S bo sides gs wish) {x : Pv.D} (hx : BadBegun S sides.length x) (hx2 : ∀ xs, x = .tup xs → ∀ y ∈ xs, plainD y = true) (hn : 5000 ≤ n) : Q G n (d + 4) 1 [.ref bo, x] S = .ok (.bl true) S := by
  have t0 := refused_turn (G := G) (n := n) (d := d) hb hx hx2 hn 0 [] (by simp) none
  have t1 := refused_turn (G := G) (n := n) (d := d) hb hx hx2 hn 1 [true] (by simp) (some (.int (0 : Nat)))
  have nl := newLst_ok (xs := []) (S := S) (by simp)
  obtain ⟨S1, hS1⟩ : ∃ S1, S1 = S ++ [Ob.lst (([] ++ [true]).map Pv.D.bl)] := ⟨_, rfl⟩
  obtain ⟨S2, hS2⟩ : ∃ S2, S2 = S ++ [Ob.lst (([true] ++ [true]).map Pv.D.bl)] := ⟨_, rfl⟩
  have lp : loopF (.rng 0 1 2) (turnF G n (evQ G n oldF (d + 3)) (mkQ G n oldF (d + 3)) (.var 3) rfBody) n 0 [some (.ref bo), some x, some (.ref S.length), none, none] (S ++ [Ob.lst []]) = .nx [some (.ref bo), some x, some (.ref S.length), some (.int (1 : Nat)), none] S2 := by
    obtain ⟨k, rfl⟩ : ∃ k, n = k + 3 := ⟨n - 3, by omega⟩
    have a0 : ∀ S, (IS.rng 0 1 2).at 0 S = some (some (.int (0 : Nat))) := fun S => rfl
    have a1 : ∀ S, (IS.rng 0 1 2).at 1 S = some (some (.int (1 : Nat))) := fun S => rfl
    have a2 : ∀ S, (IS.rng 0 1 2).at 2 S = some none := fun S => rfl
    have e0 : S ++ [Ob.lst []] = S ++ [Ob.lst (([] : List Bool).map Pv.D.bl)] := rfl
    rw [hS2, e0]
    unfold loopF
    rw [a0]
    simp only [t0]
    unfold loopF
    rw [a1]
    have e1 : S ++ [Ob.lst (([] ++ [true]).map Pv.D.bl)] = S ++ [Ob.lst ([true].map Pv.D.bl)] := rfl
    rw [e1]
    simp only [t1]
    unfold loopF
    rw [a2]
  have ra := range_ok 2 (by omega) (S ++ [Ob.lst []])
  have nl2 := newLst_ok (xs := [.bl true, .bl true]) (S := S2) (by simp)
  have eq := eq_true2 (S := S2 ++ [Ob.lst [.bl true, .bl true]]) (k := S.length) (j := S2.length) (by rw [hS2]; simp) (by simp)
  obtain ⟨S3, hS3⟩ : ∃ S3, S3 = S2 ++ [Ob.lst [.bl true, .bl true]] := ⟨_, rfl⟩
  rw [← hS3] at nl2 eq
  have fin : gc S (.ok (.bl true) S3) = .ok (.bl true) S := by rw [hS3, hS2, List.append_assoc]; exact gc_app rfl
  have ra : rangeOf [.int 2] (S ++ [Ob.lst []]) = .ok (.rng 0 1 2) (S ++ [Ob.lst []]) := ra
  rw [Q, evQ_open (fn := ⟨2, 5, c__law_refused⟩) (by decide) hf rfl, ← fin]
  simp only [rfBody, c__law_refused] at lp
  simp -implicitDefEqProofs [c__law_refused, startD, nl, ra, lp, nl2, eq]
end
end K74
end

section
set_option autoImplicit false
set_option linter.all false
set_option maxHeartbeats 4000000
set_option maxRecDepth 100000
/-! The tables of a linked law, printed by gen2.py. -/
namespace K74
open PySem Pv Lc
def top (i : Nat) : Stmt := PySem.Challenge.pw_everyreply_k74_whole_counts_of_plays.main.body.getD i (.Pass ⟨0, 0, 0, 0⟩)
def inner (s : Stmt) (j : Nat) : Stmt := match s with
  | .ClassDef _ _ _ b _ _ _ _ _ _ _ => b.getD j (.Pass ⟨0, 0, 0, 0⟩)
  | _ => .Pass ⟨0, 0, 0, 0⟩
def argsOf : Stmt → Arguments
  | .FunctionDef _ a _ _ _ _ _ _ _ _ => a
  | _ => ⟨[], [], none, [], [], none, []⟩
def bodyOf : Stmt → List Stmt
  | .FunctionDef _ _ b _ _ _ _ _ _ _ => b
  | _ => []
def scopeOf : Stmt → Scope
  | .FunctionDef _ _ _ _ _ _ s _ _ _ => s
  | _ => ⟨.function, [], false, false, []⟩
def c_law : C := (.cons (.asg (.var 1) (.call 13 (.cons (.call 11 (.cons (.var 0) (.cons (.con (.int 0)) .nil))) (.cons (.con (.int 7)) (.cons (.con (.int 8)) .nil))))) (.cons (.asg (.var 2) (.make 0 (.cons (.sub (.var 1) (.con (.int 0))) (.cons (.sub (.var 1) (.con (.int 1))) (.cons (.sub (.var 1) (.con (.int 2))) .nil))))) (.cons (.asg (.var 3) (.call 10 (.cons (.call 11 (.cons (.var 0) (.cons (.con (.int 1)) .nil))) (.cons (.lst (.cons (.con (.int 256)) (.cons (.con (.int 9)) (.cons (.con (.int 6)) .nil)))) .nil)))) (.cons (.asg (.var 4) (.call 9 (.cons (.var 1) .nil))) (.cons (.asg (.var 5) (.bi .tuple (.cons (.comp (.bi .len (.cons (.comp (.var 6) (.var 6) (.walk (.var 7)) (.cons (.var 6) .nil) [6]) .nil)) (.var 7) (.walk (.var 4)) .nil [7]) .nil))) (.cons (.iff (.or (.not (.call 2 (.cons (.call 8 (.cons (.var 2) .nil)) (.cons (.sub (.var 5) (.neg (.con (.int 1)))) .nil)))) (.not (.call 2 (.cons (.call 7 (.cons (.var 2) .nil)) (.cons (.var 5) .nil))))) (.cons (.ret (.con (.bl false))) .nil) .nil) (.cons (.asg (.var 8) (.call 6 (.cons (.sub (.var 3) (.con (.int 0))) (.cons (.bin .mod (.sub (.var 3) (.con (.int 1))) (.bin .add (.bi .len (.cons (.sub (.var 1) (.con (.int 0))) .nil)) (.con (.int 1)))) .nil)))) (.cons (.asg (.var 9) (.con (.int 0))) (.cons (.forr (.var 10) (.walk (.var 8)) (.cons (.asg (.var 9) (.bin .add (.bin .mul (.con (.int 2)) (.var 9)) (.bi .int (.cons (.var 10) .nil)))) .nil)) (.cons (.iff (.not (.call 4 (.cons (.call 5 (.cons (.var 2) (.cons (.var 8) .nil))) (.cons (.sub (.sub (.var 4) (.bi .len (.cons (.var 8) .nil))) (.var 9)) .nil)))) (.cons (.ret (.con (.bl false))) .nil) .nil) (.cons (.asg (.var 11) (.tup .nil)) (.cons (.iff (.cmp .lt (.bi .len (.cons (.var 8) .nil)) (.bi .len (.cons (.sub (.var 1) (.con (.int 0))) .nil))) (.cons (.forr (.var 10) (.walk (.lst (.cons (.con (.bl false)) (.cons (.con (.bl true)) .nil)))) (.cons (.iff (.cmp .eq (.sub (.sub (.var 4) (.bin .add (.bi .len (.cons (.var 8) .nil)) (.con (.int 1)))) (.bin .add (.bin .mul (.con (.int 2)) (.var 9)) (.bi .int (.cons (.var 10) .nil)))) (.sub (.sub (.var 1) (.con (.int 0))) (.bi .len (.cons (.var 8) .nil)))) (.cons (.asg (.var 11) (.bin .add (.var 11) (.tup (.cons (.var 10) .nil)))) .nil) .nil) .nil)) .nil) .nil) (.cons (.iff (.not (.call 2 (.cons (.call 3 (.cons (.var 2) (.cons (.var 8) .nil))) (.cons (.var 11) .nil)))) (.cons (.ret (.con (.bl false))) .nil) .nil) (.cons (.asg (.var 12) (.sub (.lst (.cons (.bi .list (.cons (.var 8) .nil)) (.cons (.bin .add (.var 8) (.tup (.cons (.con (.int 1)) .nil))) (.cons (.bin .mul (.tup (.cons (.con (.bl true)) .nil)) (.bin .add (.bi .len (.cons (.sub (.var 1) (.con (.int 0))) .nil)) (.con (.int 1)))) (.cons (.con .non) (.cons (.con (.str "1")) (.cons (.tup (.cons (.con .non) .nil)) .nil))))))) (.sub (.var 3) (.con (.int 2))))) (.cons (.ret (.call 1 (.cons (.var 2) (.cons (.var 12) .nil)))) .nil)))))))))))))))
def d_law : FnD := ⟨("law", none), "law", "law", argsOf (top 52), bodyOf (top 52), scopeOf (top 52), c_law, ["script", "own", "book", "digits", "layers", "counts", "one", "layer", "begun", "at", "value", "due", "bad"], ["script"]⟩
def d__law_refused : FnD := ⟨("_law_refused", none), "_law_refused", "_law_refused", argsOf (top 51), bodyOf (top 51), scopeOf (top 51), c__law_refused, ["book", "begun", "found", "number", "error"], ["book", "begun"]⟩
def d__law_same : FnD := ⟨("_law_same", none), "_law_same", "_law_same", argsOf (top 38), bodyOf (top 38), scopeOf (top 38), c__law_same, ["found", "due", "k"], ["found", "due"]⟩
def d_good_moves : FnD := ⟨("good_moves", none), "good_moves", "good_moves", argsOf (top 33), bodyOf (top 33), scopeOf (top 33), c_good_moves, ["book", "begun", "side", "value"], ["book", "begun"]⟩
def d__law_flag : FnD := ⟨("_law_flag", none), "_law_flag", "_law_flag", argsOf (top 39), bodyOf (top 39), scopeOf (top 39), c__law_flag, ["found", "due"], ["found", "due"]⟩
def d_winner_behind : FnD := ⟨("winner_behind", none), "winner_behind", "winner_behind", argsOf (top 32), bodyOf (top 32), scopeOf (top 32), c_winner_behind, ["book", "begun", "diagrams", "at", "flag", "low", "high"], ["book", "begun"]⟩
def d__law_bits : FnD := ⟨("_law_bits", none), "_law_bits", "_law_bits", argsOf (top 40), bodyOf (top 40), scopeOf (top 40), c__law_bits, ["number", "many", "bits", "k"], ["number", "many"]⟩
def d_good_begun : FnD := ⟨("good_begun", none), "good_begun", "good_begun", argsOf (top 34), bodyOf (top 34), scopeOf (top 34), c_good_begun, ["book", "diagrams", "layers", "many", "at"], ["book"]⟩
def d_plays_won : FnD := ⟨("plays_won", none), "plays_won", "plays_won", argsOf (top 30), bodyOf (top 30), scopeOf (top 30), c_plays_won, ["book", "diagrams"], ["book"]⟩
def d__law_layers : FnD := ⟨("_law_layers", none), "_law_layers", "_law_layers", argsOf (top 50), bodyOf (top 50), scopeOf (top 50), c__law_layers, ["book", "layers", "play", "side", "last", "k"], ["book"]⟩
def d__law_row : FnD := ⟨("_law_row", none), "_law_row", "_law_row", argsOf (top 37), bodyOf (top 37), scopeOf (top 37), c__law_row, ["cell", "bounds", "left", "great", "mixed", "row", "k"], ["cell", "bounds"]⟩
def d__law_cell : FnD := ⟨("_law_cell", none), "_law_cell", "_law_cell", argsOf (top 36), bodyOf (top 36), scopeOf (top 36), c__law_cell, ["script", "k"], ["script", "k"]⟩
def d_Book___init__ : FnD := ⟨("Book", some "__init__"), "__init__", "Book.__init__", argsOf (inner (top 16) 0), bodyOf (inner (top 16) 0), scopeOf (inner (top 16) 0), c_Book___init__, ["self", "sides", "gates", "wish"], ["self", "sides", "gates", "wish"]⟩
def d__law_book : FnD := ⟨("_law_book", none), "_law_book", "_law_book", argsOf (top 43), bodyOf (top 43), scopeOf (top 43), c__law_book, ["cell", "most", "most_gates", "digits", "many", "gates", "k", "row", "bound", "gate"], ["cell", "most", "most_gates"]⟩
def d_begun_asked : FnD := ⟨("begun_asked", none), "begun_asked", "begun_asked", argsOf (top 31), bodyOf (top 31), scopeOf (top 31), c_begun_asked, ["book", "begun"], ["book", "begun"]⟩
def d_layers_of : FnD := ⟨("layers_of", none), "layers_of", "layers_of", argsOf (top 28), bodyOf (top 28), scopeOf (top 28), c_layers_of, ["diagrams", "book", "found", "flag"], ["diagrams", "book"]⟩
def d_Diagrams___init__ : FnD := ⟨("Diagrams", some "__init__"), "__init__", "Diagrams.__init__", argsOf (inner (top 20) 0), bodyOf (inner (top 20) 0), scopeOf (inner (top 20) 0), c_Diagrams___init__, ["self"], ["self"]⟩
def d_counted : FnD := ⟨("counted", none), "counted", "counted", argsOf (top 24), bodyOf (top 24), scopeOf (top 24), c_counted, ["diagrams", "at", "many", "ways", "inner", "flag", "low", "high", "total", "place", "number"], ["diagrams", "at", "many"]⟩
def d_book_diagram : FnD := ⟨("book_diagram", none), "book_diagram", "book_diagram", argsOf (top 23), bodyOf (top 23), scopeOf (top 23), c_book_diagram, ["diagrams", "book", "found", "flag", "gate", "ref"], ["diagrams", "book"]⟩
def d__law_won : FnD := ⟨("_law_won", none), "_law_won", "_law_won", argsOf (top 49), bodyOf (top 49), scopeOf (top 49), c__law_won, ["book", "told"], ["book", "told"]⟩
def d__law_plays : FnD := ⟨("_law_plays", none), "_law_plays", "_law_plays", argsOf (top 41), bodyOf (top 41), scopeOf (top 41), c__law_plays, ["many", "found", "turn", "longer", "play"], ["many"]⟩
def d_is_below : FnD := ⟨("is_below", none), "is_below", "is_below", argsOf (top 2), bodyOf (top 2), scopeOf (top 2), c_is_below, ["thing", "bound"], ["thing", "bound"]⟩
def d_are_gates : FnD := ⟨("are_gates", none), "are_gates", "are_gates", argsOf (top 15), bodyOf (top 15), scopeOf (top 15), c_are_gates, ["thing", "many", "most", "at", "gate"], ["thing", "many", "most"]⟩
def d_are_flags : FnD := ⟨("are_flags", none), "are_flags", "are_flags", argsOf (top 4), bodyOf (top 4), scopeOf (top 4), c_are_flags, ["thing", "flag"], ["thing"]⟩
def d__law_gate : FnD := ⟨("_law_gate", none), "_law_gate", "_law_gate", argsOf (top 42), bodyOf (top 42), scopeOf (top 42), c__law_gate, ["row", "bound", "refs", "number"], ["row", "bound"]⟩
def d_without_last : FnD := ⟨("without_last", none), "without_last", "without_last", argsOf (top 27), bodyOf (top 27), scopeOf (top 27), c_without_last, ["diagrams", "at", "flag", "side", "low", "high"], ["diagrams", "at", "flag", "side"]⟩
def d_shifted : FnD := ⟨("shifted", none), "shifted", "shifted", argsOf (top 25), bodyOf (top 25), scopeOf (top 25), c_shifted, ["many"], ["many"]⟩
def d_Diagrams_within : FnD := ⟨("Diagrams", some "within"), "within", "Diagrams.within", argsOf (inner (top 20) 11), bodyOf (inner (top 20) 11), scopeOf (inner (top 20) 11), c_Diagrams_within, ["self", "at", "found", "waiting", "inner"], ["self", "at"]⟩
def d_ref_diagram : FnD := ⟨("ref_diagram", none), "ref_diagram", "ref_diagram", argsOf (top 22), bodyOf (top 22), scopeOf (top 22), c_ref_diagram, ["diagrams", "found", "ref"], ["diagrams", "found", "ref"]⟩
def d_gate_diagram : FnD := ⟨("gate_diagram", none), "gate_diagram", "gate_diagram", argsOf (top 21), bodyOf (top 21), scopeOf (top 21), c_gate_diagram, ["diagrams", "gate", "ats", "at"], ["diagrams", "gate", "ats"]⟩
def d_refs_of : FnD := ⟨("refs_of", none), "refs_of", "refs_of", argsOf (top 17), bodyOf (top 17), scopeOf (top 17), c_refs_of, ["gate"], ["gate"]⟩
def d_Diagrams_flag : FnD := ⟨("Diagrams", some "flag"), "flag", "Diagrams.flag", argsOf (inner (top 20) 2), bodyOf (inner (top 20) 2), scopeOf (inner (top 20) 2), c_Diagrams_flag, ["self", "flag"], ["self", "flag"]⟩
def d__law_ref : FnD := ⟨("_law_ref", none), "_law_ref", "_law_ref", argsOf (top 44), bodyOf (top 44), scopeOf (top 44), c__law_ref, ["told", "ref", "value"], ["told", "ref"]⟩
def d__law_reckoned : FnD := ⟨("_law_reckoned", none), "_law_reckoned", "_law_reckoned", argsOf (top 48), bodyOf (top 48), scopeOf (top 48), c__law_reckoned, ["gates", "told", "found", "gate"], ["gates", "told"]⟩
def d_is_whole : FnD := ⟨("is_whole", none), "is_whole", "is_whole", argsOf (top 1), bodyOf (top 1), scopeOf (top 1), c_is_whole, ["thing"], ["thing"]⟩
def d_is_gate : FnD := ⟨("is_gate", none), "is_gate", "is_gate", argsOf (top 14), bodyOf (top 14), scopeOf (top 14), c_is_gate, ["thing", "bound"], ["thing", "bound"]⟩
def d_Diagrams_chosen : FnD := ⟨("Diagrams", some "chosen"), "chosen", "Diagrams.chosen", argsOf (inner (top 20) 6), bodyOf (inner (top 20) 6), scopeOf (inner (top 20) 6), c_Diagrams_chosen, ["self", "asked", "one", "other", "waiting", "now", "found", "flag", "lows", "at", "highs", "left", "triple"], ["self", "asked", "one", "other"]⟩
def d_Diagrams_with_value : FnD := ⟨("Diagrams", some "with_value"), "with_value", "Diagrams.with_value", argsOf (inner (top 20) 10), bodyOf (inner (top 20) 10), scopeOf (inner (top 20) 10), c_Diagrams_with_value, ["self", "at", "flag", "value", "seen", "inner", "place", "low", "high"], ["self", "at", "flag", "value"]⟩
def d_Diagrams_turned : FnD := ⟨("Diagrams", some "turned"), "turned", "Diagrams.turned", argsOf (inner (top 20) 8), bodyOf (inner (top 20) 8), scopeOf (inner (top 20) 8), c_Diagrams_turned, ["self", "at"], ["self", "at"]⟩
def d_Diagrams_every : FnD := ⟨("Diagrams", some "every"), "every", "Diagrams.every", argsOf (inner (top 20) 9), bodyOf (inner (top 20) 9), scopeOf (inner (top 20) 9), c_Diagrams_every, ["self", "ats", "found", "at"], ["self", "ats"]⟩
def d_Diagrams_put : FnD := ⟨("Diagrams", some "put"), "put", "Diagrams.put", argsOf (inner (top 20) 1), bodyOf (inner (top 20) 1), scopeOf (inner (top 20) 1), c_Diagrams_put, ["self", "flag", "low", "high"], ["self", "flag", "low", "high"]⟩
def d__law_gate_value : FnD := ⟨("_law_gate_value", none), "_law_gate_value", "_law_gate_value", argsOf (top 47), bodyOf (top 47), scopeOf (top 47), c__law_gate_value, ["gate", "told", "ref", "pair", "asked", "one", "other"], ["gate", "told"]⟩
def d_is_told : FnD := ⟨("is_told", none), "is_told", "is_told", argsOf (top 5), bodyOf (top 5), scopeOf (top 5), c_is_told, ["thing", "word", "many"], ["thing", "word", "many"]⟩
def d_are_below : FnD := ⟨("are_below", none), "are_below", "are_below", argsOf (top 3), bodyOf (top 3), scopeOf (top 3), c_are_below, ["thing", "bound", "number"], ["thing", "bound"]⟩
def d_Diagrams_known_choice : FnD := ⟨("Diagrams", some "known_choice"), "known_choice", "Diagrams.known_choice", argsOf (inner (top 20) 7), bodyOf (inner (top 20) 7), scopeOf (inner (top 20) 7), c_Diagrams_known_choice, ["self", "triple", "found"], ["self", "triple"]⟩
def d_Diagrams_parts : FnD := ⟨("Diagrams", some "parts"), "parts", "Diagrams.parts", argsOf (inner (top 20) 3), bodyOf (inner (top 20) 3), scopeOf (inner (top 20) 3), c_Diagrams_parts, ["self", "at", "flag"], ["self", "at", "flag"]⟩
def d_Diagrams_first_flag : FnD := ⟨("Diagrams", some "first_flag"), "first_flag", "Diagrams.first_flag", argsOf (inner (top 20) 4), bodyOf (inner (top 20) 4), scopeOf (inner (top 20) 4), c_Diagrams_first_flag, ["self", "ats", "at"], ["self", "ats"]⟩
def d_Diagrams_settled : FnD := ⟨("Diagrams", some "settled"), "settled", "Diagrams.settled", argsOf (inner (top 20) 5), bodyOf (inner (top 20) 5), scopeOf (inner (top 20) 5), c_Diagrams_settled, ["self", "asked", "one", "other"], ["self", "asked", "one", "other"]⟩
def d__law_not : FnD := ⟨("_law_not", none), "_law_not", "_law_not", argsOf (top 46), bodyOf (top 46), scopeOf (top 46), c__law_not, ["value"], ["value"]⟩
def d__law_and : FnD := ⟨("_law_and", none), "_law_and", "_law_and", argsOf (top 45), bodyOf (top 45), scopeOf (top 45), c__law_and, ["parts"], ["parts"]⟩
def fnsO : List (Option FnD) := [some d_law, some d__law_refused, some d__law_same, some d_good_moves, some d__law_flag, some d_winner_behind, some d__law_bits, some d_good_begun, some d_plays_won, some d__law_layers, some d__law_row, some d__law_cell, some d_Book___init__, some d__law_book, some d_begun_asked, some d_layers_of, some d_Diagrams___init__, some d_counted, some d_book_diagram, some d__law_won, some d__law_plays, some d_is_below, some d_are_gates, some d_are_flags, some d__law_gate, some d_without_last, some d_shifted, some d_Diagrams_within, some d_ref_diagram, some d_gate_diagram, some d_refs_of, some d_Diagrams_flag, some d__law_ref, some d__law_reckoned, some d_is_whole, some d_is_gate, some d_Diagrams_chosen, some d_Diagrams_with_value, some d_Diagrams_turned, some d_Diagrams_every, some d_Diagrams_put, some d__law_gate_value, some d_is_told, some d_are_below, some d_Diagrams_known_choice, some d_Diagrams_parts, some d_Diagrams_first_flag, some d_Diagrams_settled, some d__law_not, some d__law_and]
def pd : PD where
  fnsO := fnsO
  classesO := [some "Book", some "NoTold", some "ReplyError", some "Diagrams"]
  atts := ["sides", "many", "nodes", "wish", "gates", "kept", "known", "within", "flag", "chosen", "with_value", "turned", "every", "put", "known_choice", "parts", "first_flag", "settled"]
  flds := [(0, 0), (0, 4), (0, 3), (0, 1), (3, 2), (3, 6), (3, 5)]
  meths := [(3, 7, 27), (3, 8, 31), (3, 9, 36), (3, 10, 37), (3, 11, 38), (3, 12, 39), (3, 13, 40), (3, 14, 44), (3, 15, 45), (3, 16, 46), (3, 17, 47)]
  inits := [(0, 12), (3, 16)]
  excs := [1]
  subs := [(1, 2, true), (1, 1, true)]
  free := ["len", "list", "int", "tuple", "range", "isinstance", "str", "bool", "all", "enumerate", "reversed", "abs", "sorted", "min"]
  konst := [("MOST_GATES", 400), ("MOST_FLAGS", 40), ("MOST_DIAGRAMS", 200000)]
  stars := [17]
theorem good : pd.good = true := by decide +kernel
def lawAt : Nat := 52
def loose0 : List Str := ["__name__", "is_whole", "is_below", "are_below", "are_flags", "is_told", "ReplyError", "TooMany", "BadBook", "NoTold", "MOST_FLAGS", "MOST_GATES", "is_gate", "are_gates", "Book", "refs_of", "MOST_DIAGRAMS", "Diagrams", "gate_diagram", "ref_diagram", "book_diagram", "counted", "shifted", "without_last", "layers_of", "plays_won", "begun_asked", "winner_behind", "good_moves", "good_begun"]
def loose1 : List Str := ["_law_cell", "_law_row", "_law_same", "_law_flag", "_law_bits", "_law_plays", "_law_gate", "_law_book", "_law_ref", "_law_and", "_law_not", "_law_gate_value", "_law_reckoned", "_law_won", "_law_layers", "_law_refused"]
def loose : List Str := loose0 ++ loose1
end K74
end

section
set_option autoImplicit false
set_option linter.all false
set_option maxRecDepth 100000
set_option maxHeartbeats 0
/-! The head of k74: the top's run. -/
namespace K74
open PySem PySem.Spec PyProof.Rows L2 Pv
abbrev R : PySem.W.OpenRow := PySem.W.OpenLaw.row PySem.Challenge.rw_everyreply_k74_whole_counts_of_plays
abbrev hk : PySem.W.Hook := hookP 5 pd.faL pd.fnL pd.ex
def ob (s : PySem.W.SharedT) : He.AlD × Bool := obP 5 pd.faL pd.fnL pd.ex s
theorem ob_eq (s : PySem.W.SharedT) : ob s = hk.obs s.abs := obP_eq 5 pd.faL pd.fnL pd.ex s
theorem run (w : World) : HandSHeadRun.RunEq R (PySem.W.view R.prog [52]) hk ob 4000 loose w := by
  intro os
  kernel_rfl
end K74
end

section
set_option autoImplicit false
set_option linter.all false
set_option maxRecDepth 100000
set_option maxHeartbeats 0
/-! k74: the row, from the evaluator's word. -/
namespace K74
open PySem PySem.Spec PyProof.Rows L2 Pv
/-- what the evaluator must say -/
def Word : Prop := ∀ (ns : List Int) (x : D) (S : Sto), ns.length ≤ 63 → (x = .ref 0 ∧ S = [.clst (ns.map D.int)]) ∨ (x = .klst (ns.map D.int) ∧ S = []) → ∃ n S', evQ pd.G n Lc.oldF 60 0 [x] S = .ok (.bl true) S'
end K74
open PySem PySem.W PySem.Calls PyProof.Rows
theorem K74.row_of (h : K74.Word) : PySem.Challenge.rw_everyreply_k74_whole_counts_of_plays.Holds := by
  w_on; o_law
  refine HandSHeadRun.head_any (r := OpenLaw.row PySem.Challenge.rw_everyreply_k74_whole_counts_of_plays) (q := view (OpenLaw.row PySem.Challenge.rw_everyreply_k74_whole_counts_of_plays).prog [52]) (H := K74.hk) (ob := K74.ob) (M := 4000) (loose := K74.loose) (d := HandSHeadRun.topDef (OpenLaw.row PySem.Challenge.rw_everyreply_k74_whole_counts_of_plays).prog 52) (kwd := []) K74.ob_eq
    (by kernel_rfl) (fun s => by kernel_rfl) K74.run (by kernel_rfl) (by kernel_rfl) (by kernel_rfl) (by rfl) (by first | assumption | decide +kernel) (by decide +kernel) ⟨rfl, rfl, rfl, rfl, rfl, by decide +kernel⟩ ?hw ?hc
  case hw => w_witness2
  case hc =>
    exact Pv.walk_pq (l := PySem.Challenge.rw_everyreply_k74_whole_counts_of_plays) (N := 63) K74.pd 5 59 Lc.oldF K74.d_law K74.good rfl rfl (by kernel_rfl) rfl (by decide) (by kernel_rfl) ⟨rfl, by decide, by decide⟩ h
end

section
set_option autoImplicit false
set_option linter.all false
set_option maxHeartbeats 8000000
set_option maxRecDepth 60000
/-! K74L: the law. -/
namespace K74
open Pv Dia Lc
open PySem (Str)
open L2 (Key)
instance : LibD pd.G where
  fn := by
    intro f hf
    simp [dFns] at hf
    rcases hf with h | h | h | h | h | h | h | h | h | h | h | h | h | h | h | h | h | h | h | h | h | h | h | h | h | h | h | h | h <;> subst h <;> rfl
  meth := by decide +kernel
  flds := by decide +kernel
  init := by decide +kernel
instance : LibW pd.G where
  fn := by
    intro f hf
    simp [wFns] at hf
    rcases hf with h | h | h | h | h | h | h | h | h | h | h | h | h | h | h <;> subst h <;> rfl
instance : LibK pd.G where
  fn := by
    intro f hf
    simp [kFns] at hf
    rcases hf with h | h | h | h <;> subst h <;> rfl
  exc := rfl
/-! ### plain -/
def idxP (p : List Bool) : Nat := p.foldl (fun a b => 2 * a + (if b = true then 1 else 0)) 0
theorem idxP_snoc (p : List Bool) (b : Bool) : idxP (p ++ [b]) = 2 * idxP p + (if b = true then 1 else 0) := by
  unfold idxP
  rw [List.foldl_append]
  rfl
theorem play_snoc_get {m k : Nat} {p : List Bool} (h : (allPlays m)[k]? = some p) (b : Bool) : (allPlays (m + 1))[2 * k + (if b = true then 1 else 0)]? = some (p ++ [b]) := by
  have g := flat2_get (fun p : List Bool => p ++ [false]) (fun p => p ++ [true]) (allPlays m) k
  cases b with
  | false =>
    show ((allPlays m).flatMap fun p => [p ++ [false], p ++ [true]])[2 * k]? = _
    rw [g.1, h]; rfl
  | true =>
    show ((allPlays m).flatMap fun p => [p ++ [false], p ++ [true]])[2 * k + 1]? = _
    rw [g.2, h]; rfl
theorem idx_get (p : List Bool) : (allPlays p.length)[idxP p]? = some p := by
  have : ∀ k, ∀ p : List Bool, p.length = k → (allPlays p.length)[idxP p]? = some p := by
    intro k
    induction k with
    | zero =>
      intro p hp
      have : p = [] := List.length_eq_zero_iff.mp hp
      subst this; rfl
    | succ k ih =>
      intro p hp
      rcases List.eq_nil_or_concat p with h | ⟨q, b, h⟩
      · subst h; cases hp
      · rw [List.concat_eq_append] at h
        subst h
        have hq : q.length = k := by simpa using hp
        rw [idxP_snoc, List.length_append]
        exact play_snoc_get (ih q hq) b
  exact this p.length p rfl
theorem layer_get (f : List Bool → Bool) (sides p : List Bool) : (layerB f sides p.length)[idxP p]? = some (winB f p (sides.drop p.length)) := by
  unfold layerB
  rw [List.getElem?_map, idx_get]
  rfl
/-- how many of a layer YES wins -/
def cntB (f : List Bool → Bool) (sides : List Bool) (j : Nat) : Nat := ((layerB f sides j).filter id).length
theorem cnt_top (f : List Bool → Bool) (sides : List Bool) : cntB f sides sides.length = ((allPlays sides.length).filter f).length := by
  unfold cntB
  rw [layer_top, List.filter_map, List.length_map]
  rfl
section
variable {n d : Nat} {S : Sto}
/-- a script's own value, whatever comes behind -/
theorem loopF_two_lst {body : Pv.D → Sl → Sto → F} {x y : Pv.D} {k n : Nat} {σ σ1 σ2 : Sl} {S : Sto} (hk : S[k]? = some (.lst [x, y])) (hn : 3 ≤ n) (h1 : body x σ S = .nx σ1 S) (h2 : body y σ1 S = .nx σ2 S) : loopF (.lst k) body n 0 σ S = .nx σ2 S := by
  obtain ⟨j, rfl⟩ : ∃ j, n = j + 3 := ⟨n - 3, by omega⟩
  simp [loopF, IS.at, hk, h1, h2]
theorem counts_ev {k : Nat} {f : List Bool → Bool} {sides : List Bool} {call mk : Call} {x0 x1 x2 x3 x4 : Option Pv.D} (hm : sides.length ≤ 7) (hn : 100000 ≤ n) (hl : S[k]? = some (.lst ((List.range (sides.length + 1)).map fun i => .ref (k + (1 + i))))) (hj : ∀ j, j ≤ sides.length → S[k + (1 + j)]? = some (.lst ((layerB f sides j).map Pv.D.bl))) :
    ∃ junk, loopC (.lst k) S.length (turnE pd.G n call mk (.bi .len (.cons (.comp (.var 6) (.var 6) (.walk (.var 7)) (.cons (.var 6) .nil) [6]) .nil)) (.var 7) .nil [7] [x0, x1, x2, x3, x4, none, none, none, none, none, none, none, none]) n 0 (S ++ [.lst []]) = .ok (.ref S.length) (S ++ Ob.lst ((List.range (sides.length + 1)).map fun j => .int (cntB f sides j : Nat)) :: junk) := by
  refine comp_j (ys := List.range (sides.length + 1)) (e := fun i => Pv.D.ref (k + (1 + i))) _ (fun i o rest => by simp only [IS.at, app_old hl]) (by simp; omega) (by simp; omega) fun j hj2 o rest => ?_
  have hj2 : j ≤ sides.length := by have := List.mem_range.mp hj2; omega
  obtain ⟨S1, hS1⟩ : ∃ S1, S1 = S ++ o :: rest := ⟨_, rfl⟩
  have l1 : S1[k + (1 + j)]? = some (.lst ((layerB f sides j).map Pv.D.bl)) := by rw [hS1]; exact app_old (hj j hj2)
  have le : (layerB f sides j).length ≤ 128 := by
    rw [layer_length]
    have : 2 ^ j ≤ 2 ^ 7 := Nat.pow_le_pow_right (by omega) (by omega)
    omega
  have co := comp_f (S := S1) (src := .lst (k + (1 + j))) (n := n) (xs := (layerB f sides j).map Pv.D.bl) (turn := turnE pd.G n call mk (.var 6) (.var 6) (.cons (.var 6) .nil) [6] [x0, x1, x2, x3, x4, none, none, some (.ref (k + (1 + j))), none, none, none, none, none])
    (fun x => match x with | .bl true => some (.bl true) | _ => none) (src_lst l1) (by simp; omega) (by simp; omega) fun x hx ob => by
      obtain ⟨b, _, rfl⟩ := List.mem_map.mp hx
      cases b <;> simp -implicitDefEqProofs [turnE, wipeD]
  have em : ((layerB f sides j).map Pv.D.bl).filterMap (fun x => match x with | .bl true => some (Pv.D.bl true) | _ => none) = ((layerB f sides j).filter id).map Pv.D.bl := by
    induction layerB f sides j with
    | nil => rfl
    | cons b l ih =>
      rw [List.map_cons, List.filterMap_cons, List.filter_cons]
      cases b
      · simpa using ih
      · simpa using ih
  rw [em] at co
  obtain ⟨S2, hS2⟩ : ∃ S2, S2 = S1 ++ [Ob.lst (((layerB f sides j).filter id).map Pv.D.bl)] := ⟨_, rfl⟩
  rw [← hS2] at co
  have wl : walkOf (.ref (k + (1 + j))) S1 = .ok (.lst (k + (1 + j))) S1 := by simp only [walkOf, l1]
  have ln : builtin .len [.ref S1.length] S2 = .ok (.int (cntB f sides j : Nat)) S2 := by
    have : S2[S1.length]? = some (.lst (((layerB f sides j).filter id).map Pv.D.bl)) := by rw [hS2]; simp
    simp only [builtin, this, List.length_map]
    rfl
  refine ⟨[Ob.lst (((layerB f sides j).filter id).map Pv.D.bl)], ?_⟩
  have e2 : S ++ o :: (rest ++ [Ob.lst (((layerB f sides j).filter id).map Pv.D.bl)]) = S2 := by rw [hS2, hS1]; simp
  rw [e2, ← hS1]
  obtain ⟨K, hK⟩ : ∃ K, K = k + (1 + j) := ⟨_, rfl⟩
  rw [← hK] at co wl ⊢
  simp -implicitDefEqProofs [turnE, wipeD, wl] at co ⊢
  simp -implicitDefEqProofs [co, ln]
end
end K74
end

section
set_option autoImplicit false
set_option linter.all false
set_option maxHeartbeats 8000000
set_option maxRecDepth 60000
/-! K74M: the law, walked. -/
namespace K74
open Pv Dia Lc
open PySem (Str)
open L2 (Key)
def atBody : C := match c_law with
  | .cons _ (.cons _ (.cons _ (.cons _ (.cons _ (.cons _ (.cons _ (.cons _ (.cons (.forr _ _ b) _)))))))) => b
  | _ => .nil
def dueBody : C := match c_law with
  | .cons _ (.cons _ (.cons _ (.cons _ (.cons _ (.cons _ (.cons _ (.cons _ (.cons _ (.cons _ (.cons _ (.cons (.iff _ (.cons (.forr _ _ b) _) _) _))))))))))) => b
  | _ => .nil
section
variable {n d : Nat} {S : Sto}
theorem at_loop (call mk : Call) (p : List Bool) (hn : p.length < n) (x0 x1 x2 x3 x4 x5 x6 x7 x8 : Option Pv.D) :
    ∃ s10, loopF (.fix (p.map Pv.D.bl)) (turnF pd.G n call mk (.var 10) atBody) n 0 [x0, x1, x2, x3, x4, x5, x6, x7, x8, some (.int 0), none, none, none] S = .nx [x0, x1, x2, x3, x4, x5, x6, x7, x8, some (.int (idxP p : Nat)), s10, none, none] S := by
  obtain ⟨σ', S', e, s10, hσ, hS⟩ := loopF_fix (xs := p.map Pv.D.bl) (body := turnF pd.G n call mk (.var 10) atBody)
    (fun i σ S' => ∃ s10, σ = [x0, x1, x2, x3, x4, x5, x6, x7, x8, some (.int (idxP (p.take i) : Nat)), s10, none, none] ∧ S' = S)
    (w := n) (σ := [x0, x1, x2, x3, x4, x5, x6, x7, x8, some (.int 0), none, none, none]) (S := S) (by simpa using hn) ⟨none, rfl, rfl⟩
    (fun i x σ S' hx ⟨s10, hσ, hS⟩ => by
      subst hσ; subst hS
      rw [List.getElem?_map] at hx
      cases ep : p[i]? with
      | none => rw [ep] at hx; cases hx
      | some b =>
        rw [ep] at hx
        have hx : Pv.D.bl b = x := Option.some.inj hx
        subst hx
        refine ⟨[x0, x1, x2, x3, x4, x5, x6, x7, x8, some (.int (idxP (p.take (i + 1)) : Nat)), some (.bl b), none, none], S', .inl ?_, _, rfl, rfl⟩
        rw [List.take_succ, ep]
        simp only [Option.toList_some]
        rw [idxP_snoc]
        have m2 : ∀ S, binop .mul (.int 2) (.int (idxP (p.take i) : Nat)) S = .ok (.int (2 * idxP (p.take i) : Nat)) S := fun S => by rw [mul_l _ _ (by decide)]; simp
        have bi : ∀ S, builtin .int [.bl b] S = .ok (.int (if b = true then 1 else 0)) S := fun S => rfl
        have ad : ∀ S, binop .add (.int (2 * idxP (p.take i) : Nat)) (.int (if b = true then 1 else 0)) S = .ok (.int (2 * idxP (p.take i) + (if b = true then 1 else 0) : Nat)) S := fun S => by
          rw [add_int]
          cases b <;> simp
        obtain ⟨A, hA⟩ : ∃ A : Int, A = (2 * idxP (p.take i) : Nat) := ⟨_, rfl⟩
        obtain ⟨B, hB⟩ : ∃ A : Int, A = (2 * idxP (p.take i) + (if b = true then 1 else 0) : Nat) := ⟨_, rfl⟩
        obtain ⟨C', hC⟩ : ∃ A : Int, A = (if b = true then 1 else 0) := ⟨_, rfl⟩
        rw [← hA] at m2 ad
        rw [← hC] at bi ad
        rw [← hB] at ad ⊢
        simp -implicitDefEqProofs [turnF, atBody, c_law, m2, bi, ad])
  subst hσ; subst hS
  rw [List.length_map, List.take_length] at e
  exact ⟨s10, e⟩
theorem due_turn (call mk : Call) {k wish : Nat} {sides p due : List Bool} {gs : List Gate} {f : List Bool → Bool} {x0 x2 x3 x5 x6 x7 s10 x12 : Option Pv.D} (hp : p.length < sides.length) (hdue : due.length < 1000)
    (hl : S[k]? = some (.lst ((List.range (sides.length + 1)).map fun i => .ref (k + (1 + i))))) (hj : ∀ j, j ≤ sides.length → S[k + (1 + j)]? = some (.lst ((layerB f sides j).map Pv.D.bl))) {side : Bool} (hs : sides[p.length]? = some side) (v : Bool) :
    turnF pd.G n call mk (.var 10) dueBody (.bl v) [x0, some (bookD sides gs wish), x2, x3, some (.ref k), x5, x6, x7, some (bitsD p), some (.int (idxP p : Nat)), s10, some (bitsD due), x12] S =
      .nx [x0, some (bookD sides gs wish), x2, x3, some (.ref k), x5, x6, x7, some (bitsD p), some (.int (idxP p : Nat)), some (.bl v), some (bitsD (if (winB f (p ++ [v]) (sides.drop (p.length + 1)) == side) = true then due ++ [v] else due)), x12] S := by
  have ln : ∀ S, builtin .len [bitsD p] S = .ok (.int p.length) S := fun S => by simp [builtin, bitsD]
  have a1 : ∀ S, binop .add (.int p.length) (.int 1) S = .ok (.int (p.length + 1 : Nat)) S := fun S => by rw [add_int]; simp
  have g1 : subscr (.ref k) (.int (p.length + 1 : Nat)) S = .ok (.ref (k + (1 + (p.length + 1)))) S := sub_lst hl (i := p.length + 1) (by
    rw [List.getElem?_map]
    have : (List.range (sides.length + 1))[p.length + 1]? = some (p.length + 1) := List.getElem?_range (by omega)
    rw [this]; rfl)
  have m2 : ∀ S, binop .mul (.int 2) (.int (idxP p : Nat)) S = .ok (.int (2 * idxP p : Nat)) S := fun S => by rw [mul_l _ _ (by decide)]; simp
  have bi : ∀ S, builtin .int [.bl v] S = .ok (.int (if v = true then 1 else 0)) S := fun S => rfl
  have ad : ∀ S, binop .add (.int (2 * idxP p : Nat)) (.int (if v = true then 1 else 0)) S = .ok (.int (idxP (p ++ [v]) : Nat)) S := fun S => by
    rw [add_int, idxP_snoc]
    cases v <;> simp
  have hL := hj (p.length + 1) (by omega)
  have lg := layer_get f sides (p ++ [v])
  rw [List.length_append] at lg
  have g2 : subscr (.ref (k + (1 + (p.length + 1)))) (.int (idxP (p ++ [v]) : Nat)) S = .ok (.bl (winB f (p ++ [v]) (sides.drop (p.length + 1)))) S := sub_lst hL (i := idxP (p ++ [v])) (by
    rw [List.getElem?_map]
    have : (layerB f sides (p.length + 1))[idxP (p ++ [v])]? = some (winB f (p ++ [v]) (sides.drop (p.length + 1))) := lg
    rw [this]; rfl)
  have s0 : ∀ S, subscr (bookD sides gs wish) (.int 0) S = .ok (bitsD sides) S := fun S => by simp [subscr, bookD]
  have ss : subscr (bitsD sides) (.int p.length) S = .ok (.bl side) S := by
    have := getAt_map Pv.D.bl sides p.length hs
    simp only [bitsD, subscr, this]
  have eq := bl_eq (winB f (p ++ [v]) (sides.drop (p.length + 1))) side S
  have t1 := fun S => tup1_ok (.bl v) S
  have ps := fun S => play_snoc due v S hdue
  obtain ⟨A, hA⟩ : ∃ A : Int, A = (2 * idxP p : Nat) := ⟨_, rfl⟩
  obtain ⟨B, hB⟩ : ∃ A : Int, A = (p.length + 1 : Nat) := ⟨_, rfl⟩
  obtain ⟨C', hC⟩ : ∃ A : Int, A = (if v = true then 1 else 0) := ⟨_, rfl⟩
  obtain ⟨E, hE⟩ : ∃ A : Int, A = (idxP (p ++ [v]) : Nat) := ⟨_, rfl⟩
  obtain ⟨KK, hKK⟩ : ∃ K, K = k + (1 + (p.length + 1)) := ⟨_, rfl⟩
  rw [← hA] at m2 ad
  rw [← hB] at a1 g1
  rw [← hC] at bi ad
  rw [← hE] at ad g2
  rw [← hKK] at g1 g2
  cases h : (winB f (p ++ [v]) (sides.drop (p.length + 1)) == side) <;> rw [h] at eq <;> simp -implicitDefEqProofs [turnF, dueBody, c_law, ln, a1, g1, m2, bi, ad, g2, s0, ss, eq, t1, ps]
end
end K74
end

section
set_option autoImplicit false
set_option linter.all false
set_option maxHeartbeats 8000000
set_option maxRecDepth 60000
/-! K74N: the word of the law. -/
namespace K74
open Pv Dia Lc
open PySem (Str)
open L2 (Key)
section
variable {n d : Nat} {S : Sto}
/-- the six wrong ones -/
def bads (p : List Bool) (m k : Nat) : List Pv.D := [.ref k, .tup (p.map Pv.D.bl ++ [.int 1]), bitsD (List.replicate (m + 1) true), .non, .str "1", .tup [.non]]
theorem bads_bad {p : List Bool} {m k i : Nat} {x : Pv.D} (hk : S[k]? = some (.lst (p.map Pv.D.bl))) (hp : p.length ≤ 100) (hm : m ≤ 100) (hx : (bads p m k)[i]? = some x) : BadBegun S m x ∧ ∀ xs, x = .tup xs → ∀ y ∈ xs, plainD y = true := by
  have hmem := List.mem_of_getElem? hx
  simp [bads] at hmem
  rcases hmem with h | h | h | h | h | h <;> subst h
  · exact ⟨.lst k _ hk, fun xs e => (nomatch e)⟩
  · refine ⟨.tup _ (by simp [isBl]) (by simp; omega), fun xs e y hy => ?_⟩
    injection e with e
    subst e
    rcases List.mem_append.mp hy with h | h
    · obtain ⟨b, _, rfl⟩ := List.mem_map.mp h; rfl
    · have : y = .int 1 := by simpa using h
      subst this; rfl
  · refine ⟨.long _ (by simp) (by simp; omega), fun xs e y hy => ?_⟩
    injection e with e
    subst e
    obtain ⟨b, _, rfl⟩ := List.mem_map.mp hy; rfl
  · exact ⟨.non, fun xs e => (nomatch e)⟩
  · exact ⟨.str _, fun xs e => (nomatch e)⟩
  · refine ⟨.tup _ rfl (by simp), fun xs e y hy => ?_⟩
    injection e with e
    subst e
    have : y = .non := by simpa using hy
    subst this; rfl
theorem mul_true (m : Nat) (hm : m ≤ 900) (S : Sto) : binop .mul (.tup [.bl true]) (.int (m + 1 : Nat)) S = .ok (bitsD (List.replicate (m + 1) true)) S := by
  have : (List.replicate (m + 1) [Pv.D.bl true]).flatten = (List.replicate (m + 1) true).map Pv.D.bl := by
    induction m + 1 with
    | zero => rfl
    | succ k ih => rw [List.replicate_succ, List.flatten_cons, ih, List.replicate_succ, List.map_cons]; rfl
  simp only [binop]
  rw [if_pos ⟨by simp, by omega, by omega, by simp⟩, Int.toNat_natCast, this]
  rfl
end
/-- behind the due moves -/
def lawRest : C := match c_law with
  | .cons _ (.cons _ (.cons _ (.cons _ (.cons _ (.cons _ (.cons _ (.cons _ (.cons _ (.cons _ (.cons _ (.cons _ r))))))))))) => r
  | _ => .nil
def c_lawA (r : C) : C := match c_law with
  | .cons a1 (.cons a2 (.cons a3 (.cons a4 (.cons a5 (.cons a6 (.cons a7 (.cons a8 (.cons a9 (.cons a10 (.cons a11 (.cons a12 _))))))))))) => .cons a1 (.cons a2 (.cons a3 (.cons a4 (.cons a5 (.cons a6 (.cons a7 (.cons a8 (.cons a9 (.cons a10 (.cons a11 (.cons a12 r)))))))))))
  | _ => .nil
theorem c_lawA_eq : c_law = c_lawA lawRest := rfl
theorem goodMv_len (f : List Bool → Bool) (sides p : List Bool) : (goodMv f sides p).length ≤ 2 := by
  unfold goodMv
  split
  · simp
  · exact List.length_filter_le _ _
theorem law_tail {n bo dl d2 : Nat} {S : Sto} {sides p : List Bool} {gs : List Gate} {wish : Nat} {row : List Nat} {x0 x4 x5 x6 x7 x9 x10 x12 : Option Pv.D} (hn : n = 3000000) (hb : BookAt S bo sides gs wish) (hm : sides.length ≤ 7) (hg : GatesOk sides.length gs wish) (hp : p.length ≤ sides.length)
    (hd : S[dl]? = some (.lst (natD row))) (hr : row[2]? = some d2) (b2 : d2 < 6) :
    ∃ S' σ', evB pd.G n (evQ pd.G n oldF 59) (mkQ pd.G n oldF 59) lawRest [x0, some (bookD sides gs wish), some (.ref bo), some (.ref dl), x4, x5, x6, x7, some (bitsD p), x9, x10, some (bitsD (goodMv (wonB gs wish) sides p)), x12] S = .rt (.bl true) S' ∧ σ' = 0 := by
  have gm := good_moves_q (G := pd.G) (n := n) (d := 48) (S := S) hb rfl hg hm (by omega) p hp
  have gm : evQ pd.G n oldF 59 3 [.ref bo, bitsD p] S = .ok (bitsD (goodMv (wonB gs wish) sides p)) S := gm
  have sm : evQ pd.G n oldF 59 2 [bitsD (goodMv (wonB gs wish) sides p), bitsD (goodMv (wonB gs wish) sides p)] S = .ok (.bl true) S := law_same_tup (d := 57) (fun y hy => by
    obtain ⟨j, _, rfl⟩ := List.mem_map.mp hy; rfl) (by
    rw [List.length_map]
    have := goodMv_len (wonB gs wish) sides p
    omega) (by omega)
  have ls : builtin .list [bitsD p] S = .ok (.ref S.length) (S ++ [Ob.lst (p.map Pv.D.bl)]) := rfl
  obtain ⟨S1, hS1⟩ : ∃ S1, S1 = S ++ [Ob.lst (p.map Pv.D.bl)] := ⟨_, rfl⟩
  rw [← hS1] at ls
  have t1 := fun S => tup1_ok (.int 1) S
  have tt := fun S => tup1_ok (.bl true) S
  have tn := fun S => tup1_ok .non S
  have ad : ∀ S, binop .add (bitsD p) (.tup [.int 1]) S = .ok (.tup (p.map Pv.D.bl ++ [.int 1])) S := fun S => by
    unfold bitsD
    rw [add_tup (by simp; omega)]
  have s0 : ∀ S, subscr (bookD sides gs wish) (.int 0) S = .ok (bitsD sides) S := fun S => by simp [subscr, bookD]
  have lns : ∀ S, builtin .len [bitsD sides] S = .ok (.int sides.length) S := fun S => by simp [builtin, bitsD]
  have am : ∀ S, binop .add (.int sides.length) (.int 1) S = .ok (.int (sides.length + 1 : Nat)) S := fun S => by rw [add_int]; simp
  have mt := fun S => mul_true sides.length (by omega) S
  have nl := newLst_ok (xs := bads p sides.length S.length) (S := S1) (by simp [bads])
  obtain ⟨S2, hS2⟩ : ∃ S2, S2 = S1 ++ [Ob.lst (bads p sides.length S.length)] := ⟨_, rfl⟩
  rw [← hS2] at nl
  have nl : newLst [.ref S.length, .tup (p.map Pv.D.bl ++ [.int 1]), bitsD (List.replicate (sides.length + 1) true), .non, .str "1", .tup [.non]] S1 = .ok (.ref S1.length) S2 := nl
  have v2 : subscr (.ref dl) (.int 2) S2 = .ok (.int d2) S2 := sub_lst (by rw [hS2, hS1]; exact app_old (app_old hd)) (i := 2) (by unfold natD; rw [List.getElem?_map, hr]; rfl)
  obtain ⟨bad, hbad⟩ : ∃ y, (bads p sides.length S.length)[d2]? = some y := ⟨(bads p sides.length S.length)[d2]'(by simp [bads]; omega), by simp⟩
  have vb : subscr (.ref S1.length) (.int d2) S2 = .ok bad S2 := sub_lst (by rw [hS2]; simp) hbad
  obtain ⟨k1, k2⟩ := bads_bad (S := S2) (by rw [hS2, hS1]; exact app_old (by simp)) (by omega) (by omega) hbad
  have rf := refused_q (G := pd.G) (n := n) (d := 55) (S := S2) rfl (by rw [hS2, hS1]; exact (hb.app _).app _) k1 k2 (by omega)
  have rf : evQ pd.G n oldF 59 1 [.ref bo, bad] S2 = .ok (.bl true) S2 := rf
  refine ⟨S2, 0, ?_, rfl⟩
  obtain ⟨A, hA⟩ : ∃ A : Int, A = (sides.length + 1 : Nat) := ⟨_, rfl⟩
  rw [← hA] at am mt
  simp -implicitDefEqProofs [lawRest, c_law, gm, sm, ls, t1, ad, tt, s0, lns, am, mt, tn, nl, v2, vb, rf]
theorem gc_bl {S S' : Sto} (b : Bool) : ∃ S2, gc S (.ok (.bl b) S') = .ok (.bl b) S2 := by
  unfold gc
  simp only
  split
  · exact ⟨_, rfl⟩
  · exact ⟨_, rfl⟩
theorem word : Word := by
  intro ns x S hns hx
  have hs : IsScript x S ns := by
    rcases hx with ⟨h1, h2⟩ | ⟨h1, h2⟩
    · subst h1; subst h2; exact .inl ⟨rfl, rfl⟩
    · exact .inr h1
  obtain ⟨n, hn⟩ : ∃ n, n = 3000000 := ⟨_, rfl⟩
  refine ⟨n, ?_⟩
  -- the book
  obtain ⟨c0, hc0⟩ : ∃ c, c = (ns[0]?).getD 0 := ⟨_, rfl⟩
  have ec0 : evQ pd.G n oldF 59 11 [x, .int 0] S = .ok (.int c0) S := by rw [hc0]; exact law_cell_spec (d := 58) hs 0
  obtain ⟨sides, gs, wish, bk, eb⟩ := law_book_spec (G := pd.G) (n := n) (d := 57) (S := S) c0 (most := 7) (mg := 8) (by omega) (by omega) (by omega) (by omega)
  have eb : evQ pd.G n oldF 59 13 [.int c0, .int 7, .int 8] S = .ok (bookD sides gs wish) S := eb
  have hm := bk.sl
  have hg : GatesOk sides.length gs wish := ⟨bk.wf, bk.gl, fun g hg => by have := bk.r3 g hg; omega, bk.wi⟩
  have s0 : ∀ S, subscr (bookD sides gs wish) (.int 0) S = .ok (bitsD sides) S := fun S => by simp [subscr, bookD]
  have s1 : ∀ S, subscr (bookD sides gs wish) (.int 1) S = .ok (.tup (gs.map Gate.D)) S := fun S => by simp [subscr, bookD]
  have s2 : ∀ S, subscr (bookD sides gs wish) (.int 2) S = .ok (.int wish) S := fun S => by simp [subscr, bookD]
  have gl := bk.gl
  obtain ⟨en, hb1⟩ := book_new (G := pd.G) (n := n) (d := 52) (S := S) (σ := [some x, some (bookD sides gs wish), none, none, none, none, none, none, none, none, none, none, none]) (xs := .cons (.sub (.var 1) (.con (.int 0))) (.cons (.sub (.var 1) (.con (.int 1))) (.cons (.sub (.var 1) (.con (.int 2))) .nil))) bk.wf (by omega) (by omega) bk.wi (by omega) (by simp -implicitDefEqProofs [s0, s1, s2])
  obtain ⟨S1, hS1⟩ : ∃ S1, S1 = S ++ [bookO sides gs wish] := ⟨_, rfl⟩
  rw [← hS1] at en hb1
  have en : evE pd.G n (evQ pd.G n oldF 59) (mkQ pd.G n oldF 59) (.make 0 (.cons (.sub (.var 1) (.con (.int 0))) (.cons (.sub (.var 1) (.con (.int 1))) (.cons (.sub (.var 1) (.con (.int 2))) .nil)))) [some x, some (bookD sides gs wish), none, none, none, none, none, none, none, none, none, none, none] S = .ok (.ref S.length) S1 := en
  have hs1 : IsScript x S1 ns := by rw [hS1]; exact hs.app
  -- the digits
  obtain ⟨c1, hc1⟩ : ∃ c, c = (ns[1]?).getD 0 := ⟨_, rfl⟩
  have ec1 : evQ pd.G n oldF 59 11 [x, .int 1] S1 = .ok (.int c1) S1 := by rw [hc1]; exact law_cell_spec (d := 58) hs1 1
  have nl1 := newLst_ok (xs := natD [256, 9, 6]) (S := S1) (by simp [natD])
  obtain ⟨S2, hS2⟩ : ∃ S2, S2 = S1 ++ [Ob.lst (natD [256, 9, 6])] := ⟨_, rfl⟩
  rw [← hS2] at nl1
  have nl1 : newLst [.int 256, .int 9, .int 6] S1 = .ok (.ref S1.length) S2 := nl1
  obtain ⟨row, hrow, er⟩ := law_row_spec (G := pd.G) (n := n) (d := 58) (S := S2) c1 (bl := S1.length) (bs := [256, 9, 6]) (by rw [hS2]; simp) (by simp) (by simp) (by omega)
  obtain ⟨S3, hS3⟩ : ∃ S3, S3 = S2 ++ [Ob.lst (natD row)] := ⟨_, rfl⟩
  rw [← hS3] at er
  have er : evQ pd.G n oldF 59 10 [.int c1, .ref S1.length] S2 = .ok (.ref S2.length) S3 := er
  obtain ⟨r1, r2⟩ := hrow
  have r1 : row.length = 3 := r1
  obtain ⟨d0, q0⟩ : ∃ v, row[0]? = some v := ⟨row[0]'(by omega), by simp⟩
  obtain ⟨d1, q1⟩ : ∃ v, row[1]? = some v := ⟨row[1]'(by omega), by simp⟩
  obtain ⟨d2, q2⟩ : ∃ v, row[2]? = some v := ⟨row[2]'(by omega), by simp⟩
  have b2 : d2 < 6 := r2 2 d2 _ q2 rfl
  -- the layers
  have el := law_layers_spec (G := pd.G) (n := n) (d := 54) (S := S3) bk.wf (by omega) bk.wi (by omega) (by omega)
  obtain ⟨S4, hS4⟩ : ∃ S4, S4 = S3 ++ layersS S3.length (wonB gs wish) sides := ⟨_, rfl⟩
  rw [← hS4] at el
  have el : evQ pd.G n oldF 59 9 [bookD sides gs wish] S3 = .ok (.ref S3.length) S4 := el
  have L0 : S4[S3.length]? = some (.lst ((List.range (sides.length + 1)).map fun i => .ref (S3.length + (1 + i)))) := by rw [hS4]; simp [layersS]
  have L1 : ∀ j, j ≤ sides.length → S4[S3.length + (1 + j)]? = some (.lst ((layerB (wonB gs wish) sides j).map Pv.D.bl)) := fun j hj => by
    rw [hS4, app_at]
    unfold layersS
    rw [Nat.add_comm 1 j, List.getElem?_cons_succ, List.getElem?_map, List.getElem?_range (by omega)]
    rfl
  have D4 : S4[S2.length]? = some (.lst (natD row)) := by rw [hS4, hS3]; exact app_old (by simp)
  -- the counts
  obtain ⟨junk, co⟩ := counts_ev (n := n) (S := S4) (call := evQ pd.G n oldF 59) (mk := mkQ pd.G n oldF 59) (x0 := some x) (x1 := some (bookD sides gs wish)) (x2 := some (.ref S.length)) (x3 := some (.ref S2.length)) (x4 := some (.ref S3.length)) (by omega) (by omega) L0 L1
  obtain ⟨cs, hcs⟩ : ∃ cs, cs = (List.range (sides.length + 1)).map fun j => Pv.D.int (cntB (wonB gs wish) sides j : Nat) := ⟨_, rfl⟩
  rw [← hcs] at co
  obtain ⟨S5, hS5⟩ : ∃ S5, S5 = S4 ++ Ob.lst cs :: junk := ⟨_, rfl⟩
  rw [← hS5] at co
  have wl4 : walkOf (.ref S3.length) S4 = .ok (.lst S3.length) S4 := by simp only [walkOf, L0]
  have tp : builtin .tuple [.ref S4.length] S5 = .ok (.tup cs) S5 := tuple_lst (by rw [hS5]; simp)
  have hb5 : BookAt S5 S.length sides gs wish := by rw [hS5, hS4, hS3, hS2]; exact (((hb1.app _).app _).app _).app _
  have L05 : S5[S3.length]? = some (.lst ((List.range (sides.length + 1)).map fun i => .ref (S3.length + (1 + i)))) := by rw [hS5]; exact app_old L0
  have L15 : ∀ j, j ≤ sides.length → S5[S3.length + (1 + j)]? = some (.lst ((layerB (wonB gs wish) sides j).map Pv.D.bl)) := fun j hj => by rw [hS5]; exact app_old (L1 j hj)
  have D5 : S5[S2.length]? = some (.lst (natD row)) := by rw [hS5]; exact app_old D4
  -- the counts are right
  have pw := plays_won_q (G := pd.G) (n := n) (d := 50) (S := S5) hb5 rfl hg hm (by omega)
  rw [← cnt_top] at pw
  have pw : evQ pd.G n oldF 59 8 [.ref S.length] S5 = .ok (.int (cntB (wonB gs wish) sides sides.length : Nat)) S5 := pw
  have cl : subscr (.tup cs) (.int (-1)) S5 = .ok (.int (cntB (wonB gs wish) sides sides.length : Nat)) S5 := by
    have : cs = ((List.range sides.length).map fun j => Pv.D.int (cntB (wonB gs wish) sides j : Nat)) ++ [.int (cntB (wonB gs wish) sides sides.length : Nat)] := by
      rw [hcs, List.range_succ, List.map_append]; rfl
    rw [this]
    simp only [subscr, getAt_last]
  have sm1 : evQ pd.G n oldF 59 2 [.int (cntB (wonB gs wish) sides sides.length : Nat), .int (cntB (wonB gs wish) sides sides.length : Nat)] S5 = .ok (.bl true) S5 := law_same_num (d := 58) rfl
  have gb := good_begun_q (G := pd.G) (n := n) (d := 49) (S := S5) hb5 rfl hg hm (by omega)
  have gb : evQ pd.G n oldF 59 7 [.ref S.length] S5 = .ok (.tup cs) S5 := by rw [hcs]; exact gb
  have sm2 : evQ pd.G n oldF 59 2 [.tup cs, .tup cs] S5 = .ok (.bl true) S5 := law_same_tup (d := 57) (fun y hy => by
    rw [hcs] at hy
    obtain ⟨j, _, rfl⟩ := List.mem_map.mp hy; rfl) (by rw [hcs]; simp; omega) (by omega)
  -- the first flags
  have v0 : subscr (.ref S2.length) (.int 0) S5 = .ok (.int d0) S5 := sub_lst D5 (i := 0) (by unfold natD; rw [List.getElem?_map, q0]; rfl)
  have v1 : subscr (.ref S2.length) (.int 1) S5 = .ok (.int d1) S5 := sub_lst D5 (i := 1) (by unfold natD; rw [List.getElem?_map, q1]; rfl)
  have lns : ∀ S, builtin .len [bitsD sides] S = .ok (.int sides.length) S := fun S => by simp [builtin, bitsD]
  have am : ∀ S, binop .add (.int sides.length) (.int 1) S = .ok (.int (sides.length + 1 : Nat)) S := fun S => by rw [add_int]; simp
  have md : ∀ S, binop .mod (.int d1) (.int (sides.length + 1 : Nat)) S = .ok (.int (d1 % (sides.length + 1) : Nat)) S := fun S => by rw [mod_int _ _ (by omega)]; simp
  have hpl : d1 % (sides.length + 1) ≤ sides.length := by have := Nat.mod_lt d1 (show 0 < sides.length + 1 by omega); omega
  obtain ⟨p, hp, ep⟩ := law_bits_spec (G := pd.G) (n := n) (d := 58) (S := S5) d0 (d1 % (sides.length + 1)) (by omega) (by omega)
  have ep : evQ pd.G n oldF 59 6 [.int d0, .int (d1 % (sides.length + 1) : Nat)] S5 = .ok (bitsD p) S5 := ep
  have hp2 : p.length ≤ sides.length := by omega
  obtain ⟨s10, al⟩ := at_loop (n := n) (S := S5) (evQ pd.G n oldF 59) (mkQ pd.G n oldF 59) p (by omega) (some x) (some (bookD sides gs wish)) (some (.ref S.length)) (some (.ref S2.length)) (some (.ref S3.length)) (some (.tup cs)) none none (some (bitsD p))
  have wp : walkOf (bitsD p) S5 = .ok (.fix (p.map Pv.D.bl)) S5 := rfl
  have lnp : ∀ S, builtin .len [bitsD p] S = .ok (.int p.length) S := fun S => by simp [builtin, bitsD]
  have wb := winner_behind_q (G := pd.G) (n := n) (d := 49) (S := S5) hb5 rfl hg hm (by omega) p hp2
  have wb : evQ pd.G n oldF 59 5 [.ref S.length, bitsD p] S5 = .ok (.bl (winB (wonB gs wish) p (sides.drop p.length))) S5 := wb
  have g1 : subscr (.ref S3.length) (.int p.length) S5 = .ok (.ref (S3.length + (1 + p.length))) S5 := sub_lst L05 (i := p.length) (by
    rw [List.getElem?_map, List.getElem?_range (by omega)]; rfl)
  have g2 : subscr (.ref (S3.length + (1 + p.length))) (.int (idxP p : Nat)) S5 = .ok (.bl (winB (wonB gs wish) p (sides.drop p.length))) S5 := sub_lst (L15 p.length hp2) (i := idxP p) (by
    rw [List.getElem?_map, layer_get]; rfl)
  have fl : evQ pd.G n oldF 59 4 [.bl (winB (wonB gs wish) p (sides.drop p.length)), .bl (winB (wonB gs wish) p (sides.drop p.length))] S5 = .ok (.bl true) S5 := law_flag_spec (d := 58) _
  have t0 : ∀ S, newTup [] S = .ok (bitsD []) S := fun S => by
    unfold newTup
    rw [if_pos (by simp)]; rfl
  -- the whole, from its end
  obtain ⟨RR, hRR⟩ : ∃ r, r = lawRest := ⟨_, rfl⟩
  have fin : ∃ S', (evB pd.G n (evQ pd.G n oldF 59) (mkQ pd.G n oldF 59) c_law (startD 13 [x]) S).out = .ok (.bl true) S' := by
    rw [c_lawA_eq, ← hRR]
    obtain ⟨I0, hI0⟩ : ∃ A : Int, A = (idxP p : Nat) := ⟨_, rfl⟩
    obtain ⟨I1, hI1⟩ : ∃ A : Int, A = (sides.length + 1 : Nat) := ⟨_, rfl⟩
    obtain ⟨I2, hI2⟩ : ∃ A : Int, A = (d1 % (sides.length + 1) : Nat) := ⟨_, rfl⟩
    obtain ⟨K1, hK1⟩ : ∃ K, K = S3.length + (1 + p.length) := ⟨_, rfl⟩
    by_cases c : p.length < sides.length
    · have es : sides[p.length]? = some sides[p.length] := by simp [c]
      have nl6 := newLst_ok (xs := [.bl false, .bl true]) (S := S5) (by simp)
      obtain ⟨S6, hS6⟩ : ∃ S6, S6 = S5 ++ [Ob.lst [.bl false, .bl true]] := ⟨_, rfl⟩
      rw [← hS6] at nl6
      have l6 : S6[S5.length]? = some (.lst [.bl false, .bl true]) := by rw [hS6]; simp
      have w6 : walkOf (.ref S5.length) S6 = .ok (.lst S5.length) S6 := by simp only [walkOf, l6]
      have L06 : S6[S3.length]? = some (.lst ((List.range (sides.length + 1)).map fun i => .ref (S3.length + (1 + i)))) := by rw [hS6]; exact app_old L05
      have L16 : ∀ j, j ≤ sides.length → S6[S3.length + (1 + j)]? = some (.lst ((layerB (wonB gs wish) sides j).map Pv.D.bl)) := fun j hj => by rw [hS6]; exact app_old (L15 j hj)
      have u1 := due_turn (n := n) (S := S6) (evQ pd.G n oldF 59) (mkQ pd.G n oldF 59) (k := S3.length) (wish := wish) (sides := sides) (p := p) (due := []) (gs := gs) (f := wonB gs wish) (x0 := some x) (x2 := some (.ref S.length)) (x3 := some (.ref S2.length)) (x5 := some (.tup cs)) (x6 := none) (x7 := none) (s10 := s10) (x12 := none) c (by simp) L06 L16 es false
      have u2 := due_turn (n := n) (S := S6) (evQ pd.G n oldF 59) (mkQ pd.G n oldF 59) (k := S3.length) (wish := wish) (sides := sides) (p := p) (due := if (winB (wonB gs wish) (p ++ [false]) (sides.drop (p.length + 1)) == sides[p.length]) = true then [] ++ [false] else []) (gs := gs) (f := wonB gs wish) (x0 := some x) (x2 := some (.ref S.length)) (x3 := some (.ref S2.length)) (x5 := some (.tup cs)) (x6 := none) (x7 := none) (s10 := some (.bl false)) (x12 := none) c (by split <;> simp) L06 L16 es true
      have lp := loopF_two_lst (n := n) l6 (by omega) u1 u2
      have du : (if (winB (wonB gs wish) (p ++ [true]) (sides.drop (p.length + 1)) == sides[p.length]) = true then (if (winB (wonB gs wish) (p ++ [false]) (sides.drop (p.length + 1)) == sides[p.length]) = true then [] ++ [false] else []) ++ [true] else (if (winB (wonB gs wish) (p ++ [false]) (sides.drop (p.length + 1)) == sides[p.length]) = true then [] ++ [false] else [])) = goodMv (wonB gs wish) sides p := by
        unfold goodMv
        rw [es]
        simp only [List.filter_cons, List.filter_nil]
        cases (winB (wonB gs wish) (p ++ [false]) (sides.drop (p.length + 1)) == sides[p.length]) <;> cases (winB (wonB gs wish) (p ++ [true]) (sides.drop (p.length + 1)) == sides[p.length]) <;> rfl
      rw [du] at lp
      obtain ⟨S', σ', lt, _⟩ := law_tail (n := n) (S := S6) (bo := S.length) (dl := S2.length) (x0 := some x) (x4 := some (.ref S3.length)) (x5 := some (.tup cs)) (x6 := none) (x7 := none) (x9 := some (.int I0)) (x10 := some (.bl true)) (x12 := none) hn (by rw [hS6]; exact hb5.app _) hm hg hp2 (by rw [hS6]; exact app_old D5) q2 b2
      refine ⟨S', ?_⟩
      have lt1 : cmpop .lt (.int p.length) (.int sides.length) S5 = .ok (.bl true) S5 := by
        show R.ok (Pv.D.bl (decide ((p.length : Int) < sides.length))) S5 = _
        rw [decide_eq_true (by omega)]
      rw [← hI0] at al g2 lp
      rw [← hI1] at am md
      rw [← hI2] at md ep
      rw [← hK1] at g1 g2
      rw [← hRR] at lt
      simp only [atBody, dueBody, c_law] at al lp
      simp -implicitDefEqProofs [c_lawA, c_law, startD, ec0, eb, en, ec1, nl1, er, el, wl4, co, tp, pw, neg1_ev, cl, sm1, gb, sm2, v0, v1, s0, lns, am, md, ep, wp, al, wb, lnp, g1, g2, fl, t0, lt1, nl6, w6, lp, lt, -evE_make, -evE_neg]
    · have pe : p.length = sides.length := by omega
      have gm0 : goodMv (wonB gs wish) sides p = [] := by
        unfold goodMv
        have : sides[p.length]? = none := by rw [List.getElem?_eq_none_iff]; omega
        rw [this]
      obtain ⟨S', σ', lt, _⟩ := law_tail (n := n) (S := S5) (bo := S.length) (dl := S2.length) (x0 := some x) (x4 := some (.ref S3.length)) (x5 := some (.tup cs)) (x6 := none) (x7 := none) (x9 := some (.int I0)) (x10 := s10) (x12 := none) hn hb5 hm hg hp2 D5 q2 b2
      rw [gm0] at lt
      refine ⟨S', ?_⟩
      have lt1 : cmpop .lt (.int p.length) (.int sides.length) S5 = .ok (.bl false) S5 := by
        show R.ok (Pv.D.bl (decide ((p.length : Int) < sides.length))) S5 = _
        rw [decide_eq_false (by omega)]
      rw [← hI0] at al g2
      rw [← hI1] at am md
      rw [← hI2] at md ep
      rw [← hK1] at g1 g2
      rw [← hRR] at lt
      simp only [atBody, c_law] at al
      simp -implicitDefEqProofs [c_lawA, c_law, startD, ec0, eb, en, ec1, nl1, er, el, wl4, co, tp, pw, neg1_ev, cl, sm1, gb, sm2, v0, v1, s0, lns, am, md, ep, wp, al, wb, lnp, g1, g2, fl, t0, lt1, lt, -evE_make, -evE_neg]
  obtain ⟨S', fin⟩ := fin
  obtain ⟨S2', e2⟩ := gc_bl (S := S) (S' := S') true
  refine ⟨S2', ?_⟩
  have op := evQ_open (G := pd.G) (w := n) (old := oldF) (d := 59) (f := 0) (fn := ⟨1, 13, c_law⟩) (ds := [x]) (S := S) (by decide) rfl rfl
  rw [op, fin, e2]
end K74
end

set_option maxRecDepth 100000 in
set_option maxHeartbeats 0 in
theorem PySem.Challenge.cw_everyreply_k74_whole_counts_of_plays_holds : PySem.Challenge.rw_everyreply_k74_whole_counts_of_plays.Holds := by
  exact K74.row_of K74.word
