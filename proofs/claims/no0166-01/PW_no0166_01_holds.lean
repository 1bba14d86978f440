import PyProof.Rows.All
import Wide.All
import OpenK.AllK
import Wide.FinOn
import KE.IntBitsLaws
import KE.KBits
import KE.BitLaws
import PySem.Challenge.RW_no0166_01
set_option Elab.async false
set_option genInjectivity false
set_option genSizeOf false
set_option bootstrap.genMatcherCode false
section
open PySem PySem.W
namespace Mine
/-! The abstract machine: a small syntax, its values, its store, its evaluator -/

inductive Bop where
  | add | sub | mul | fdiv | mod | pow | shl | shr | band | bor | bxor
inductive Cop where
  | eq | ne | lt | le | gt | ge
inductive Att where
  | texts | anums | functors | fnums
noncomputable def Att.ix : Att → Nat
  | .texts => 0 | .anums => 1 | .functors => 2 | .fnums => 3

mutual
inductive E where
  | none | bool (b : Bool) | int (i : Int) | str (s : Str)
  | var (i : Nat) | glob (x : Str) | gs (x : Str)
  | bin (o : Bop) (a b : E) | neg (a : E) | not (a : E)
  | cmp (o : Cop) (a b : E)
  | and (a b : E) | or (a b : E) | ite (t a b : E)
  | call (f : Nat) (as : Es)
  | meth (f : Nat) (o : E) (as : Es)
  | exn (a : E) | newSym
  | len (a : E) | abs (a : E) | isStr (a : E) | isBool (a : E) | tupOf (a : E)
  | idx (a i : E) | attr (a : E) (x : Att)
  | tuple (es : Es) | list (es : Es) | dict0
  | pickd (ks : List Str) (es : Es) (k : E)
  | sort2 (a b i : E) | menu (l : List Str) (i : E)
  | inInts (neg : Bool) (a : E) (l : List Int) | inStrs (neg : Bool) (a : E) (l : List Str) | inV (neg : Bool) (a b : E)
  | isNil (a : E) | eqTold (a b : E)
  | append (o x : E) | pop (o : E) | dget (o k : E) (d : Int) | bitlen (a : E)
  | sumOf (a : E)
  | lcomp (x : Nat) (elt n : E) | lcompIf (x : Nat) (elt cond n : E)
inductive Es where
  | nil | cons (e : E) (es : Es)
end

mutual
inductive S where
  | assign (x : Nat) (e : E)
  | setAttr (o : E) (x : Att) (e : E)
  | setIdx (o i e : E)
  | setKey (o k e : E)
  | swap (x y : Nat) (a b : E)
  | augAdd (x : Nat) (e : E)
  | ite (t : E) (a b : Ss)
  | whil (t : E) (b : Ss)
  | forTup (x : Nat) (e : E) (b : Ss)
  | forRange (x : Nat) (e : E) (b : Ss)
  | forRev (x : Nat) (e : E) (b : Ss)
  | ret (e : E)
  | raise (e : E)
  | expr (e : E)
inductive Ss where
  | nil | cons (s : S) (ss : Ss)
end

inductive V where
  | bot
  | dat (d : Dat)
  | ref (n : Nat)
  | exn (d : Dat)
  | strs (l : List Str)

inductive Cell where
  | dl (l : List Dat)
  | vl (l : List V)
  | ed
  | sd (l : List (Str × Int))
  | pd (l : List ((Int × Int) × Int))
  | inst (l : List V)

noncomputable abbrev Hp := List Cell
noncomputable abbrev Env := List V

inductive Rs (α : Type) where
  | ok (a : α) (Λ : Hp)
  | err (d : Dat)
  | bad
noncomputable def Rs.bind {α β : Type} (r : Rs α) (f : α → Hp → Rs β) : Rs β := match r with
  | .ok a Λ => f a Λ
  | .err d => .err d
  | .bad => .bad
@[simp] theorem Rs.bind_ok {α β : Type} (a : α) (Λ : Hp) (f : α → Hp → Rs β) : (Rs.ok a Λ).bind f = f a Λ := rfl
@[simp] theorem Rs.bind_err {α β : Type} (d : Dat) (f : α → Hp → Rs β) : (Rs.err d).bind f = .err d := rfl
@[simp] theorem Rs.bind_bad {α β : Type} (f : α → Hp → Rs β) : (Rs.bad).bind f = .bad := rfl
/-- an answer that needs no store -/
noncomputable def lift {α : Type} (o : Option α) (Λ : Hp) : Rs α := match o with
  | some a => .ok a Λ
  | none => .bad
@[simp] theorem lift_some {α : Type} (a : α) (Λ : Hp) : lift (some a) Λ = .ok a Λ := rfl
@[simp] theorem lift_none {α : Type} (Λ : Hp) : lift (none : Option α) Λ = .bad := rfl

inductive RS where
  | next (ρ : Env) (Λ : Hp)
  | ret (v : V) (Λ : Hp)
  | err (d : Dat)
  | bad
noncomputable def Rs.then {α : Type} (r : Rs α) (f : α → Hp → RS) : RS := match r with
  | .ok a Λ => f a Λ
  | .err d => .err d
  | .bad => .bad
@[simp] theorem Rs.then_ok {α : Type} (a : α) (Λ : Hp) (f : α → Hp → RS) : (Rs.ok a Λ).then f = f a Λ := rfl
@[simp] theorem Rs.then_err {α : Type} (d : Dat) (f : α → Hp → RS) : (Rs.err d).then f = .err d := rfl
@[simp] theorem Rs.then_bad {α : Type} (f : α → Hp → RS) : (Rs.bad).then f = .bad := rfl
noncomputable def RS.seq (r : RS) (f : Env → Hp → RS) : RS := match r with
  | .next ρ Λ => f ρ Λ
  | r => r
@[simp] theorem RS.seq_next (ρ : Env) (Λ : Hp) (f : Env → Hp → RS) : (RS.next ρ Λ).seq f = f ρ Λ := rfl
@[simp] theorem RS.seq_ret (v : V) (Λ : Hp) (f : Env → Hp → RS) : (RS.ret v Λ).seq f = .ret v Λ := rfl
@[simp] theorem RS.seq_err (d : Dat) (f : Env → Hp → RS) : (RS.err d).seq f = .err d := rfl
@[simp] theorem RS.seq_bad (f : Env → Hp → RS) : (RS.bad).seq f = .bad := rfl

/-! the operations -/
noncomputable def mulOk (a b : Int) : Bool := @decide (IntMulOk a b) (Classical.propDecidable _)
noncomputable def bopI : Bop → Int → Int → Option Int
  | .add, a, b => some (a + b)
  | .sub, a, b => some (a - b)
  | .mul, a, b => if mulOk a b then some (a * b) else none
  | .fdiv, a, b => if b = 0 then none else some (a.fdiv b)
  | .mod, a, b => if b = 0 then none else some (a.fmod b)
  | .pow, a, b => if 0 ≤ b ∧ (Builtin.Int.intBits a : Int) * b ≤ 2 ^ 27 then some (a ^ b.toNat) else none
  | .shl, a, b => if 0 ≤ b ∧ (Builtin.Int.intBits a : Int) + b ≤ 2 ^ 27 then some (a * 2 ^ b.toNat) else none
  | .shr, a, b => if 0 ≤ b then some (a.fdiv (2 ^ b.toNat)) else none
  | .band, a, b => some (Builtin.bitAnd a b)
  | .bor, a, b => some (Builtin.bitOr a b)
  | .bxor, a, b => some (Builtin.bitXor a b)
noncomputable def cmpI : Cop → Int → Int → Bool
  | .eq, a, b => decide (a = b) | .ne, a, b => !decide (a = b) | .lt, a, b => decide (a < b)
  | .le, a, b => decide (a ≤ b) | .gt, a, b => decide (b < a) | .ge, a, b => decide (b ≤ a)

noncomputable def vBin (o : Bop) : V → V → Option V
  | .dat (.int a), .dat (.int b) => (bopI o a b).map fun i => .dat (.int i)
  | _, _ => none
noncomputable def vCmp (o : Cop) : V → V → Option V
  | .dat (.int a), .dat (.int b) => some (.dat (.bool (cmpI o a b)))
  | .dat (.str a), .dat (.str b) => (match o with
    | .eq => some (.dat (.bool (decide (a = b))))
    | .ne => some (.dat (.bool (!decide (a = b))))
    | _ => none)
  | .dat (.bool a), .dat (.bool b) => (match o with
    | .eq => some (.dat (.bool (a == b)))
    | .ne => some (.dat (.bool (a != b)))
    | _ => none)
  | _, _ => none
noncomputable def vNeg : V → Option V
  | .dat (.int a) => some (.dat (.int (-a)))
  | _ => none
noncomputable def vAbs : V → Option V
  | .dat (.int a) => some (.dat (.int a.natAbs))
  | _ => none
noncomputable def vBits : V → Option V
  | .dat (.int a) => some (.dat (.int (Builtin.Int.intBits a)))
  | _ => none
/-- truth -/
noncomputable def vTruth (Λ : Hp) : V → Option Bool
  | .dat (.bool b) => some b
  | .dat (.int i) => some (decide (i ≠ 0))
  | .ref n => (match Λ[n]? with
    | some (.dl l) => if l.length < 1000000 then some (!l.isEmpty) else none
    | _ => none)
  | _ => none
noncomputable def vNot (Λ : Hp) (v : V) : Option V := (vTruth Λ v).map fun b => .dat (.bool !b)
noncomputable def vLen (Λ : Hp) : V → Option V
  | .dat (.tuple l) => if l.length < 1000000 then some (.dat (.int l.length)) else none
  | .ref n => (match Λ[n]? with
    | some (.dl l) => if l.length < 1000000 then some (.dat (.int l.length)) else none
    | some (.vl l) => if l.length < 1000000 then some (.dat (.int l.length)) else none
    | _ => none)
  | _ => none
noncomputable def vIsStr : V → Option V
  | .dat (.str _) => some (.dat (.bool true))
  | .dat (.tuple _) => some (.dat (.bool false))
  | _ => none
noncomputable def vIsBool : V → Option V
  | .dat (.int _) => some (.dat (.bool false))
  | .dat (.tuple _) => some (.dat (.bool false))
  | _ => none
noncomputable def vTupOf (Λ : Hp) : V → Option V
  | .dat (.tuple l) => some (.dat (.tuple l))
  | .ref n => (match Λ[n]? with
    | some (.dl l) => if l.length < 1000000 then some (.dat (.tuple l)) else none
    | _ => none)
  | _ => none
noncomputable def natIx (i : Int) : Option Nat := if 0 ≤ i ∧ i < 1000000 then some i.toNat else none
noncomputable def vIdx (Λ : Hp) : V → V → Option V
  | .dat (.tuple l), .dat (.int i) => (natIx i).bind fun k => (l[k]?).map .dat
  | .ref n, .dat (.int i) => (natIx i).bind fun k => (match Λ[n]? with
    | some (.dl l) => (l[k]?).map .dat
    | some (.vl l) => l[k]?
    | _ => none)
  | .strs l, .dat (.int i) => (natIx i).bind fun k => (l[k]?).map fun x => .dat (.str x)
  | _, _ => none
noncomputable def vAttr (Λ : Hp) (x : Att) : V → Option V
  | .ref n => (match Λ[n]? with
    | some (.inst l) => l[x.ix]?
    | _ => none)
  | _ => none
noncomputable def dats : List V → Option (List Dat)
  | [] => some []
  | .dat d :: r => (dats r).map (d :: ·)
  | _ => none
noncomputable def vTuple (vs : List V) : Option V := if vs.length < 1000000 then (dats vs).map fun l => .dat (.tuple l) else none
/-- a new object -/
noncomputable def alloc (c : Cell) (Λ : Hp) : Rs V := .ok (.ref Λ.length) (Λ ++ [c])
noncomputable def vList (vs : List V) (Λ : Hp) : Rs V := if vs.length < 1000000 then (match dats vs with
  | some l => alloc (.dl l) Λ
  | none => alloc (.vl vs) Λ) else .bad
noncomputable def numsOf : List V → Option (List Int)
  | [] => some []
  | .dat (.int i) :: r => (numsOf r).map (i :: ·)
  | _ => none
noncomputable def vPickd (ks : List Str) (vs : List V) : V → Option V
  | .dat (.str k) => (numsOf vs).bind fun ds => ((ks.zip ds).lookup k).map fun i => .dat (.int i)
  | _ => none
noncomputable def vSort2 : V → V → V → Option V
  | .dat (.int a), .dat (.int b), .dat (.int i) => (natIx i).bind fun k => (if b < a then [b, a] else [a, b])[k]?.map fun j => .dat (.int j)
  | _, _, _ => none
noncomputable def intsD : List Dat → Option (List Int)
  | [] => some []
  | .int i :: r => (intsD r).map (i :: ·)
  | _ => none
noncomputable def vSum (Λ : Hp) : V → Option V
  | .ref n => (match Λ[n]? with
    | some (.dl l) => (intsD l).map fun is => .dat (.int is.sum)
    | _ => none)
  | _ => none
noncomputable def isII : V → V → Option Unit
  | .dat (.int _), .dat (.int _) => some ()
  | _, _ => none
noncomputable def isNone : V → Option Unit
  | .dat .none => some ()
  | _ => none
noncomputable def vMenu (l : List Str) : V → Option V
  | .dat (.int i) => (natIx i).bind fun k => l[k]?.map fun x => .dat (.str x)
  | _ => none
noncomputable def vInInts (neg : Bool) (l : List Int) : V → Option V
  | .dat (.int i) => some (.dat (.bool (neg != l.contains i)))
  | _ => none
noncomputable def vInStrs (neg : Bool) (l : List Str) : V → Option V
  | .dat (.str x) => some (.dat (.bool (neg != l.contains x)))
  | _ => none
noncomputable def vInV (neg : Bool) : V → V → Option V
  | v, .strs l => vInStrs neg l v
  | _, _ => none
noncomputable def vIsNil (Λ : Hp) : V → Option V
  | .ref n => (match Λ[n]? with
    | some (.dl l) => if l.all (kqdOk 8) then some (.dat (.bool l.isEmpty)) else none
    | _ => none)
  | _ => none
noncomputable def datEq (a b : Dat) : Bool := @decide (a = b) (Classical.propDecidable _)
noncomputable def vEqTold : V → V → Option V
  | .dat (.tuple [.bool a, x]), .dat (.tuple [.bool b, y]) => if kqdOk 8 x && kqdOk 8 y then some (.dat (.bool (a == b && datEq x y))) else none
  | _, _ => none
noncomputable def isL (Λ : Hp) : V → Option Unit
  | .ref n => (match Λ[n]? with
    | some (.dl _) => some ()
    | _ => none)
  | _ => none
noncomputable def isD (Λ : Hp) : V → Option Unit
  | .ref n => (match Λ[n]? with
    | some .ed => some ()
    | some (.sd _) => some ()
    | some (.pd _) => some ()
    | _ => none)
  | _ => none
noncomputable def vAppend (Λ : Hp) : V → V → Rs V
  | .ref n, .dat d => (match Λ[n]? with
    | some (.dl l) => if l.length < 1000000 then .ok (.dat .none) (Λ.set n (.dl (l ++ [d]))) else .bad
    | _ => .bad)
  | _, _ => .bad
noncomputable def vPop (Λ : Hp) : V → Rs V
  | .ref n => (match Λ[n]? with
    | some (.dl l) => if l.length < 1000000 then (match l.getLast? with
      | some d => .ok (.dat d) (Λ.set n (.dl l.dropLast))
      | none => .bad) else .bad
    | _ => .bad)
  | _ => .bad
noncomputable def vDget (Λ : Hp) (d : Int) : V → V → Option V
  | .ref n, .dat (.str x) => (match Λ[n]? with
    | some .ed => some (.dat (.int d))
    | some (.sd l) => some (.dat (.int ((l.lookup x).getD d)))
    | _ => none)
  | .ref n, .dat (.tuple [.int a, .int b]) => (match Λ[n]? with
    | some .ed => some (.dat (.int d))
    | some (.pd l) => some (.dat (.int ((l.lookup (a, b)).getD d)))
    | _ => none)
  | _, _ => none
noncomputable def vSetKey (Λ : Hp) : V → V → V → Option Hp
  | .ref n, .dat (.str x), .dat (.int v) => (match Λ[n]? with
    | some .ed => some (Λ.set n (.sd [(x, v)]))
    | some (.sd l) => if (l.lookup x).isSome ∨ 1000000 ≤ l.length then none else some (Λ.set n (.sd (l ++ [(x, v)])))
    | _ => none)
  | .ref n, .dat (.tuple [.int a, .int b]), .dat (.int v) => (match Λ[n]? with
    | some .ed => some (Λ.set n (.pd [((a, b), v)]))
    | some (.pd l) => if (l.lookup (a, b)).isSome ∨ 1000000 ≤ l.length then none else some (Λ.set n (.pd (l ++ [((a, b), v)])))
    | _ => none)
  | _, _, _ => none
noncomputable def vSetIdx (Λ : Hp) : V → V → V → Option Hp
  | .ref n, .dat (.int i), v => (natIx i).bind fun k => (match Λ[n]? with
    | some (.vl l) => if k < l.length then some (Λ.set n (.vl (l.set k v))) else none
    | _ => none)
  | _, _, _ => none
noncomputable def vSetAttr (Λ : Hp) (x : Att) : V → V → Option Hp
  | .ref n, v => (match Λ[n]? with
    | some (.inst l) => if l.length = x.ix then some (Λ.set n (.inst (l ++ [v]))) else none
    | _ => none)
  | _, _ => none
noncomputable def vExn : V → Option V
  | .dat d => some (.exn d)
  | _ => none
noncomputable def rangeOf : V → Option Nat
  | .dat (.int i) => if -1000000 < i ∧ i < 1000000 then some i.toNat else none
  | _ => none
noncomputable def itemsOf : V → Option (List Dat)
  | .dat (.tuple l) => if l.length < 1000000 then some l else none
  | _ => none

/-! the tables: global data, global sequences -/
structure Fn where
  arity : Nat
  locs : Nat
  view : Nat
  keep : Bool
  body : Ss
structure Tabs where
  glob : Str → Option Dat
  gs : Str → Option (List Str)
  fn : Nat → Option Fn
  init : Nat
  loop : Nat

noncomputable def calm {α : Type} : Rs α → Rs α
  | .err _ => .bad
  | r => r
noncomputable def compLoop (f : Nat → Hp → Rs Unit) : Nat → Nat → Hp → Rs Unit
  | 0, _, Λ => .ok () Λ
  | n + 1, i, Λ => (calm (f i Λ)).bind fun _ Λ₁ => compLoop f n (i + 1) Λ₁
noncomputable def addTo (j : Nat) (v : V) (Λ : Hp) : Rs Unit := (vAppend Λ (.ref j) v).bind fun _ Λ => .ok () Λ

section
variable (tb : Tabs) (cl : Nat → List V → Hp → Rs V)
mutual
noncomputable def evE (ρ : Env) : E → Hp → Rs V
  | .none, Λ => .ok (.dat .none) Λ
  | .bool b, Λ => .ok (.dat (.bool b)) Λ
  | .int i, Λ => .ok (.dat (.int i)) Λ
  | .str x, Λ => .ok (.dat (.str x)) Λ
  | .var i, Λ => (match ρ[i]? with
    | some .bot => .bad
    | some v => .ok v Λ
    | none => .bad)
  | .glob x, Λ => lift ((tb.glob x).map .dat) Λ
  | .gs x, Λ => lift ((tb.gs x).map .strs) Λ
  | .bin o a b, Λ => (evE ρ a Λ).bind fun x Λ => (evE ρ b Λ).bind fun y Λ => lift (vBin o x y) Λ
  | .neg a, Λ => (evE ρ a Λ).bind fun x Λ => lift (vNeg x) Λ
  | .not a, Λ => (evE ρ a Λ).bind fun x Λ => lift (vNot Λ x) Λ
  | .cmp o a b, Λ => (evE ρ a Λ).bind fun x Λ => (evE ρ b Λ).bind fun y Λ => lift (vCmp o x y) Λ
  | .and a b, Λ => (evE ρ a Λ).bind fun x Λ => (lift (vTruth Λ x) Λ).bind fun t Λ => if t then evE ρ b Λ else .ok x Λ
  | .or a b, Λ => (evE ρ a Λ).bind fun x Λ => (lift (vTruth Λ x) Λ).bind fun t Λ => if t then .ok x Λ else evE ρ b Λ
  | .ite t a b, Λ => (evE ρ t Λ).bind fun x Λ => (lift (vTruth Λ x) Λ).bind fun t Λ => if t then evE ρ a Λ else evE ρ b Λ
  | .call f as, Λ => (evEs ρ as Λ).bind fun vs Λ => cl f vs Λ
  | .meth f o as, Λ => (evE ρ o Λ).bind fun x Λ => (match x with
    | .ref n => (match Λ[n]? with
      | some (.inst _) => (evEs ρ as Λ).bind fun vs Λ => cl f (x :: vs) Λ
      | _ => .bad)
    | _ => .bad)
  | .exn a, Λ => (evE ρ a Λ).bind fun x Λ => lift (vExn x) Λ
  | .newSym, Λ => (cl tb.init [.ref Λ.length] (Λ ++ [.inst []])).bind fun v Λ' => (lift (isNone v) Λ').bind fun _ Λ' => .ok (.ref Λ.length) Λ'
  | .len a, Λ => (evE ρ a Λ).bind fun x Λ => lift (vLen Λ x) Λ
  | .abs a, Λ => (evE ρ a Λ).bind fun x Λ => lift (vAbs x) Λ
  | .isStr a, Λ => (evE ρ a Λ).bind fun x Λ => lift (vIsStr x) Λ
  | .isBool a, Λ => (evE ρ a Λ).bind fun x Λ => lift (vIsBool x) Λ
  | .tupOf a, Λ => (evE ρ a Λ).bind fun x Λ => lift (vTupOf Λ x) Λ
  | .idx a i, Λ => (evE ρ a Λ).bind fun x Λ => (evE ρ i Λ).bind fun y Λ => lift (vIdx Λ x y) Λ
  | .attr a x, Λ => (evE ρ a Λ).bind fun v Λ => lift (vAttr Λ x v) Λ
  | .tuple es, Λ => (evEs ρ es Λ).bind fun vs Λ => lift (vTuple vs) Λ
  | .list es, Λ => (evEs ρ es Λ).bind fun vs Λ => vList vs Λ
  | .dict0, Λ => alloc .ed Λ
  | .pickd ks es k, Λ => (evEs ρ es Λ).bind fun vs Λ => (evE ρ k Λ).bind fun x Λ => lift (vPickd ks vs x) Λ
  | .sort2 a b i, Λ => (evE ρ a Λ).bind fun x Λ => (evE ρ b Λ).bind fun y Λ => (lift (isII x y) Λ).bind fun _ Λ => (evE ρ i Λ).bind fun z Λ => lift (vSort2 x y z) Λ
  | .menu l i, Λ => (evE ρ i Λ).bind fun x Λ => lift (vMenu l x) Λ
  | .inInts n a l, Λ => (evE ρ a Λ).bind fun x Λ => lift (vInInts n l x) Λ
  | .inStrs n a l, Λ => (evE ρ a Λ).bind fun x Λ => lift (vInStrs n l x) Λ
  | .inV n a b, Λ => (evE ρ a Λ).bind fun x Λ => (evE ρ b Λ).bind fun y Λ => lift (vInV n x y) Λ
  | .isNil a, Λ => (evE ρ a Λ).bind fun x Λ => lift (vIsNil Λ x) Λ
  | .eqTold a b, Λ => (evE ρ a Λ).bind fun x Λ => (evE ρ b Λ).bind fun y Λ => lift (vEqTold x y) Λ
  | .append o a, Λ => (evE ρ o Λ).bind fun x Λ => (lift (isL Λ x) Λ).bind fun _ Λ => (evE ρ a Λ).bind fun y Λ => vAppend Λ x y
  | .pop o, Λ => (evE ρ o Λ).bind fun x Λ => vPop Λ x
  | .dget o k d, Λ => (evE ρ o Λ).bind fun x Λ => (lift (isD Λ x) Λ).bind fun _ Λ => (evE ρ k Λ).bind fun y Λ => lift (vDget Λ d x y) Λ
  | .bitlen a, Λ => (evE ρ a Λ).bind fun x Λ => lift (vBits x) Λ
  | .sumOf a, Λ => (evE ρ a Λ).bind fun x Λ => lift (vSum Λ x) Λ
  | .lcomp x e n, Λ => (evE ρ n Λ).bind fun v Λ => (lift (rangeOf v) Λ).bind fun k Λ =>
      (compLoop (fun i Λ' => (evE (ρ.set x (.dat (.int i))) e Λ').bind fun d Λ' => addTo Λ.length d Λ') k 0 (Λ ++ [.dl []])).bind fun _ Λ' => .ok (.ref Λ.length) Λ'
  | .lcompIf x e c n, Λ => (evE ρ n Λ).bind fun v Λ => (lift (rangeOf v) Λ).bind fun k Λ =>
      (compLoop (fun i Λ' => (evE (ρ.set x (.dat (.int i))) c Λ').bind fun b Λ' => (lift (vTruth Λ' b) Λ').bind fun b Λ' =>
        if b then (evE (ρ.set x (.dat (.int i))) e Λ').bind fun d Λ' => addTo Λ.length d Λ' else .ok () Λ') k 0 (Λ ++ [.dl []])).bind fun _ Λ' => .ok (.ref Λ.length) Λ'
noncomputable def evEs (ρ : Env) : Es → Hp → Rs (List V)
  | .nil, Λ => .ok [] Λ
  | .cons e es, Λ => (evE ρ e Λ).bind fun v Λ => (evEs ρ es Λ).bind fun vs Λ => .ok (v :: vs) Λ
end
noncomputable def whl (t : Env → Hp → Rs Bool) (b : Env → Hp → RS) : Nat → Env → Hp → RS
  | 0, _, _ => .bad
  | n + 1, ρ, Λ => (t ρ Λ).then fun c Λ => if c then (b ρ Λ).seq (whl t b n) else .next ρ Λ
noncomputable def forl (x : Nat) (b : Env → Hp → RS) : List V → Env → Hp → RS
  | [], ρ, Λ => .next ρ Λ
  | v :: vs, ρ, Λ => if x < ρ.length then (b (ρ.set x v) Λ).seq (forl x b vs) else .bad
noncomputable def put (x : Nat) (v : V) (ρ : Env) (Λ : Hp) : RS := if x < ρ.length then .next (ρ.set x v) Λ else .bad
noncomputable def liftS (ρ : Env) : Option Hp → RS
  | some Λ => .next ρ Λ
  | none => .bad
noncomputable def vRaise : V → RS
  | .exn d => .err d
  | _ => .bad
mutual
noncomputable def exS : S → Env → Hp → RS
  | .assign x e, ρ, Λ => (evE tb cl ρ e Λ).then fun v Λ => put x v ρ Λ
  | .setAttr o x e, ρ, Λ => (evE tb cl ρ e Λ).then fun v Λ => (evE tb cl ρ o Λ).then fun w Λ => liftS ρ (vSetAttr Λ x w v)
  | .setIdx o i e, ρ, Λ => (evE tb cl ρ e Λ).then fun v Λ => (evE tb cl ρ o Λ).then fun w Λ => (evE tb cl ρ i Λ).then fun j Λ => liftS ρ (vSetIdx Λ w j v)
  | .setKey o k e, ρ, Λ => (evE tb cl ρ e Λ).then fun v Λ => (evE tb cl ρ o Λ).then fun w Λ => (evE tb cl ρ k Λ).then fun j Λ => liftS ρ (vSetKey Λ w j v)
  | .swap x y a b, ρ, Λ => (evE tb cl ρ a Λ).then fun v Λ => (evE tb cl ρ b Λ).then fun w Λ => (put x v ρ Λ).seq (put y w)
  | .augAdd x e, ρ, Λ => (evE tb cl ρ (.bin .add (.var x) e) Λ).then fun v Λ => put x v ρ Λ
  | .ite t a b, ρ, Λ => (evE tb cl ρ t Λ).then fun x Λ => (lift (vTruth Λ x) Λ).then fun t Λ => if t then exSs a ρ Λ else exSs b ρ Λ
  | .whil t b, ρ, Λ => whl (fun ρ Λ => (evE tb cl ρ t Λ).bind fun x Λ => lift (vTruth Λ x) Λ) (fun ρ Λ => exSs b ρ Λ) tb.loop ρ Λ
  | .forTup x e b, ρ, Λ => (evE tb cl ρ e Λ).then fun v Λ => (lift (itemsOf v) Λ).then fun l Λ => forl x (fun ρ Λ => exSs b ρ Λ) (l.map .dat) ρ Λ
  | .forRange x e b, ρ, Λ => (evE tb cl ρ e Λ).then fun v Λ => (lift (rangeOf v) Λ).then fun n Λ => forl x (fun ρ Λ => exSs b ρ Λ) ((List.range n).map fun (i : Nat) => .dat (.int (i : Int))) ρ Λ
  | .forRev x e b, ρ, Λ => (evE tb cl ρ e Λ).then fun v Λ => (lift (itemsOf v) Λ).then fun l Λ => forl x (fun ρ Λ => exSs b ρ Λ) (l.reverse.map .dat) ρ Λ
  | .ret e, ρ, Λ => (evE tb cl ρ e Λ).then fun v Λ => .ret v Λ
  | .raise e, ρ, Λ => (evE tb cl ρ e Λ).then fun v _ => vRaise v
  | .expr e, ρ, Λ => (evE tb cl ρ e Λ).then fun _ Λ => .next ρ Λ
noncomputable def exSs : Ss → Env → Hp → RS
  | .nil, ρ, Λ => .next ρ Λ
  | .cons s ss, ρ, Λ => (exS s ρ Λ).seq fun ρ Λ => exSs ss ρ Λ
end
end

noncomputable def refOk (k : Nat) : V → Bool
  | .ref n => decide (n < k)
  | _ => true
noncomputable def cellOk (k : Nat) : Cell → Bool
  | .vl l => l.all (refOk k)
  | .inst l => l.all (refOk k)
  | _ => true
noncomputable def finCall (F : Fn) (k : Nat) (Λ : Hp) (v : V) (Λ' : Hp) : Rs V :=
  if F.keep then (if k ≤ Λ'.length then .ok v Λ' else .bad)
  else if k ≤ Λ'.length ∧ refOk k v = true ∧ (Λ'.take k).all (cellOk k) = true then .ok v (Λ'.take k ++ Λ.drop k) else .bad
noncomputable def outCall (F : Fn) (k : Nat) (Λ : Hp) (r : RS) : Rs V := match r with
  | .ret v Λ' => finCall F k Λ v Λ'
  | .next _ Λ' => finCall F k Λ (.dat .none) Λ'
  | .err d => .err d
  | .bad => .bad
noncomputable def viewOf (F : Fn) (Λ : Hp) : Nat := if F.keep then Λ.length else F.view
noncomputable def evCall (tb : Tabs) : Nat → Nat → List V → Hp → Rs V
  | 0, _, _, _ => .bad
  | n + 1, f, args, Λ => match tb.fn f with
    | none => .bad
    | some F =>
      if args.length = F.arity ∧ viewOf F Λ ≤ Λ.length ∧ args.all (refOk (viewOf F Λ)) = true ∧ (Λ.take (viewOf F Λ)).all (cellOk (viewOf F Λ)) = true then
        outCall F (viewOf F Λ) Λ (exSs tb (evCall tb n) F.body (args ++ List.replicate F.locs .bot) (Λ.take (viewOf F Λ)))
      else .bad
end Mine

end
section
set_option autoImplicit true
set_option maxRecDepth 100000
open PySem PySem.W
namespace Mine
section
variable {tb : Tabs} {cl : Nat → List V → Hp → Rs V} {ρ : Env} {Λ : Hp}
theorem q0 : evE tb cl ρ (E.none) Λ = .ok (.dat .none) Λ := rfl
theorem q1 {b} : evE tb cl ρ (E.bool b) Λ = .ok (.dat (.bool b)) Λ := rfl
theorem q2 {i} : evE tb cl ρ (E.int i) Λ = .ok (.dat (.int i)) Λ := rfl
theorem q3 {x} : evE tb cl ρ (E.str x) Λ = .ok (.dat (.str x)) Λ := rfl
theorem q4 {i} : evE tb cl ρ (E.var i) Λ = (match ρ[i]? with
      | some .bot => .bad
      | some v => .ok v Λ
      | none => .bad) := rfl
theorem q5 {x} : evE tb cl ρ (E.glob x) Λ = lift ((tb.glob x).map .dat) Λ := rfl
theorem q6 {x} : evE tb cl ρ (E.gs x) Λ = lift ((tb.gs x).map .strs) Λ := rfl
theorem q7 {o a b} : evE tb cl ρ (E.bin o a b) Λ = (evE tb cl ρ a Λ).bind fun x Λ => (evE tb cl ρ b Λ).bind fun y Λ => lift (vBin o x y) Λ := rfl
theorem q8 {a} : evE tb cl ρ (E.neg a) Λ = (evE tb cl ρ a Λ).bind fun x Λ => lift (vNeg x) Λ := rfl
theorem q9 {a} : evE tb cl ρ (E.not a) Λ = (evE tb cl ρ a Λ).bind fun x Λ => lift (vNot Λ x) Λ := rfl
theorem q10 {o a b} : evE tb cl ρ (E.cmp o a b) Λ = (evE tb cl ρ a Λ).bind fun x Λ => (evE tb cl ρ b Λ).bind fun y Λ => lift (vCmp o x y) Λ := rfl
theorem q11 {a b} : evE tb cl ρ (E.and a b) Λ = (evE tb cl ρ a Λ).bind fun x Λ => (lift (vTruth Λ x) Λ).bind fun t Λ => if t then evE tb cl ρ b Λ else .ok x Λ := rfl
theorem q12 {a b} : evE tb cl ρ (E.or a b) Λ = (evE tb cl ρ a Λ).bind fun x Λ => (lift (vTruth Λ x) Λ).bind fun t Λ => if t then .ok x Λ else evE tb cl ρ b Λ := rfl
theorem q13 {t a b} : evE tb cl ρ (E.ite t a b) Λ = (evE tb cl ρ t Λ).bind fun x Λ => (lift (vTruth Λ x) Λ).bind fun t Λ => if t then evE tb cl ρ a Λ else evE tb cl ρ b Λ := rfl
theorem q14 {f as} : evE tb cl ρ (E.call f as) Λ = (evEs tb cl ρ as Λ).bind fun vs Λ => cl f vs Λ := rfl
theorem q15 {f o as} : evE tb cl ρ (E.meth f o as) Λ = (evE tb cl ρ o Λ).bind fun x Λ => (match x with
      | .ref n => (match Λ[n]? with
      | some (.inst _) => (evEs tb cl ρ as Λ).bind fun vs Λ => cl f (x :: vs) Λ
      | _ => .bad)
      | _ => .bad) := rfl
theorem q16 {a} : evE tb cl ρ (E.exn a) Λ = (evE tb cl ρ a Λ).bind fun x Λ => lift (vExn x) Λ := rfl
theorem q17 : evE tb cl ρ (E.newSym) Λ = (cl tb.init [.ref Λ.length] (Λ ++ [.inst []])).bind fun v Λ' => (lift (isNone v) Λ').bind fun _ Λ' => .ok (.ref Λ.length) Λ' := rfl
theorem q18 {a} : evE tb cl ρ (E.len a) Λ = (evE tb cl ρ a Λ).bind fun x Λ => lift (vLen Λ x) Λ := rfl
theorem q19 {a} : evE tb cl ρ (E.abs a) Λ = (evE tb cl ρ a Λ).bind fun x Λ => lift (vAbs x) Λ := rfl
theorem q20 {a} : evE tb cl ρ (E.isStr a) Λ = (evE tb cl ρ a Λ).bind fun x Λ => lift (vIsStr x) Λ := rfl
theorem q21 {a} : evE tb cl ρ (E.isBool a) Λ = (evE tb cl ρ a Λ).bind fun x Λ => lift (vIsBool x) Λ := rfl
theorem q22 {a} : evE tb cl ρ (E.tupOf a) Λ = (evE tb cl ρ a Λ).bind fun x Λ => lift (vTupOf Λ x) Λ := rfl
theorem q23 {a i} : evE tb cl ρ (E.idx a i) Λ = (evE tb cl ρ a Λ).bind fun x Λ => (evE tb cl ρ i Λ).bind fun y Λ => lift (vIdx Λ x y) Λ := rfl
theorem q24 {a x} : evE tb cl ρ (E.attr a x) Λ = (evE tb cl ρ a Λ).bind fun v Λ => lift (vAttr Λ x v) Λ := rfl
theorem q25 {es} : evE tb cl ρ (E.tuple es) Λ = (evEs tb cl ρ es Λ).bind fun vs Λ => lift (vTuple vs) Λ := rfl
theorem q26 {es} : evE tb cl ρ (E.list es) Λ = (evEs tb cl ρ es Λ).bind fun vs Λ => vList vs Λ := rfl
theorem q27 : evE tb cl ρ (E.dict0) Λ = alloc .ed Λ := rfl
theorem q28 {ks es k} : evE tb cl ρ (E.pickd ks es k) Λ = (evEs tb cl ρ es Λ).bind fun vs Λ => (evE tb cl ρ k Λ).bind fun x Λ => lift (vPickd ks vs x) Λ := rfl
theorem q29 {a b i} : evE tb cl ρ (E.sort2 a b i) Λ = (evE tb cl ρ a Λ).bind fun x Λ => (evE tb cl ρ b Λ).bind fun y Λ => (lift (isII x y) Λ).bind fun _ Λ => (evE tb cl ρ i Λ).bind fun z Λ => lift (vSort2 x y z) Λ := rfl
theorem q30 {l i} : evE tb cl ρ (E.menu l i) Λ = (evE tb cl ρ i Λ).bind fun x Λ => lift (vMenu l x) Λ := rfl
theorem q31 {n a l} : evE tb cl ρ (E.inInts n a l) Λ = (evE tb cl ρ a Λ).bind fun x Λ => lift (vInInts n l x) Λ := rfl
theorem q32 {n a l} : evE tb cl ρ (E.inStrs n a l) Λ = (evE tb cl ρ a Λ).bind fun x Λ => lift (vInStrs n l x) Λ := rfl
theorem q33 {n a b} : evE tb cl ρ (E.inV n a b) Λ = (evE tb cl ρ a Λ).bind fun x Λ => (evE tb cl ρ b Λ).bind fun y Λ => lift (vInV n x y) Λ := rfl
theorem q34 {a} : evE tb cl ρ (E.isNil a) Λ = (evE tb cl ρ a Λ).bind fun x Λ => lift (vIsNil Λ x) Λ := rfl
theorem q35 {a b} : evE tb cl ρ (E.eqTold a b) Λ = (evE tb cl ρ a Λ).bind fun x Λ => (evE tb cl ρ b Λ).bind fun y Λ => lift (vEqTold x y) Λ := rfl
theorem q36 {o a} : evE tb cl ρ (E.append o a) Λ = (evE tb cl ρ o Λ).bind fun x Λ => (lift (isL Λ x) Λ).bind fun _ Λ => (evE tb cl ρ a Λ).bind fun y Λ => vAppend Λ x y := rfl
theorem q37 {o} : evE tb cl ρ (E.pop o) Λ = (evE tb cl ρ o Λ).bind fun x Λ => vPop Λ x := rfl
theorem q38 {o k d} : evE tb cl ρ (E.dget o k d) Λ = (evE tb cl ρ o Λ).bind fun x Λ => (lift (isD Λ x) Λ).bind fun _ Λ => (evE tb cl ρ k Λ).bind fun y Λ => lift (vDget Λ d x y) Λ := rfl
theorem q39 {a} : evE tb cl ρ (E.bitlen a) Λ = (evE tb cl ρ a Λ).bind fun x Λ => lift (vBits x) Λ := rfl
theorem q40 {a} : evE tb cl ρ (E.sumOf a) Λ = (evE tb cl ρ a Λ).bind fun x Λ => lift (vSum Λ x) Λ := rfl
theorem q41 {x e n} : evE tb cl ρ (E.lcomp x e n) Λ = (evE tb cl ρ n Λ).bind fun v Λ => (lift (rangeOf v) Λ).bind fun k Λ =>
      (compLoop (fun i Λ' => (evE tb cl (ρ.set x (.dat (.int i))) e Λ').bind fun d Λ' => addTo Λ.length d Λ') k 0 (Λ ++ [.dl []])).bind fun _ Λ' => .ok (.ref Λ.length) Λ' := rfl
theorem q42 {x e c n} : evE tb cl ρ (E.lcompIf x e c n) Λ = (evE tb cl ρ n Λ).bind fun v Λ => (lift (rangeOf v) Λ).bind fun k Λ =>
      (compLoop (fun i Λ' => (evE tb cl (ρ.set x (.dat (.int i))) c Λ').bind fun b Λ' => (lift (vTruth Λ' b) Λ').bind fun b Λ' =>
      if b then (evE tb cl (ρ.set x (.dat (.int i))) e Λ').bind fun d Λ' => addTo Λ.length d Λ' else .ok () Λ') k 0 (Λ ++ [.dl []])).bind fun _ Λ' => .ok (.ref Λ.length) Λ' := rfl
theorem qs0 : evEs tb cl ρ (Es.nil) Λ = .ok [] Λ := rfl
theorem qs1 {e es} : evEs tb cl ρ (Es.cons e es) Λ = (evE tb cl ρ e Λ).bind fun v Λ => (evEs tb cl ρ es Λ).bind fun vs Λ => .ok (v :: vs) Λ := rfl
theorem r0 {x e} : exS tb cl (Mine.S.assign x e) ρ Λ = (evE tb cl ρ e Λ).then fun v Λ => put x v ρ Λ := rfl
theorem r1 {o x e} : exS tb cl (Mine.S.setAttr o x e) ρ Λ = (evE tb cl ρ e Λ).then fun v Λ => (evE tb cl ρ o Λ).then fun w Λ => liftS ρ (vSetAttr Λ x w v) := rfl
theorem r2 {o i e} : exS tb cl (Mine.S.setIdx o i e) ρ Λ = (evE tb cl ρ e Λ).then fun v Λ => (evE tb cl ρ o Λ).then fun w Λ => (evE tb cl ρ i Λ).then fun j Λ => liftS ρ (vSetIdx Λ w j v) := rfl
theorem r3 {o k e} : exS tb cl (Mine.S.setKey o k e) ρ Λ = (evE tb cl ρ e Λ).then fun v Λ => (evE tb cl ρ o Λ).then fun w Λ => (evE tb cl ρ k Λ).then fun j Λ => liftS ρ (vSetKey Λ w j v) := rfl
theorem r4 {x y a b} : exS tb cl (Mine.S.swap x y a b) ρ Λ = (evE tb cl ρ a Λ).then fun v Λ => (evE tb cl ρ b Λ).then fun w Λ => (put x v ρ Λ).seq (put y w) := rfl
theorem r5 {x e} : exS tb cl (Mine.S.augAdd x e) ρ Λ = (evE tb cl ρ (.bin .add (.var x) e) Λ).then fun v Λ => put x v ρ Λ := rfl
theorem r6 {t a b} : exS tb cl (Mine.S.ite t a b) ρ Λ = (evE tb cl ρ t Λ).then fun x Λ => (lift (vTruth Λ x) Λ).then fun t Λ => if t then exSs tb cl a ρ Λ else exSs tb cl b ρ Λ := rfl
theorem r7 {t b} : exS tb cl (Mine.S.whil t b) ρ Λ = whl (fun ρ Λ => (evE tb cl ρ t Λ).bind fun x Λ => lift (vTruth Λ x) Λ) (fun ρ Λ => exSs tb cl b ρ Λ) tb.loop ρ Λ := rfl
theorem r8 {x e b} : exS tb cl (Mine.S.forTup x e b) ρ Λ = (evE tb cl ρ e Λ).then fun v Λ => (lift (itemsOf v) Λ).then fun l Λ => forl x (fun ρ Λ => exSs tb cl b ρ Λ) (l.map .dat) ρ Λ := rfl
theorem r9 {x e b} : exS tb cl (Mine.S.forRange x e b) ρ Λ = (evE tb cl ρ e Λ).then fun v Λ => (lift (rangeOf v) Λ).then fun n Λ => forl x (fun ρ Λ => exSs tb cl b ρ Λ) ((List.range n).map fun (i : Nat) => .dat (.int (i : Int))) ρ Λ := rfl
theorem r10 {x e b} : exS tb cl (Mine.S.forRev x e b) ρ Λ = (evE tb cl ρ e Λ).then fun v Λ => (lift (itemsOf v) Λ).then fun l Λ => forl x (fun ρ Λ => exSs tb cl b ρ Λ) (l.reverse.map .dat) ρ Λ := rfl
theorem r11 {e} : exS tb cl (Mine.S.ret e) ρ Λ = (evE tb cl ρ e Λ).then fun v Λ => .ret v Λ := rfl
theorem r12 {e} : exS tb cl (Mine.S.raise e) ρ Λ = (evE tb cl ρ e Λ).then fun v _ => vRaise v := rfl
theorem r13 {e} : exS tb cl (Mine.S.expr e) ρ Λ = (evE tb cl ρ e Λ).then fun _ Λ => .next ρ Λ := rfl
theorem rs0 : exSs tb cl (Ss.nil) ρ Λ = .next ρ Λ := rfl
theorem rs1 {s ss} : exSs tb cl (Ss.cons s ss) ρ Λ = (exS tb cl s ρ Λ).seq fun ρ Λ => exSs tb cl ss ρ Λ := rfl
end
end Mine
end
section
set_option maxRecDepth 100000
set_option autoImplicit false
open PySem PySem.W PySem.Calls PyProof.Rows PyProof.V PySem.Spec
namespace Mine
noncomputable abbrev Led := List (Addr × Obj)

structure Fix where
  prog : Program
  w : World
  K : Frag
  p : Program
  loose : List Str
  mean : ExcName → Option Value
  mg : Str → Option Value
  mb : Str → Option Value
  addr : Nat → Addr
  CS : Addr
  CP : Addr

structure Ctx where
  dp : Nat
  un : Nat
  gd : Option (List Code)
  fenv : PySem.Env
  outer : List PySem.Env
  A₀ : Around
  base : Heap
  h₀ : Heap
  L : Addr
noncomputable abbrev Ctx.A (c : Ctx) : Around := { handled := none, depth := c.dp, frames := some (c.fenv :: c.outer), guards := c.gd, units := c.un }

structure Ctx.Ok (φ : Fix) (c : Ctx) : Prop where
  below : Below c.A₀ c.base c.outer c.h₀
  inK : φ.K.In c.h₀
  top : Top φ.p φ.loose φ.mean φ.mg φ.mb c.h₀
  frame : c.fenv.frame = some c.L
  kind : c.fenv.scope.kind = .function
  seer : c.h₀.NoSeer
  tree : φ.prog.given.tree = none
  gen : c.fenv.scope.isGenerator = false
  cor : c.fenv.scope.isCoroutine = false
  bi : c.fenv.builtins = builtinsNs
  gl : c.fenv.globals = mainGlobals

/-! values -/
noncomputable def excObj (CP t : Addr) (dd : Addr) : Obj := { cls := .ref CP, dict := some dd, data := .fields #[.ref t, .none, .none, .none, .bool false, .none] }
/-- an exception that stands, not yet raised -/
noncomputable def ExnAt (φ : Fix) (T : Led) (a : Addr) (d : Dat) : Prop :=
  ∃ dd t v es n, (a, excObj φ.CP t dd) ∈ T ∧ (dd, dictOf es n) ∈ T ∧ getL "ball" es = some (some v) ∧ DatIn T v d
inductive VIn (φ : Fix) (α : List (List Addr)) (T : Led) : Value → V → Prop
  | dat {v : Value} {d : Dat} : DatIn T v d → VIn φ α T v (.dat d)
  | ref {n : Nat} {a : Addr} {r : List Addr} : α[n]? = some (a :: r) → VIn φ α T (.ref a) (.ref n)
  | exn {a : Addr} {d : Dat} : ExnAt φ T a d → VIn φ α T (.ref a) (.exn d)
  | strsL {a : Addr} {vs : List Value} {n : Nat} {l : List Str} {dd : Option Addr} {sl : Array (Option Value)} : φ.K.lookup a = some ⟨.type "list", dd, .seq vs.toArray n, sl⟩ → StrsAre vs l → VIn φ α T (.ref a) (.strs l)
  | strsT {a : Addr} {vs : List Value} {n : Nat} {l : List Str} {dd : Option Addr} {sl : Array (Option Value)} : φ.K.lookup a = some ⟨.type "tuple", dd, .seq vs.toArray n, sl⟩ → StrsAre vs l → VIn φ α T (.ref a) (.strs l)
inductive VAll (φ : Fix) (α : List (List Addr)) (T : Led) : List Value → List V → Prop
  | nil : VAll φ α T [] []
  | cons {v : Value} {x : V} {vs : List Value} {xs : List V} : VIn φ α T v x → VAll φ α T vs xs → VAll φ α T (v :: vs) (x :: xs)

noncomputable def attName : Nat → Str
  | 0 => "texts" | 1 => "atom_numbers" | 2 => "functors" | _ => "functor_numbers"
inductive Atts (φ : Fix) (α : List (List Addr)) (T : Led) : Nat → List DictEntry → List V → Prop
  | nil (k : Nat) : Atts φ α T k [] []
  | cons {k : Nat} {t : Tok} {v : Value} {x : V} {es : List DictEntry} {xs : List V} : VIn φ α T v x → Atts φ α T (k + 1) es xs →
      Atts φ α T k (⟨PyData.keyHash φ.w.params (attName k), .str (attName k) t, v⟩ :: es) (x :: xs)

noncomputable def sdD (l : List (Str × Int)) : List (PyData × PyData) := l.map fun p => (.str p.1, .int p.2)
noncomputable def pdD (l : List ((Int × Int) × Int)) : List (PyData × PyData) := l.map fun p => (encTuple PyData.int [p.1.1, p.1.2], .int p.2)

inductive CellIn (φ : Fix) (α : List (List Addr)) (T M : Led) : List Addr → Cell → Prop
  | dl {a : Addr} {vs : List Value} {n : Nat} {l : List Dat} : (a, listOf vs.toArray n) ∈ M → DatAll T vs l → CellIn φ α T M [a] (.dl l)
  | vl {a : Addr} {vs : List Value} {n : Nat} {l : List V} : (a, listOf vs.toArray n) ∈ M → VAll φ α T vs l → CellIn φ α T M [a] (.vl l)
  | ed {a : Addr} {o : Obj} : (a, o) ∈ M → (a == sysModules) = false → o.IsDictOf (strKind φ.prog φ.w) [] → CellIn φ α T M [a] .ed
  | sd {a : Addr} {o : Obj} {kvs : List (Str × Value)} {l : List (Str × Int)} : (a, o) ∈ M → (a == sysModules) = false → o.IsDictOf (strKind φ.prog φ.w) kvs → FlatPairs PyData.str kvs (sdD l) → CellIn φ α T M [a] (.sd l)
  | pd {a : Addr} {o : Obj} {l : List ((Int × Int) × Int)} : (a, o) ∈ M → TupTab (intKind φ.prog φ.w) PyData.int ((a, o) :: T) a (pdD l) → CellIn φ α T M [a] (.pd l)
  | inst {x dx : Addr} {es : List DictEntry} {n : Nat} {l : List V} : (x, instObj φ.CS dx) ∈ M → (dx, dictOf es n) ∈ M → l.length ≤ 4 → Atts φ α T 0 es l → CellIn φ α T M [x, dx] (.inst l)

structure StM (φ : Fix) (c : Ctx) (α : List (List Addr)) (T M : Led) (Λ : Hp) (mf : Str → Option Value) (h : Heap) : Prop where
  fr : Fr c.h₀ c.L h mf
  nw : News c.h₀ c.L h (M ++ T)
  adr : M.map (·.1) = α.flatten
  cells : ∀ (i : Nat) (r : List Addr) (cell : Cell), α[i]? = some r → Λ[i]? = some cell → CellIn φ α T M r cell
  len : α.length = Λ.length
  nd : α.flatten.Nodup
  ap : ∀ p ∈ T, p.1 ∉ α.flatten
noncomputable def St (φ : Fix) (c : Ctx) (α : List (List Addr)) (T : Led) (Λ : Hp) (mf : Str → Option Value) (h : Heap) : Prop := ∃ M, StM φ c α T M Λ mf h

theorem St.pylong {φ : Fix} {c : Ctx} {α : List (List Addr)} {T : Led} {Λ : Hp} {mf : Str → Option Value} {s : Shared} (ok : c.Ok φ) (S : St φ c α T Λ mf s.heap) (hd : c.dp + 105 < recursionLimit) : PylongRoom (model φ.prog φ.w) c.A s := by
  obtain ⟨M, S⟩ := S
  exact PylongRoom.of (Heap.NoLimit.keeps (Top.nolimit ok.top) S.fr.keep) (Nat.lt_trans (Nat.add_lt_add_left (by decide) c.dp) hd)
    (SeerAt.of (Heap.NoSeer.keeps ok.seer S.fr.keep) ok.tree (by rfl) ok.gen ok.cor ok.bi ok.gl)

/-! growth -/
noncomputable def Sub (T T' : Led) : Prop := ∀ p ∈ T, p ∈ T'
theorem Sub.refl (T : Led) : Sub T T := fun _ h => h
theorem Sub.trans {T T' T'' : Led} (a : Sub T T') (b : Sub T' T'') : Sub T T'' := fun p h => b p (a p h)
theorem Sub.cons (T : Led) (p : Addr × Obj) : Sub T (p :: T) := fun _ h => .tail _ h
noncomputable def Pre (α α' : List (List Addr)) : Prop := ∃ β, α' = α ++ β
theorem Pre.refl (α : List (List Addr)) : Pre α α := ⟨[], by simp⟩
theorem Pre.trans {a b c : List (List Addr)} (x : Pre a b) (y : Pre b c) : Pre a c := by
  obtain ⟨u, rfl⟩ := x
  obtain ⟨v, rfl⟩ := y
  exact ⟨u ++ v, by simp⟩
theorem Pre.get {α α' : List (List Addr)} (x : Pre α α') {i : Nat} {r : List Addr} (h : α[i]? = some r) : α'[i]? = some r := by
  obtain ⟨β, rfl⟩ := x
  obtain ⟨hl, _⟩ := List.getElem?_eq_some_iff.mp h
  rw [List.getElem?_append_left hl, h]

section
variable {φ : Fix} {α α' : List (List Addr)} {T T' M : Led}
theorem ExnAt.mono {a : Addr} {d : Dat} (h : ExnAt φ T a d) (s : Sub T T') : ExnAt φ T' a d := by
  obtain ⟨dd, t, v, es, n, a1, a2, a3, a4⟩ := h
  exact ⟨dd, t, v, es, n, s _ a1, s _ a2, a3, a4.mono s⟩
theorem VIn.mono {v : Value} {x : V} (h : VIn φ α T v x) (p : Pre α α') (s : Sub T T') : VIn φ α' T' v x := by
  cases h with
  | dat h => exact .dat (h.mono s)
  | ref h => exact .ref (p.get h)
  | exn h => exact .exn (h.mono s)
  | strsL h k => exact .strsL h k
  | strsT h k => exact .strsT h k
theorem VAll.mono {vs : List Value} {xs : List V} (h : VAll φ α T vs xs) (p : Pre α α') (s : Sub T T') : VAll φ α' T' vs xs := by
  induction h with
  | nil => exact .nil
  | cons h _ ih => exact .cons (h.mono p s) ih
theorem Atts.mono {k : Nat} {es : List DictEntry} {xs : List V} (h : Atts φ α T k es xs) (p : Pre α α') (s : Sub T T') : Atts φ α' T' k es xs := by
  induction h with
  | nil k => exact .nil k
  | cons h _ ih => exact .cons (h.mono p s) ih
theorem TupTab.sub {prog : Program} {w : World} {N N' : Led} {d : Addr} {D : List (PyData × PyData)} (h : TupTab (intKind prog w) PyData.int N d D) (s : Sub N N') : TupTab (intKind prog w) PyData.int N' d D := by
  obtain ⟨lo, o, es, ep, xs, h1, h2, h3, h4, h5, h6, h7⟩ := h
  exact ⟨lo, o, es, ep, xs, s _ h1, h2, h3, h4, h5, fun x hx => by obtain ⟨ok, q, r⟩ := h6 x hx; exact ⟨ok, s _ q, r⟩, h7⟩
theorem CellIn.mono {M' : Led} {r : List Addr} {cell : Cell} (h : CellIn φ α T M r cell) (p : Pre α α') (s : Sub T T') (m : ∀ q ∈ M, q.1 ∈ r → q ∈ M') : CellIn φ α' T' M' r cell := by
  cases h with
  | dl a b => exact .dl (m _ a (.head _)) (b.mono s)
  | vl a b => exact .vl (m _ a (.head _)) (b.mono p s)
  | ed a b c => exact .ed (m _ a (.head _)) b c
  | sd a b c d => exact .sd (m _ a (.head _)) b c d
  | pd a b => exact .pd (m _ a (.head _)) (TupTab.sub b fun q hq => by
      rcases List.mem_cons.mp hq with rfl | hq
      · exact .head _
      · exact .tail _ (s _ hq))
  | inst a b e c => exact .inst (m _ a (.head _)) (m _ b (.tail _ (.head _))) e (c.mono p s)
theorem VAll.length {vs : List Value} {xs : List V} (h : VAll φ α T vs xs) : vs.length = xs.length := by
  induction h with
  | nil => rfl
  | cons _ _ ih => simp [ih]
theorem VAll.get {vs : List Value} {xs : List V} (h : VAll φ α T vs xs) {k : Nat} {x : V} (hk : xs[k]? = some x) : ∃ v, vs[k]? = some v ∧ VIn φ α T v x := by
  induction h generalizing k with
  | nil => simp at hk
  | cons h _ ih =>
    cases k with
    | zero => simp at hk; subst hk; exact ⟨_, rfl, h⟩
    | succ k => simpa using ih (by simpa using hk)
theorem VAll.of_dat {vs : List Value} {ds : List Dat} {xs : List V} (h : VAll φ α T vs xs) (e : dats xs = some ds) : DatAll T vs ds := by
  induction h generalizing ds with
  | nil => cases e; exact .nil
  | cons h r ih =>
    rename_i v x vs xs
    cases x <;> simp [dats] at e
    obtain ⟨l, hl, rfl⟩ := e
    cases h with
    | dat h => exact .cons h (ih hl)
theorem DatAll.get' {vs : List Value} {ds : List Dat} (h : DatAll T vs ds) {k : Nat} {d : Dat} (hk : ds[k]? = some d) : ∃ v, vs[k]? = some v ∧ DatIn T v d := by
  obtain ⟨hl, e⟩ := List.getElem?_eq_some_iff.mp hk
  obtain ⟨v, a, b⟩ := h.get hl
  exact ⟨v, a, e ▸ b⟩
theorem VAll.append {vs ws : List Value} {xs ys : List V} (h : VAll φ α T vs xs) (k : VAll φ α T ws ys) : VAll φ α T (vs ++ ws) (xs ++ ys) := by
  induction h with
  | nil => exact k
  | cons h _ ih => exact .cons h ih
end

theorem newsSub {h₀ h : Heap} {L : Addr} {N N' : Led} (n : News h₀ L h N) (s : Sub N' N) : News h₀ L h N' := fun p hp => n p (s p hp)

/-! the store: a step that makes a thing that stays -/
section
variable {φ : Fix} {c : Ctx} {α : List (List Addr)} {T M : Led} {Λ : Hp} {mf : Str → Option Value} {h : Heap}
theorem StM.inM (S : StM φ c α T M Λ mf h) {p : Addr × Obj} (hp : p ∈ M) : p.1 ∈ α.flatten := by
  rw [← S.adr]; exact List.mem_map_of_mem hp
theorem StM.getM (S : StM φ c α T M Λ mf h) {p : Addr × Obj} (hp : p ∈ M) : h.get? p.1 = some p.2 := (S.nw p (List.mem_append_left _ hp)).1
theorem StM.getT (S : StM φ c α T M Λ mf h) {p : Addr × Obj} (hp : p ∈ T) : h.get? p.1 = some p.2 := (S.nw p (List.mem_append_right _ hp)).1
theorem StM.newsT (S : StM φ c α T M Λ mf h) : News c.h₀ c.L h T := newsSub S.nw fun _ q => List.mem_append_right _ q
/-- one more thing that stays -/
theorem StM.more (S : StM φ c α T M Λ mf h) {h' : Heap} {q : Addr × Obj} (F : Fr c.h₀ c.L h' mf) (N : News c.h₀ c.L h' (q :: (M ++ T))) (hq : q.1 ∉ α.flatten) : StM φ c α (q :: T) M Λ mf h' where
  fr := F
  nw := newsSub N fun p hp => by
    rcases List.mem_append.mp hp with hp | hp
    · exact .tail _ (List.mem_append_left _ hp)
    · rcases List.mem_cons.mp hp with rfl | hp
      · exact .head _
      · exact .tail _ (List.mem_append_right _ hp)
  adr := S.adr
  cells := fun i r cell hr hc => (S.cells i r cell hr hc).mono (.refl _) (.cons _ _) fun _ h _ => h
  len := S.len
  nd := S.nd
  ap := fun p hp => by
    rcases List.mem_cons.mp hp with rfl | hp
    · exact hq
    · exact S.ap p hp
theorem StM.fresh (S : StM φ c α T M Λ mf h) {a : Addr} (e : h.objs.size ≤ a) : a ∉ α.flatten := fun q => by
  rw [← S.adr] at q
  obtain ⟨p, hp, rfl⟩ := List.mem_map.mp q
  exact absurd (Heap.lt_size (S.getM hp)) (Nat.not_lt.mpr e)
theorem StM.push (S : StM φ c α T M Λ mf h) (o : Obj) (hf : o.isFreed = false := by rfl) : StM φ c α ((h.objs.size, o) :: T) M Λ mf (h.push o) :=
  S.more (S.fr.push o) (S.nw.push S.fr o hf) (S.fresh (Nat.le_refl _))
/-- a new cell -/
theorem StM.cell (S : StM φ c α T M Λ mf h) {h' : Heap} {r : List Addr} {R : Led} {cell : Cell} (F : Fr c.h₀ c.L h' mf) (N : News c.h₀ c.L h' (R ++ (M ++ T))) (hR : R.map (·.1) = r) (hn : r.Nodup)
    (hf : ∀ a ∈ r, a ∉ α.flatten ∧ ∀ p ∈ T, p.1 ≠ a) (hc : CellIn φ (α ++ [r]) T R r cell) : StM φ c (α ++ [r]) T (M ++ R) (Λ ++ [cell]) mf h' where
  fr := F
  nw := newsSub N fun p hp => by
    simp only [List.mem_append] at hp ⊢
    rcases hp with (hp | hp) | hp
    · exact .inr (.inl hp)
    · exact .inl hp
    · exact .inr (.inr hp)
  adr := by rw [List.map_append, S.adr, hR, List.flatten_append]; simp
  cells := fun i r' cell' hr hc' => by
    by_cases hi : i < α.length
    · rw [List.getElem?_append_left hi] at hr
      rw [List.getElem?_append_left (S.len ▸ hi)] at hc'
      exact (S.cells i r' cell' hr hc').mono ⟨[r], rfl⟩ (.refl _) fun q hq _ => List.mem_append_left _ hq
    · rw [List.getElem?_append_right (by omega)] at hr
      rw [List.getElem?_append_right (by have := S.len; omega)] at hc'
      have hi0 : i - α.length = 0 := by
        cases q : i - α.length with
        | zero => rfl
        | succ k => rw [q] at hr; simp at hr
      rw [hi0] at hr
      rw [← S.len, hi0] at hc'
      simp at hr hc'
      subst hr hc'
      exact hc.mono (.refl _) (.refl _) fun q hq _ => List.mem_append_right _ hq
  len := by simp [S.len]
  nd := by
    rw [List.flatten_append]
    simp only [List.flatten_cons, List.flatten_nil, List.append_nil]
    exact List.nodup_append.mpr ⟨S.nd, hn, fun a ha b hb e => (hf b hb).1 (e ▸ ha)⟩
  ap := fun p hp q => by
    rw [List.flatten_append] at q
    simp only [List.flatten_cons, List.flatten_nil, List.append_nil] at q
    rcases List.mem_append.mp q with q | q
    · exact S.ap p hp q
    · exact (hf _ q).2 p hp rfl
/-- what a cell's object becomes -/
noncomputable def swapAt (a : Addr) (o : Obj) (M : Led) : Led := M.map fun p => if p.1 = a then (a, o) else p
theorem swapAt_fst (a : Addr) (o : Obj) (M : Led) : (swapAt a o M).map (·.1) = M.map (·.1) := by
  unfold swapAt
  rw [List.map_map]
  refine List.map_congr_left fun p _ => ?_
  simp only [Function.comp]
  split
  · rename_i e; exact e.symm
  · rfl
theorem swapAt_mem {a : Addr} {o : Obj} {M : Led} {q : Addr × Obj} (h : q ∈ M) (n : q.1 ≠ a) : q ∈ swapAt a o M := List.mem_map.mpr ⟨q, h, by simp [n]⟩
theorem swapAt_here {a : Addr} {o o' : Obj} {M : Led} (h : (a, o) ∈ M) : (a, o') ∈ swapAt a o' M := List.mem_map.mpr ⟨_, h, by simp⟩

theorem flat_ne {l : List (List Addr)} (nd : l.flatten.Nodup) : ∀ {i j : Nat} {r r' : List Addr} {a : Addr}, l[i]? = some r → l[j]? = some r' → a ∈ r → a ∈ r' → i = j := by
  induction l with
  | nil => intro i j r r' a h; simp at h
  | cons x l ih =>
    intro i j r r' a hi hj ha hb
    rw [List.flatten_cons] at nd
    obtain ⟨n1, n2, n3⟩ := List.nodup_append.mp nd
    have tail : ∀ {k : Nat} {r : List Addr}, l[k]? = some r → a ∈ r → a ∈ l.flatten := fun hk hm => List.mem_flatten.mpr ⟨_, List.mem_of_getElem? hk, hm⟩
    cases i with
    | zero =>
      cases j with
      | zero => rfl
      | succ j =>
        simp at hi hj
        subst hi
        exact absurd rfl (n3 a ha a (tail hj hb))
    | succ i =>
      cases j with
      | zero =>
        simp at hi hj
        subst hj
        exact absurd rfl (n3 a hb a (tail hi ha))
      | succ j => exact congrArg (· + 1) (ih n2 (by simpa using hi) (by simpa using hj) ha hb)

/-- a cell changed: one of its objects -/
theorem StM.change (S : StM φ c α T M Λ mf h) {h' : Heap} {i : Nat} {r : List Addr} {a : Addr} {o o' : Obj} {cell : Cell} (hi : α[i]? = some r) (ha : a ∈ r) (hm : (a, o) ∈ M)
    (F : Fr c.h₀ c.L h' mf) (N : News c.h₀ c.L h' (swapAt a o' (M ++ T))) (hc : CellIn φ α T (swapAt a o' M) r cell) : StM φ c α T (swapAt a o' M) (Λ.set i cell) mf h' where
  fr := F
  nw := by
    refine newsSub N fun p hp => ?_
    unfold swapAt at *
    rw [List.map_append]
    rcases List.mem_append.mp hp with hp | hp
    · exact List.mem_append_left _ hp
    · refine List.mem_append_right _ (List.mem_map.mpr ⟨p, hp, ?_⟩)
      have : p.1 ≠ a := fun e => S.ap p hp (e ▸ S.inM hm)
      simp [this]
  adr := by rw [swapAt_fst, S.adr]
  cells := fun j r' cell' hr hc' => by
    by_cases e : j = i
    · subst e
      rw [hi] at hr
      cases hr
      have hl : j < Λ.length := by rw [← S.len]; exact (List.getElem?_eq_some_iff.mp hi).1
      rw [List.getElem?_set_self hl] at hc'
      cases hc'
      exact hc
    · rw [List.getElem?_set_ne (Ne.symm e)] at hc'
      exact (S.cells j r' cell' hr hc').mono (.refl _) (.refl _) fun q hq hqr => swapAt_mem hq fun z => e (flat_ne S.nd hr hi hqr (z ▸ ha))
  len := by rw [List.length_set]; exact S.len
  nd := S.nd
  ap := S.ap
theorem StM.at (S : StM φ c α T M Λ mf h) {n : Nat} {r : List Addr} {cell : Cell} (hr : α[n]? = some r) (hc : Λ[n]? = some cell) : CellIn φ α T M r cell := S.cells n r cell hr hc
end
end Mine

end
section
set_option autoImplicit false
set_option genInjectivity false
set_option genSizeOf false
open PySem PySem.W PySem.Calls PyProof.Rows PyProof.V PySem.Spec
namespace Mine
section
variable {φ : Fix} {α : List (List Addr)} {T M : Led} {r : List Addr} {v : Value}
/-! what a value, a cell of a known kind is: one way alone -/
inductive InDat (T : Led) : Value → Dat → Prop
  | dat {v : Value} {d : Dat} : DatIn T v d → InDat T v d
theorem VIn.to_dat {d : Dat} (h : VIn φ α T v (.dat d)) : InDat T v d := by cases h with | dat h => exact .dat h
inductive InRef (α : List (List Addr)) : Value → Nat → Prop
  | ref {n : Nat} {a : Addr} {r : List Addr} : α[n]? = some (a :: r) → InRef α (.ref a) n
theorem VIn.to_ref {n : Nat} (h : VIn φ α T v (.ref n)) : InRef α v n := by cases h with | ref h => exact .ref h
inductive InDl (T M : Led) : List Addr → List Dat → Prop
  | dl {a : Addr} {vs : List Value} {n : Nat} {l : List Dat} : (a, listOf vs.toArray n) ∈ M → DatAll T vs l → InDl T M [a] l
theorem CellIn.to_dl {l : List Dat} (h : CellIn φ α T M r (.dl l)) : InDl T M r l := by cases h with | dl a b => exact .dl a b
inductive InVl (φ : Fix) (α : List (List Addr)) (T M : Led) : List Addr → List V → Prop
  | vl {a : Addr} {vs : List Value} {n : Nat} {l : List V} : (a, listOf vs.toArray n) ∈ M → VAll φ α T vs l → InVl φ α T M [a] l
theorem CellIn.to_vl {l : List V} (h : CellIn φ α T M r (.vl l)) : InVl φ α T M r l := by cases h with | vl a b => exact .vl a b
inductive InEd (φ : Fix) (M : Led) : List Addr → Prop
  | ed {a : Addr} {o : Obj} : (a, o) ∈ M → (a == sysModules) = false → o.IsDictOf (strKind φ.prog φ.w) [] → InEd φ M [a]
theorem CellIn.to_ed (h : CellIn φ α T M r .ed) : InEd φ M r := by cases h with | ed a b c => exact .ed a b c
inductive InSd (φ : Fix) (M : Led) : List Addr → List (Str × Int) → Prop
  | sd {a : Addr} {o : Obj} {kvs : List (Str × Value)} {l : List (Str × Int)} : (a, o) ∈ M → (a == sysModules) = false → o.IsDictOf (strKind φ.prog φ.w) kvs → FlatPairs PyData.str kvs (sdD l) → InSd φ M [a] l
theorem CellIn.to_sd {l : List (Str × Int)} (h : CellIn φ α T M r (.sd l)) : InSd φ M r l := by cases h with | sd a b c d => exact .sd a b c d
inductive InPd (φ : Fix) (T M : Led) : List Addr → List ((Int × Int) × Int) → Prop
  | pd {a : Addr} {o : Obj} {l : List ((Int × Int) × Int)} : (a, o) ∈ M → TupTab (intKind φ.prog φ.w) PyData.int ((a, o) :: T) a (pdD l) → InPd φ T M [a] l
theorem CellIn.to_pd {l : List ((Int × Int) × Int)} (h : CellIn φ α T M r (.pd l)) : InPd φ T M r l := by cases h with | pd a b => exact .pd a b
inductive InInst (φ : Fix) (α : List (List Addr)) (T M : Led) : List Addr → List V → Prop
  | inst {x dx : Addr} {es : List DictEntry} {n : Nat} {l : List V} : (x, instObj φ.CS dx) ∈ M → (dx, dictOf es n) ∈ M → l.length ≤ 4 → Atts φ α T 0 es l → InInst φ α T M [x, dx] l
theorem CellIn.to_inst {l : List V} (h : CellIn φ α T M r (.inst l)) : InInst φ α T M r l := by cases h with | inst a b c d => exact .inst a b c d
inductive InInt (i : Int) : Value → Prop
  | int (t : Tok) : InInt i (.int i t)
inductive InStr (x : Str) : Value → Prop
  | str (t : Tok) : InStr x (.str x t)
inductive InTup (T : Led) (ds : List Dat) : Value → Prop
  | tuple {a : Addr} {vs : List Value} {n : Nat} : (a, ({ cls := .type "tuple", data := .seq vs.toArray n } : Obj)) ∈ T → DatAll T vs ds → InTup T ds (.ref a)
noncomputable def DInv (T : Led) (v : Value) : Dat → Prop
  | .int i => InInt i v
  | .str x => InStr x v
  | .tuple ds => InTup T ds v
  | d => DatIn T v d
theorem DatIn'.inv {d : Dat} (h : DatIn T v d) : DInv T v d := by
  cases h with
  | int i t => exact .int t
  | str x t => exact .str t
  | tuple a b => exact .tuple a b
  | none => exact .none
  | bool b => exact .bool b
  | bytes b t => exact .bytes b t
  | list a b => exact .list a b
end
end Mine

end
section
set_option maxRecDepth 100000
set_option autoImplicit false
open PySem PySem.W PySem.Calls PyProof.Rows PyProof.V PySem.Spec
namespace Mine

/-! the translation -/
inductive BopIs : Operator → Bop → Prop
  | add : BopIs .Add .add | sub : BopIs .Sub .sub | mul : BopIs .Mult .mul | fdiv : BopIs .FloorDiv .fdiv | mod : BopIs .Mod .mod | pow : BopIs .Pow .pow
  | shl : BopIs .LShift .shl | shr : BopIs .RShift .shr | band : BopIs .BitAnd .band | bor : BopIs .BitOr .bor | bxor : BopIs .BitXor .bxor
inductive CopIs : CmpOp → Cop → Prop
  | eq : CopIs .Eq .eq | ne : CopIs .NotEq .ne | lt : CopIs .Lt .lt | le : CopIs .LtE .le | gt : CopIs .Gt .gt | ge : CopIs .GtE .ge
/-- a built-in name of the text -/
structure BiIs (φ : Fix) (sc : Scope) (x : Str) (v : Value) : Prop where
  glob : sc.names.lookup x = some .globalImplicit
  no : nsIn φ.K mainGlobals x = some none
  boot : bootBuiltins x = some v
  nm : x ≠ "__name__"
  dbg : (x == ("__debug__" : Str)) = false
structure GlIs (φ : Fix) (sc : Scope) (x : Str) (v : Value) : Prop where
  glob : sc.names.lookup x = some .globalImplicit
  here : nsIn φ.K mainGlobals x = some (some v)
  dbg : (x == ("__debug__" : Str)) = false
structure MethIs (φ : Fix) (name : Str) (f : Nat) : Prop where
  get : plainGet φ.K φ.CS name = true
  find : findIn φ.K (.ref φ.CS) name = some (some (.ref (φ.addr f)))
  fn : isFn φ.K (.ref (φ.addr f)) = true
  keep : keepIn φ.K (.ref (φ.addr f)) = true
  off : ∀ k, attName k ≠ name
structure AttIs (φ : Fix) (name : Str) (x : Att) : Prop where
  nm : name = attName x.ix
  get : plainGet φ.K φ.CS name = true
  dict : hasDictIn φ.K φ.CS = true
  no : findIn φ.K (.ref φ.CS) name = some none
  set : findIn φ.K (.ref φ.CS) "__setattr__" = some (some (.builtin "object.__setattr__"))
  over : plainOver φ.K φ.CS = true
  take : takerIn φ.K φ.CS name = some none
inductive DatV : Value → Dat → Prop
  | int (i : Int) (t : Tok) : DatV (.int i t) (.int i)
  | str (x : Str) (t : Tok) : DatV (.str x t) (.str x)
inductive ConstInts : List Expr → List Int → Prop
  | nil : ConstInts [] []
  | pos {k : Nat} {p : Pos} {i : Int} {es : List Expr} {l : List Int} : ConstInts es l → ConstInts (.Constant (.int i) k p :: es) (i :: l)
  | neg {k : Nat} {p q : Pos} {i : Int} {es : List Expr} {l : List Int} : ConstInts es l → ConstInts (.UnaryOp .USub (.Constant (.int i) k p) q :: es) (-i :: l)
inductive ConstStrs : List Expr → List Str → Prop
  | nil : ConstStrs [] []
  | cons {k : Nat} {p : Pos} {x : Str} {es : List Expr} {l : List Str} : ConstStrs es l → ConstStrs (.Constant (.str x) k p :: es) (x :: l)
inductive KeyStrs : List (Option Expr) → List Str → Prop
  | nil : KeyStrs [] []
  | cons {k : Nat} {p : Pos} {x : Str} {es : List (Option Expr)} {l : List Str} : KeyStrs es l → KeyStrs (some (.Constant (.str x) k p) :: es) (x :: l)
inductive InIs : CmpOp → Bool → Prop
  | yes : InIs .In false
  | no : InIs .NotIn true
/-- a slice expression that is no slice -/
noncomputable def plainIx : Expr → Bool
  | .Slice .. => false
  | _ => true
noncomputable def plainStar : Expr → Bool
  | .Starred .. => false
  | _ => true

noncomputable def plainBase : Expr → Bool
  | .Call .. => false
  | _ => true
noncomputable def oneLine (q p : Pos) : Bool := q.endLine == p.line
/-- a name that the scope itself keeps -/
noncomputable def hasVar (sc : Scope) (x : Str) : Bool := match sc.names.lookup x with
  | some .local | some .cell | some .free => true
  | _ => false
noncomputable def relabelS (sc' sc : Scope) : Scope :=
  { sc' with names := sc'.names.map fun (n, k) => if (k == .free && sc.kind == .function && sc.names.lookup n == some .cell) then (n, .cell) else (n, k) }
/-- the scope of a comprehension -/
structure CompSc (sc sc' : Scope) (ns : List Str) (x : Str) (i : Nat) : Prop where
  kind : sc'.kind = .function
  nocell : ∀ y ∈ sc'.names, y.2 ≠ .cell
  names : ∀ y ∈ sc'.names, y.2 = .local → sc'.names.lookup y.1 = some .local
  here : sc'.names.lookup x = some .local
  free : ∀ y ∈ sc'.names, y.2 = .free → sc.names.lookup y.1 = some .cell
  nodup : (sc'.names.map (·.1)).Nodup
  only : ∀ j y, ns[j]? = some y → sc'.names.lookup y = some .local → j = i
  ball : x ≠ ("ball" : Str)
  sck : sc.kind = .function
/-- what a translated expression's soundness leans on (the translation itself is checked by ckE) -/
noncomputable def TrE (_ : Fix) (_ : Scope) (_ : List Str) (pe : Expr) (_ : E) : Prop := plainStar pe = true
noncomputable def TrEs (φ : Fix) (sc : Scope) (ns : List Str) : List Expr → Es → Prop
  | [], es => es = .nil
  | a :: as, es => ∃ e es', es = .cons e es' ∧ plainStar a = true ∧ TrEs φ sc ns as es'
theorem TrEs.nil {φ : Fix} {sc : Scope} {ns : List Str} : TrEs φ sc ns [] .nil := rfl
theorem TrEs.cons {φ : Fix} {sc : Scope} {ns : List Str} {a : Expr} {as : List Expr} {e : E} {es : Es} (h : TrE φ sc ns a e) (hs : TrEs φ sc ns as es) : TrEs φ sc ns (a :: as) (.cons e es) := ⟨e, es, rfl, h, hs⟩
theorem TrEs.uncons {φ : Fix} {sc : Scope} {ns : List Str} {a : Expr} {as : List Expr} {e : E} {es : Es} (h : TrEs φ sc ns (a :: as) (.cons e es)) : TrE φ sc ns a e ∧ TrEs φ sc ns as es := by
  obtain ⟨_, _, q, h1, h2⟩ := h
  cases q
  exact ⟨h1, h2⟩

/-! the frame of an expression -/
noncomputable def isNsObj (o : Obj) (m : Str → Option Value) : Prop := ∃ es n, o.data = .dict es n ∧ ∀ h a, h.get? a = some o → Heap.Ns h a m
structure EC (φ : Fix) (n : Nat) (c : Ctx) (env : PySem.Env) (sc : Scope) (ns : List Str) (mf m : Str → Option Value) (ρ : Env) (α : List (List Addr)) (T : Led) : Prop where
  ok : c.Ok φ
  scope : env.scope = sc
  kind : sc.kind = .function
  gl : env.globals = mainGlobals
  bi : env.builtins = builtinsNs
  loc : (env.locals = c.L ∧ m = mf) ∨ ∃ o, (env.locals, o) ∈ T ∧ isNsObj o m
  slots : ∀ (i : Nat) (x : Str) (V : V), ns[i]? = some x → hasVar sc x = true → ρ[i]? = some V → V ≠ .bot → ∃ v, VIn φ α T v V ∧
    ((env.kindOf x = some .local ∧ m x = some v) ∨ ∃ a o, (env.kindOf x = some .cell ∨ env.kindOf x = some .free) ∧ env.cells.lookup x = some a ∧ (a, o) ∈ T ∧ o.data = .cell (some v))
  cells : ∀ y, env.kindOf y = some .cell → ∃ a, env.cells.lookup y = some a
  room : c.dp + 5 * n + 110 < recursionLimit
  unit : c.un + 20 * n + 100 < cLine
theorem EC.mono {φ : Fix} {n : Nat} {c : Ctx} {env : PySem.Env} {sc : Scope} {ns : List Str} {mf m : Str → Option Value} {ρ : Env} {α α' : List (List Addr)} {T T' : Led} (e : EC φ n c env sc ns mf m ρ α T) (p : Pre α α') (s : Sub T T') :
    EC φ n c env sc ns mf m ρ α' T' where
  ok := e.ok
  scope := e.scope
  kind := e.kind
  gl := e.gl
  bi := e.bi
  loc := e.loc.imp id fun ⟨o, h, k⟩ => ⟨o, s _ h, k⟩
  slots := fun i x V h1 h0 h2 h3 => by
    obtain ⟨v, hv, h⟩ := e.slots i x V h1 h0 h2 h3
    exact ⟨v, hv.mono p s, h.imp id fun ⟨a, o, q1, q2, q3, q4⟩ => ⟨a, o, q1, q2, s _ q3, q4⟩⟩
  cells := e.cells
  room := e.room
  unit := e.unit

/-- the exception object: where its traceback stands. none: not yet raised through a frame -/
inductive ExcState (φ : Fix) (B : Heap) (L a dd : Addr) (h : Heap) : Prop
  | fresh {t : Addr} : h.get? a = some (excObj φ.CP t dd) → ExcState φ B L a dd h
  | traced {oe oT : Obj} {vs ts : Array Value} {Tb : Addr} {fl : Value} : h.get? a = some oe → oe.cls = .ref φ.CP → oe.dict = some dd → oe.data = .fields vs → vs[1]? = some (.ref Tb) → B.get? Tb = none → Tb ≠ a →
      h.get? Tb = some oT → oT.data = .fields ts → ts[3]? = some fl → (fl = .none ∨ fl = rawInt L) → ExcState φ B L a dd h
/-- a raised exception, under way in the frame c: its ball is d -/
structure FlownAt (φ : Fix) (c : Ctx) (mf : Str → Option Value) (a : Addr) (d : Dat) (h B : Heap) (T : Led) (dd : Addr) : Prop where
  up : c.h₀.UpToSlots h
  ns : h.Ns c.L mf
  base : c.base.StaysIn B
  stays : B.StaysIn h
  new : B.get? a = none
  frames : h.FunFrames B (c.fenv :: c.outer)
  inT : ∀ p ∈ T, B.get? p.1 = some p.2 ∧ c.base.get? p.1 = none
  ball : ∃ v es n, (dd, dictOf es n) ∈ T ∧ getL "ball" es = some (some v) ∧ DatIn T v d
  exc : ExcState φ B c.L a dd h
/-- all that is no record -/
noncomputable def SubN (T T' : Led) : Prop := ∀ p ∈ T, (∀ fs, p.2.data ≠ .fields fs) → p ∈ T'
noncomputable def Flown (φ : Fix) (c : Ctx) (mf : Str → Option Value) (T₀ : Led) (e : Value) (d : Dat) (h : Heap) : Prop := ∃ a B T dd, e = .ref a ∧ SubN T₀ T ∧ FlownAt φ c mf a d h B T dd
theorem Flown.weak {φ : Fix} {c : Ctx} {mf : Str → Option Value} {T T' : Led} {e : Value} {d : Dat} {h : Heap} (F : Flown φ c mf T' e d h) (s : Sub T T') : Flown φ c mf T e d h := by
  obtain ⟨a, B, T₁, dd, q, n, F⟩ := F
  exact ⟨a, B, T₁, dd, q, fun p hp hq => n p (s p hp) hq, F⟩

/-- what an expression's answer asks of what follows -/
noncomputable def After (φ : Fix) (c : Ctx) (α : List (List Addr)) (T : Led) (mf : Str → Option Value) (s : Shared) (Q X : Value → Shared → Prop) : Rs V → Prop
  | .ok V Λ => ∀ v α' T' h' tk, Pre α α' → Sub T T' → St φ c α' T' Λ mf h' → VIn φ α' T' v V → Q v { s with heap := h', toks := tk }
  | .err d => ∀ e h' tk, Flown φ c mf T e d h' → X e { s with heap := h', toks := tk }
  | .bad => False
noncomputable def AfterL (φ : Fix) (c : Ctx) (α : List (List Addr)) (T : Led) (mf : Str → Option Value) (s : Shared) (Q : List Value → Shared → Prop) (X : Value → Shared → Prop) : Rs (List V) → Prop
  | .ok Vs Λ => ∀ vs α' T' h' tk, Pre α α' → Sub T T' → St φ c α' T' Λ mf h' → VAll φ α' T' vs Vs → Q vs { s with heap := h', toks := tk }
  | .err d => ∀ e h' tk, Flown φ c mf T e d h' → X e { s with heap := h', toks := tk }
  | .bad => False
noncomputable def AfterT (φ : Fix) (c : Ctx) (α : List (List Addr)) (T : Led) (mf : Str → Option Value) (s : Shared) (Q : Bool → Shared → Prop) (X : Value → Shared → Prop) : Rs Bool → Prop
  | .ok b Λ => ∀ α' T' h' tk, Pre α α' → Sub T T' → St φ c α' T' Λ mf h' → Q b { s with heap := h', toks := tk }
  | .err d => ∀ e h' tk, Flown φ c mf T e d h' → X e { s with heap := h', toks := tk }
  | .bad => False

noncomputable def SoundE (φ : Fix) (tb : Tabs) (n : Nat) (cl : Nat → List V → Hp → Rs V) (sc : Scope) (ns : List Str) (pe : Expr) (e : E) : Prop := ∀ {c : Ctx} {env : PySem.Env} {mf m : Str → Option Value} {ρ : Env} {α : List (List Addr)} {T : Led} {Λ : Hp} {s : Shared} {Q X : Value → Shared → Prop},
  TrE φ sc ns pe e → EC φ n c env sc ns mf m ρ α T → St φ c α T Λ mf s.heap → After φ c α T mf s Q X (evE tb cl ρ e Λ) → wpAny (model φ.prog φ.w) c.A (eval pe env) Q X s
noncomputable def truthOf (r : Rs V) : Rs Bool := r.bind fun v Λ => lift (vTruth Λ v) Λ
noncomputable def SoundT (φ : Fix) (tb : Tabs) (n : Nat) (cl : Nat → List V → Hp → Rs V) (sc : Scope) (ns : List Str) (pe : Expr) (e : E) : Prop := ∀ {c : Ctx} {env : PySem.Env} {mf m : Str → Option Value} {ρ : Env} {α : List (List Addr)} {T : Led} {Λ : Hp} {s : Shared} {Q : Bool → Shared → Prop} {X : Value → Shared → Prop},
  TrE φ sc ns pe e → EC φ n c env sc ns mf m ρ α T → St φ c α T Λ mf s.heap → AfterT φ c α T mf s Q X (truthOf (evE tb cl ρ e Λ)) → wpAny (model φ.prog φ.w) c.A (PySem.isTrue pe env (eval pe env)) Q X s
noncomputable def SoundL (φ : Fix) (tb : Tabs) (n : Nat) (cl : Nat → List V → Hp → Rs V) (sc : Scope) (ns : List Str) (as : List Expr) (es : Es) : Prop := ∀ {c : Ctx} {env : PySem.Env} {mf m : Str → Option Value} {ρ : Env} {α : List (List Addr)} {T : Led} {Λ : Hp} {s : Shared} {pos : Pos} {Q : List Value → Shared → Prop} {X : Value → Shared → Prop},
  TrEs φ sc ns as es → EC φ n c env sc ns mf m ρ α T → St φ c α T Λ mf s.heap → AfterL φ c α T mf s Q X (evEs tb cl ρ es Λ) → wpAny (model φ.prog φ.w) c.A (spliced (backTo pos (starEach as env))) Q X s

/-! a step, then the rest -/
section
variable {φ : Fix} {c : Ctx} {α : List (List Addr)} {T : Led} {mf : Str → Option Value} {s : Shared} {X : Value → Shared → Prop}
theorem After.first {Q : Value → Shared → Prop} {r : Rs V} {f : V → Hp → Rs V} (h : After φ c α T mf s Q X (r.bind f)) {Q' : Value → Shared → Prop}
    (k : ∀ V Λ v α' T' h' tk, r = .ok V Λ → Pre α α' → Sub T T' → St φ c α' T' Λ mf h' → VIn φ α' T' v V → After φ c α T mf s Q X (f V Λ) → Q' v { s with heap := h', toks := tk }) : After φ c α T mf s Q' X r := by
  cases r with
  | ok V Λ => exact fun v α' T' h' tk p t S hv => k V Λ v α' T' h' tk rfl p t S hv h
  | err d => exact h
  | bad => exact h
theorem After.grow {Q : Value → Shared → Prop} {r : Rs V} (h : After φ c α T mf s Q X r) {α' : List (List Addr)} {T' : Led} {h' : Heap} {tk : Nat} (p : Pre α α') (t : Sub T T') : After φ c α' T' mf { s with heap := h', toks := tk } Q X r := by
  cases r with
  | ok V Λ => exact fun v α₂ T₂ h₂ tk₂ p₂ t₂ S₂ hv => h v α₂ T₂ h₂ tk₂ (p.trans p₂) (t.trans t₂) S₂ hv
  | err d => exact fun e h₂ tk₂ F => h e h₂ tk₂ (F.weak t)
  | bad => exact h
end
end Mine

end
section
set_option maxRecDepth 100000
set_option autoImplicit false
open PySem PySem.W PySem.Calls PyProof.Rows PyProof.V PySem.Spec
namespace Mine
section
variable {φ : Fix} {tb : Tabs} {n : Nat} {cl : Nat → List V → Hp → Rs V}

theorem snd_none {sc : Scope} {ns : List Str} {k : Nat} {p : Pos} : SoundE φ tb n cl sc ns (.Constant .none k p) .none := by
  intro c env mf m ρ α T Λ s Q X _ ec st ha
  exact fun _ _ _ => ha _ _ _ s.heap s.toks (.refl _) (.refl _) st (.dat .none)
theorem snd_bool {sc : Scope} {ns : List Str} {k : Nat} {p : Pos} {b : Bool} : SoundE φ tb n cl sc ns (.Constant (.bool b) k p) (.bool b) := by
  intro c env mf m ρ α T Λ s Q X _ ec st ha
  exact fun _ _ _ => ha _ _ _ s.heap s.toks (.refl _) (.refl _) st (.dat (.bool b))
theorem snd_int {sc : Scope} {ns : List Str} {k : Nat} {p : Pos} {i : Int} : SoundE φ tb n cl sc ns (.Constant (.int i) k p) (.int i) := by
  intro c env mf m ρ α T Λ s Q X _ ec st ha
  exact fun _ _ _ => ha _ _ _ s.heap (s.toks + 1) (.refl _) (.refl _) st (.dat (.int i _))
theorem snd_str {sc : Scope} {ns : List Str} {k : Nat} {p : Pos} {x : Str} : SoundE φ tb n cl sc ns (.Constant (.str x) k p) (.str x) := by
  intro c env mf m ρ α T Λ s Q X _ ec st ha
  exact fun _ _ _ => ha _ _ _ s.heap (s.toks + 1) (.refl _) (.refl _) st (.dat (.str x _))

theorem EC.ns {c : Ctx} {env : PySem.Env} {sc : Scope} {ns : List Str} {mf m : Str → Option Value} {ρ : Env} {α : List (List Addr)} {T : Led} {Λ : Hp} {h : Heap} (e : EC φ n c env sc ns mf m ρ α T) (S : St φ c α T Λ mf h) : h.Ns env.locals m := by
  obtain ⟨M, S⟩ := S
  rcases e.loc with ⟨h1, h2⟩ | ⟨o, h1, es, k, hd, h2⟩
  · rw [h1, h2]; exact S.fr.ns
  · exact h2 _ _ (S.getT h1)
theorem EC.load {c : Ctx} {env : PySem.Env} {sc : Scope} {ns : List Str} {mf m : Str → Option Value} {ρ : Env} {α : List (List Addr)} {T : Led} {Λ : Hp} {s : Shared} {i : Nat} {x : Str} {p : Pos} {V : V} {Q X : Value → Shared → Prop} {A : Around}
    (e : EC φ n c env sc ns mf m ρ α T) (S : St φ c α T Λ mf s.heap) (hx : ns[i]? = some x) (h0 : hasVar sc x = true) (hv : ρ[i]? = some V) (hb : V ≠ .bot) (d1 : (x == ("__debug__" : Str)) = false) (d2 : (x == ("__classdict__" : Str)) = false)
    (k : ∀ v, VIn φ α T v V → Q v s) : wpAny (model φ.prog φ.w) A (eval (.Name x p) env) Q X s := by
  obtain ⟨v, hV, h⟩ := e.slots i x V hx h0 hv hb
  have hk : env.scope.kind = .function := by rw [e.scope]; exact e.kind
  refine wpAny_Name ?_ d1
  rcases h with ⟨h1, h2⟩ | ⟨a, o, h1, h2, h3, h4⟩
  · exact wpAny_loadName_local hk h1 (e.ns S) h2 (k v hV)
  · obtain ⟨M, S⟩ := S
    rcases h1 with h1 | h1
    · exact wpAny_loadName_cell hk h1 h2 ⟨o, S.getT h3, h4⟩ (k v hV)
    · exact wpAny_loadName_free hk h1 h2 ⟨o, S.getT h3, h4⟩ (k v hV) d2
theorem snd_var {sc : Scope} {ns : List Str} {p : Pos} {x : Str} {i : Nat} (hx : ns[i]? = some x) (h0 : hasVar sc x = true) (d1 : (x == ("__debug__" : Str)) = false) (d2 : (x == ("__classdict__" : Str)) = false) : SoundE φ tb n cl sc ns (.Name x p) (.var i) := by
  intro c env mf m ρ α T Λ s Q X _ ec st ha
  simp only [q0, q1, q2, q3, q4, q5, q6, q7, q8, q9, q10, q11, q12, q13, q14, q15, q16, q17, q18, q19, q20, q21, q22, q23, q24, q25, q26, q27, q28, q29, q30, q31, q32, q33, q34, q35, q36, q37, q38, q39, q40, q41, q42] at ha
  split at ha
  · exact ha.elim
  · rename_i v hn hv
    exact ec.load st hx h0 hv (fun e => hn e) d1 d2 fun w hw => ha w α T s.heap s.toks (.refl _) (.refl _) st hw
  · exact ha.elim

theorem EC.kindOf {c : Ctx} {env : PySem.Env} {sc : Scope} {ns : List Str} {mf m : Str → Option Value} {ρ : Env} {α : List (List Addr)} {T : Led} (e : EC φ n c env sc ns mf m ρ α T) {x : Str} {k : NameKind} (h : sc.names.lookup x = some k) : env.kindOf x = some k := by
  show env.scope.names.lookup x = some k
  rw [e.scope]; exact h
theorem EC.global {c : Ctx} {env : PySem.Env} {sc : Scope} {ns : List Str} {mf m : Str → Option Value} {ρ : Env} {α : List (List Addr)} {T : Led} {Λ : Hp} {s : Shared} {x : Str} {p : Pos} {v : Value} {Q X : Value → Shared → Prop} {A : Around}
    (e : EC φ n c env sc ns mf m ρ α T) (S : St φ c α T Λ mf s.heap) (g : GlIs φ sc x v) (k : Q v s) : wpAny (model φ.prog φ.w) A (eval (.Name x p) env) Q X s := by
  obtain ⟨M, S⟩ := S
  have TR := topRead_of e.ok.top
  exact Name_function_global (by rw [e.scope]; exact e.kind) (e.kindOf g.glob) (loadGlobal_global (by rw [e.gl]; exact TR.g.keeps S.fr.keep) (mg_of e.ok.inK TR.g g.here) k) g.dbg
theorem EC.builtin {c : Ctx} {env : PySem.Env} {sc : Scope} {ns : List Str} {mf m : Str → Option Value} {ρ : Env} {α : List (List Addr)} {T : Led} {Λ : Hp} {s : Shared} {x : Str} {p : Pos} {v : Value} {Q X : Value → Shared → Prop} {A : Around}
    (e : EC φ n c env sc ns mf m ρ α T) (S : St φ c α T Λ mf s.heap) (g : BiIs φ sc x v) (k : Q v s) : wpAny (model φ.prog φ.w) A (eval (.Name x p) env) Q X s := by
  obtain ⟨M, S⟩ := S
  have TR := topRead_of e.ok.top
  exact Name_function_global (by rw [e.scope]; exact e.kind) (e.kindOf g.glob) (loadGlobal_builtin (by rw [e.gl]; exact TR.g.keeps S.fr.keep) (mg_none_of e.ok.inK TR.g g.no) (by rw [e.bi]; exact TR.b.keeps S.fr.keep) ((TR.builtins x g.nm).trans g.boot) k) g.dbg

/-- the tables are the top's -/
structure TabsOk (φ : Fix) (tb : Tabs) : Prop where
  glob : ∀ x d v, tb.glob x = some d → nsIn φ.K mainGlobals x = some (some v) → DatV v d
  gs : ∀ x l v, tb.gs x = some l → nsIn φ.K mainGlobals x = some (some v) → ∃ a vs k dd sl, v = .ref a ∧ StrsAre vs l ∧ (φ.K.lookup a = some ⟨.type "list", dd, .seq vs.toArray k, sl⟩ ∨ φ.K.lookup a = some ⟨.type "tuple", dd, .seq vs.toArray k, sl⟩)

theorem snd_glob {sc : Scope} {ns : List Str} {p : Pos} {x : Str} {v : Value} (ok : TabsOk φ tb) (g : GlIs φ sc x v) : SoundE φ tb n cl sc ns (.Name x p) (.glob x) := by
  intro c env mf m ρ α T Λ s Q X _ ec st ha
  simp only [q0, q1, q2, q3, q4, q5, q6, q7, q8, q9, q10, q11, q12, q13, q14, q15, q16, q17, q18, q19, q20, q21, q22, q23, q24, q25, q26, q27, q28, q29, q30, q31, q32, q33, q34, q35, q36, q37, q38, q39, q40, q41, q42] at ha
  cases hd : tb.glob x with
  | none => rw [hd] at ha; exact ha.elim
  | some d =>
    rw [hd] at ha
    refine ec.global st g ?_
    have hv := ok.glob x d _ hd g.here
    refine ha _ α T s.heap s.toks (.refl _) (.refl _) st (.dat ?_)
    cases hv with
    | int i t => exact .int i t
    | str x t => exact .str x t

theorem snd_gs {sc : Scope} {ns : List Str} {p : Pos} {x : Str} {v : Value} (ok : TabsOk φ tb) (g : GlIs φ sc x v) : SoundE φ tb n cl sc ns (.Name x p) (.gs x) := by
  intro c env mf m ρ α T Λ s Q X _ ec st ha
  simp only [q0, q1, q2, q3, q4, q5, q6, q7, q8, q9, q10, q11, q12, q13, q14, q15, q16, q17, q18, q19, q20, q21, q22, q23, q24, q25, q26, q27, q28, q29, q30, q31, q32, q33, q34, q35, q36, q37, q38, q39, q40, q41, q42] at ha
  cases hd : tb.gs x with
  | none => rw [hd] at ha; exact ha.elim
  | some l =>
    rw [hd] at ha
    refine ec.global st g ?_
    obtain ⟨a, vs, k, dd, sl, rfl, hs, h⟩ := ok.gs x l _ hd g.here
    refine ha _ α T s.heap s.toks (.refl _) (.refl _) st ?_
    rcases h with h | h
    · exact .strsL h hs
    · exact .strsT h hs

/-- two operands -/
theorem two {a b : E} {pa pb : Expr} {sc : Scope} {ns : List Str} (sa : SoundE φ tb n cl sc ns pa a) (sb : SoundE φ tb n cl sc ns pb b) {c : Ctx} {env : PySem.Env} {mf m : Str → Option Value} {ρ : Env} {α : List (List Addr)} {T : Led} {Λ : Hp} {s : Shared} {Q X : Value → Shared → Prop}
    {Q' : Value → Value → Shared → Prop} {f : V → V → Hp → Rs V} (ta : TrE φ sc ns pa a) (tb' : TrE φ sc ns pb b) (ec : EC φ n c env sc ns mf m ρ α T) (st : St φ c α T Λ mf s.heap)
    (ha : After φ c α T mf s Q X ((evE tb cl ρ a Λ).bind fun x Λ => (evE tb cl ρ b Λ).bind fun y Λ => f x y Λ))
    (k : ∀ x y Λ v w α' T' h' tk, Pre α α' → Sub T T' → St φ c α' T' Λ mf h' → VIn φ α' T' v x → VIn φ α' T' w y → EC φ n c env sc ns mf m ρ α' T' → After φ c α' T' mf { s with heap := h', toks := tk } Q X (f x y Λ) → Q' v w { s with heap := h', toks := tk }) :
    wpAny (model φ.prog φ.w) c.A (eval pa env) (fun v s₁ => wpAny (model φ.prog φ.w) c.A (eval pb env) (fun w s₂ => Q' v w s₂) X s₁) X s := by
  refine sa ta ec st (ha.first fun x Λ₁ v α₁ T₁ h₁ tk₁ _ p₁ t₁ st₁ hv ha₁ => ?_)
  have ec₁ := ec.mono p₁ t₁
  refine sb tb' ec₁ st₁ ((ha₁.grow p₁ t₁).first fun y Λ₂ w α₂ T₂ h₂ tk₂ _ p₂ t₂ st₂ hw ha₂ => ?_)
  exact k x y Λ₂ v w α₂ T₂ h₂ tk₂ (p₁.trans p₂) (t₁.trans t₂) st₂ (hv.mono p₂ t₂) hw (ec₁.mono p₂ t₂) (ha₂.grow p₂ t₂)
/-- an answer that needs no store: a number -/
theorem After.int {c : Ctx} {α : List (List Addr)} {T : Led} {mf : Str → Option Value} {s : Shared} {Q X : Value → Shared → Prop} {Λ : Hp} {i : Int} (ha : After φ c α T mf s Q X (.ok (.dat (.int i)) Λ)) (st : St φ c α T Λ mf s.heap) (t : Tok) (tk : Nat) : Q (.int i t) { s with toks := tk } :=
  ha _ α T s.heap tk (.refl _) (.refl _) st (.dat (.int i t))
theorem After.bool {c : Ctx} {α : List (List Addr)} {T : Led} {mf : Str → Option Value} {s : Shared} {Q X : Value → Shared → Prop} {Λ : Hp} {b : Bool} (ha : After φ c α T mf s Q X (.ok (.dat (.bool b)) Λ)) (st : St φ c α T Λ mf s.heap) (tk : Nat) : Q (.bool b) { s with toks := tk } :=
  ha _ α T s.heap tk (.refl _) (.refl _) st (.dat (.bool b))

theorem snd_bin {sc : Scope} {ns : List Str} {p : Pos} {pa pb : Expr} {a b : E} {op : Operator} {o : Bop} (sa : SoundE φ tb n cl sc ns pa a) (sb : SoundE φ tb n cl sc ns pb b) (ho : BopIs op o) (ta : TrE φ sc ns pa a) (tb' : TrE φ sc ns pb b) : SoundE φ tb n cl sc ns (.BinOp pa op pb p) (.bin o a b) := by
  intro c env mf m ρ α T Λ s Q X _ ec st ha
  simp only [q0, q1, q2, q3, q4, q5, q6, q7, q8, q9, q10, q11, q12, q13, q14, q15, q16, q17, q18, q19, q20, q21, q22, q23, q24, q25, q26, q27, q28, q29, q30, q31, q32, q33, q34, q35, q36, q37, q38, q39, q40, q41, q42] at ha
  refine wpAny_BinOp (two sa sb ta tb' ec st ha fun x y Λ v w α₁ T₁ h₁ tk₁ p₁ t₁ st₁ hv hw ec₁ ha₁ => ?_)
  have key : ∀ i j t u, bopI o i j ≠ none → (∀ r, bopI o i j = some r → Q (.int r tk₁) { s with heap := h₁, toks := tk₁ + 1 }) → wpAny (model φ.prog φ.w) c.A (binaryOp op (.int i t) (.int j u)) Q X { s with heap := h₁, toks := tk₁ } := by
    intro i j t u hn hq
    cases ho with
    | add => exact add_int (hq _ rfl)
    | sub => exact sub_int (hq _ rfl)
    | mul =>
      simp only [bopI] at hn hq
      split at hn
      · rename_i hm
        refine PyProof.Rows.mul_int (hq _ (by rw [if_pos hm])) ?_
        unfold mulOk at hm; exact @of_decide_eq_true _ (Classical.propDecidable _) hm
      · exact absurd rfl hn
    | fdiv =>
      simp only [bopI] at hn hq
      split at hn
      · exact absurd rfl hn
      · rename_i hm; exact floordiv_int hm (hq _ (by rw [if_neg hm])) (.inr (st₁.pylong ec₁.ok (by have := ec₁.room; omega)))
    | mod =>
      simp only [bopI] at hn hq
      split at hn
      · exact absurd rfl hn
      · rename_i hm; exact mod_int hm (hq _ (by rw [if_neg hm]))
    | pow =>
      simp only [bopI] at hn hq
      split at hn
      · rename_i hm; exact pow_int hm.1 hm.2 (hq _ (by rw [if_pos hm]))
      · exact absurd rfl hn
    | shl =>
      simp only [bopI] at hn hq
      split at hn
      · rename_i hm; exact lshift_int hm.1 hm.2 (hq _ (by rw [if_pos hm]))
      · exact absurd rfl hn
    | shr =>
      simp only [bopI] at hn hq
      split at hn
      · rename_i hm; exact rshift_int hm (hq _ (by rw [if_pos hm]))
      · exact absurd rfl hn
    | band => exact and_int (hq _ rfl)
    | bor => exact or_int (hq _ rfl)
    | bxor => exact xor_int (hq _ rfl)
  cases hb : vBin o x y with
  | none => rw [hb] at ha₁; exact ha₁.elim
  | some r =>
    rw [hb] at ha₁
    unfold vBin at hb
    split at hb
    · rename_i i j
      replace hv := hv.to_dat; cases hv with
      | dat hv => replace hw := hw.to_dat; cases hw with
        | dat hw =>
          replace hv := DatIn'.inv hv; cases hv
          replace hw := DatIn'.inv hw; cases hw
          cases hr : bopI o i j with
          | none => rw [hr] at hb; cases hb
          | some q =>
            rw [hr] at hb
            cases hb
            refine key i j _ _ (by rw [hr]; simp) fun r e => ?_
            rw [hr] at e
            cases e
            exact ha₁.int st₁ _ _
    · cases hb

end
end Mine

end
section
set_option maxRecDepth 100000
set_option autoImplicit false
open PySem PySem.W PySem.Calls PyProof.Rows PyProof.V PySem.Spec
namespace Mine
section
variable {φ : Fix} {tb : Tabs} {n : Nat} {cl : Nat → List V → Hp → Rs V}

theorem tr_star {sc : Scope} {ns : List Str} {a : Expr} {e : E} (h : TrE φ sc ns a e) (env : PySem.Env) (rest : List Expr) : starEach (a :: rest) env = (false, eval a env) :: starEach rest env := by
  cases a <;> first | rfl | cases h
theorem backTo_cons (p : Pos) (t : Sem Value) (r : List (Bool × Sem Value)) : backTo p ((false, t) :: r) = (false, t) :: backTo p r := rfl
theorem plainTo (p : Pos) {sc : Scope} {ns : List Str} {as : List Expr} {es : Es} (env : PySem.Env) (h : TrEs φ sc ns as es) : (backTo p (starEach as env)).any (·.1) = false := by
  induction as generalizing es with
  | nil => rfl
  | cons a as ih =>
    obtain ⟨_, _, _, ha, hs⟩ := h
    rw [tr_star (φ := φ) (sc := sc) (ns := ns) (e := .none) ha, backTo_cons, List.any_cons, ih hs]
    rfl

/-- one operand -/
theorem one {a : E} {pa : Expr} {sc : Scope} {ns : List Str} (sa : SoundE φ tb n cl sc ns pa a) {c : Ctx} {env : PySem.Env} {mf m : Str → Option Value} {ρ : Env} {α : List (List Addr)} {T : Led} {Λ : Hp} {s : Shared} {Q X : Value → Shared → Prop}
    {Q' : Value → Shared → Prop} {f : V → Hp → Rs V} (ta : TrE φ sc ns pa a) (ec : EC φ n c env sc ns mf m ρ α T) (st : St φ c α T Λ mf s.heap)
    (ha : After φ c α T mf s Q X ((evE tb cl ρ a Λ).bind f))
    (k : ∀ x Λ v α' T' h' tk, Pre α α' → Sub T T' → St φ c α' T' Λ mf h' → VIn φ α' T' v x → EC φ n c env sc ns mf m ρ α' T' → After φ c α' T' mf { s with heap := h', toks := tk } Q X (f x Λ) → Q' v { s with heap := h', toks := tk }) :
    wpAny (model φ.prog φ.w) c.A (eval pa env) Q' X s :=
  sa ta ec st (ha.first fun x Λ₁ v α₁ T₁ h₁ tk₁ _ p₁ t₁ st₁ hv ha₁ => k x Λ₁ v α₁ T₁ h₁ tk₁ p₁ t₁ st₁ hv (ec.mono p₁ t₁) (ha₁.grow p₁ t₁))

theorem snd_neg {sc : Scope} {ns : List Str} {p : Pos} {pa : Expr} {a : E} (sa : SoundE φ tb n cl sc ns pa a) (ta : TrE φ sc ns pa a) : SoundE φ tb n cl sc ns (.UnaryOp .USub pa p) (.neg a) := by
  intro c env mf m ρ α T Λ s Q X _ ec st ha
  simp only [q0, q1, q2, q3, q4, q5, q6, q7, q8, q9, q10, q11, q12, q13, q14, q15, q16, q17, q18, q19, q20, q21, q22, q23, q24, q25, q26, q27, q28, q29, q30, q31, q32, q33, q34, q35, q36, q37, q38, q39, q40, q41, q42] at ha
  refine PySem.wpAny_UnaryOp (one sa ta ec st ha fun x Λ v α₁ T₁ h₁ tk₁ p₁ t₁ st₁ hv ec₁ ha₁ => ?_)
  unfold vNeg at ha₁
  split at ha₁
  · replace hv := hv.to_dat; cases hv with
    | dat hv => cases hv; exact PyProof.Rows.neg_int (ha₁.int st₁ _ _)
  · exact ha₁.elim

/-- the truth of a value -/
theorem truthy_of {c : Ctx} {mf : Str → Option Value} {α : List (List Addr)} {T : Led} {Λ : Hp} {s : Shared} {v : Value} {x : V} {b : Bool} {Q : Bool → Shared → Prop} {X : Value → Shared → Prop} {A : Around} (st : St φ c α T Λ mf s.heap) (hv : VIn φ α T v x) (hb : vTruth Λ x = some b)
    (k : ∀ tk, Q b { s with toks := tk }) : wpAny (model φ.prog φ.w) A (truthy v) Q X s := by
  unfold vTruth at hb
  split at hb
  · replace hv := hv.to_dat; cases hv with
    | dat hv => cases hv; cases hb; exact wpAny_truthy_bool (k s.toks)
  · replace hv := hv.to_dat; cases hv with
    | dat hv =>
      replace hv := DatIn'.inv hv; cases hv
      rename_i i t
      cases hb
      refine PyProof.Rows.truthy_int ?_
      have e : (i != 0) = decide (i ≠ 0) := by by_cases h : i = 0 <;> simp [h]
      rw [e]; exact k s.toks
  · rename_i n
    split at hb
    · rename_i l hl
      split at hb
      · rename_i hlen
        cases hb
        replace hv := hv.to_ref; cases hv with
        | ref ha =>
          obtain ⟨M, S⟩ := st
          have hc := S.at ha hl
          cases hc with
          | dl hm hd =>
            rename_i vs k'
            have hlv := hd.length
            refine wpAny_truthy_list ⟨_, S.getM hm, rfl, _, rfl⟩ ?_ ?_
            · rw [List.size_toArray]; omega
            · have e : (!vs.toArray.isEmpty) = !l.isEmpty := by
                cases vs <;> cases l <;> simp_all
              rw [e]
              exact k (s.toks + 1 + 1)
      · cases hb
    · cases hb
  · cases hb

theorem snd_cmp (o : Cop) {a b : E} {pa pb : Expr} {sc : Scope} {ns : List Str} (sa : SoundE φ tb n cl sc ns pa a) (sb : SoundE φ tb n cl sc ns pb b) {op : CmpOp} {c : Ctx} {env : PySem.Env} {mf m : Str → Option Value} {ρ : Env} {α : List (List Addr)} {T : Led} {Λ : Hp} {s : Shared} {Q X : Value → Shared → Prop}
    (ho : CopIs op o) (ta : TrE φ sc ns pa a) (tb' : TrE φ sc ns pb b) (ec : EC φ n c env sc ns mf m ρ α T) (st : St φ c α T Λ mf s.heap) (ha : After φ c α T mf s Q X (evE tb cl ρ (.cmp o a b) Λ)) :
    wpAny (model φ.prog φ.w) c.A (eval pa env) (fun v s₁ => wpAny (model φ.prog φ.w) c.A (eval pb env) (fun w s₂ => wpAny (model φ.prog φ.w) c.A (compareOp op v w) Q X s₂) X s₁) X s := by
  simp only [q0, q1, q2, q3, q4, q5, q6, q7, q8, q9, q10, q11, q12, q13, q14, q15, q16, q17, q18, q19, q20, q21, q22, q23, q24, q25, q26, q27, q28, q29, q30, q31, q32, q33, q34, q35, q36, q37, q38, q39, q40, q41, q42] at ha
  refine two sa sb ta tb' ec st ha fun x y Λ v w α₁ T₁ h₁ tk₁ p₁ t₁ st₁ hv hw ec₁ ha₁ => ?_
  unfold vCmp at ha₁
  split at ha₁
  · replace hv := hv.to_dat; cases hv with
    | dat hv => replace hw := hw.to_dat; cases hw with
      | dat hw =>
        replace hv := DatIn'.inv hv; cases hv
        replace hw := DatIn'.inv hw; cases hw
        have q := ha₁.bool st₁ tk₁
        cases ho with
        | eq => exact eq_int q
        | ne => refine ne_int ?_; simp only [bne, beq_iff_eq] at *; exact q
        | lt => exact lt_int q
        | le => exact le_int q
        | gt => exact gt_int q
        | ge => exact ge_int q
  · replace hv := hv.to_dat; cases hv with
    | dat hv => replace hw := hw.to_dat; cases hw with
      | dat hw =>
        replace hv := DatIn'.inv hv; cases hv
        replace hw := DatIn'.inv hw; cases hw
        cases ho with
        | eq => exact PyProof.Rows.eq_str (ha₁.bool st₁ tk₁)
        | ne => exact PyProof.Rows.ne_str (ha₁.bool st₁ tk₁)
        | _ => exact ha₁.elim
  · replace hv := hv.to_dat; cases hv with
    | dat hv => replace hw := hw.to_dat; cases hw with
      | dat hw =>
        replace hv := DatIn'.inv hv; cases hv
        replace hw := DatIn'.inv hw; cases hw
        cases ho with
        | eq => exact PyProof.Rows.eq_bool (ha₁.bool st₁ tk₁)
        | ne => exact PyProof.Rows.ne_bool (ha₁.bool st₁ tk₁)
        | _ => exact ha₁.elim
  · exact ha₁.elim
end
end Mine

end
section
set_option maxRecDepth 100000
set_option autoImplicit false
open PySem PySem.W PySem.Calls PyProof.Rows PyProof.V PySem.Spec
namespace Mine
section
variable {φ : Fix} {tb : Tabs} {n : Nat} {cl : Nat → List V → Hp → Rs V}

theorem AfterT.of {c : Ctx} {mf : Str → Option Value} {α : List (List Addr)} {T : Led} {s : Shared} {Q : Bool → Shared → Prop} {X : Value → Shared → Prop} {A : Around} {r : Rs V} (h : AfterT φ c α T mf s Q X (truthOf r)) :
    After φ c α T mf s (fun v s' => wpAny (model φ.prog φ.w) A (truthy v) Q X s') X r := by
  cases r with
  | ok V Λ =>
    intro v α' T' h' tk p t st hv
    unfold truthOf at h
    rw [Rs.bind_ok] at h
    cases hb : vTruth Λ V with
    | none => rw [hb] at h; exact h.elim
    | some b =>
      rw [hb] at h
      exact truthy_of st hv hb fun tk' => h α' T' h' tk' p t st
  | err d => exact h
  | bad => exact h.elim
theorem AfterT.grow {c : Ctx} {mf : Str → Option Value} {α : List (List Addr)} {T : Led} {s : Shared} {Q : Bool → Shared → Prop} {X : Value → Shared → Prop} {r : Rs Bool} (h : AfterT φ c α T mf s Q X r) {α' : List (List Addr)} {T' : Led} {h' : Heap} {tk : Nat} (p : Pre α α') (t : Sub T T') :
    AfterT φ c α' T' mf { s with heap := h', toks := tk } Q X r := by
  cases r with
  | ok V Λ => exact fun α₂ T₂ h₂ tk₂ p₂ t₂ S₂ => h α₂ T₂ h₂ tk₂ (p.trans p₂) (t.trans t₂) S₂
  | err d => exact fun e h₂ tk₂ F => h e h₂ tk₂ (F.weak t)
  | bad => exact h
theorem AfterT.first {c : Ctx} {mf : Str → Option Value} {α : List (List Addr)} {T : Led} {s : Shared} {Q : Value → Shared → Prop} {X : Value → Shared → Prop} {r : Rs Bool} {f : Bool → Hp → Rs V} (h : After φ c α T mf s Q X (r.bind f)) {Q' : Bool → Shared → Prop}
    (k : ∀ b Λ α' T' h' tk, Pre α α' → Sub T T' → St φ c α' T' Λ mf h' → After φ c α T mf s Q X (f b Λ) → Q' b { s with heap := h', toks := tk }) : AfterT φ c α T mf s Q' X r := by
  cases r with
  | ok b Λ => exact fun α' T' h' tk p t S => k b Λ α' T' h' tk p t S h
  | err d => exact h
  | bad => exact h
theorem AfterT.firstT {c : Ctx} {mf : Str → Option Value} {α : List (List Addr)} {T : Led} {s : Shared} {Q : Bool → Shared → Prop} {X : Value → Shared → Prop} {r : Rs Bool} {f : Bool → Hp → Rs Bool} (h : AfterT φ c α T mf s Q X (r.bind f)) {Q' : Bool → Shared → Prop}
    (k : ∀ b Λ α' T' h' tk, Pre α α' → Sub T T' → St φ c α' T' Λ mf h' → AfterT φ c α T mf s Q X (f b Λ) → Q' b { s with heap := h', toks := tk }) : AfterT φ c α T mf s Q' X r := by
  cases r with
  | ok b Λ => exact fun α' T' h' tk p t S => k b Λ α' T' h' tk p t S h
  | err d => exact h
  | bad => exact h

theorem AfterT.imp {c : Ctx} {mf : Str → Option Value} {α : List (List Addr)} {T : Led} {s : Shared} {Q Q' : Bool → Shared → Prop} {X : Value → Shared → Prop} {r : Rs Bool} (h : AfterT φ c α T mf s Q X r) (k : ∀ b s', Q b s' → Q' b s') : AfterT φ c α T mf s Q' X r := by
  cases r with
  | ok b Λ => exact fun α' T' h' tk p t S => k _ _ (h α' T' h' tk p t S)
  | err d => exact h
  | bad => exact h
theorem After.imp {c : Ctx} {mf : Str → Option Value} {α : List (List Addr)} {T : Led} {s : Shared} {Q Q' : Value → Shared → Prop} {X : Value → Shared → Prop} {r : Rs V} (h : After φ c α T mf s Q X r) (k : ∀ b s', Q b s' → Q' b s') : After φ c α T mf s Q' X r := by
  cases r with
  | ok b Λ => exact fun v α' T' h' tk p t S hv => k _ _ (h v α' T' h' tk p t S hv)
  | err d => exact h
  | bad => exact h

theorem bind_assoc {α β γ : Type} (r : Rs α) (f : α → Hp → Rs β) (g : β → Hp → Rs γ) : (r.bind f).bind g = r.bind fun x Λ => (f x Λ).bind g := by cases r <;> rfl

/-- a test that is a plain expression -/
theorem sndT_plain {e : E} {sc : Scope} {ns : List Str} {pe : Expr} (se : SoundE φ tb n cl sc ns pe e) {c : Ctx} {env : PySem.Env} {mf m : Str → Option Value} {ρ : Env} {α : List (List Addr)} {T : Led} {Λ : Hp} {s : Shared} {Q : Bool → Shared → Prop} {X : Value → Shared → Prop}
    (t : TrE φ sc ns pe e) (ec : EC φ n c env sc ns mf m ρ α T) (st : St φ c α T Λ mf s.heap) (ha : AfterT φ c α T mf s Q X (truthOf (evE tb cl ρ e Λ)))
    (hp : PySem.isTrue pe env (eval pe env) = (do let v ← eval pe env; standAt pe.pos; holding [v] (truthy v))) : wpAny (model φ.prog φ.w) c.A (PySem.isTrue pe env (eval pe env)) Q X s :=
  isTrue_plain (se t ec st ha.of) hp
/-- .. or a comparison -/
theorem sndT_cmp {pa pb : Expr} {op : CmpOp} {p : Pos} {c : Ctx} {env : PySem.Env} {mf : Str → Option Value} {α : List (List Addr)} {T : Led} {s : Shared} {Q : Bool → Shared → Prop} {X : Value → Shared → Prop} {r : Rs V}
    (hb : behindInMarks op pb = false)
    (h : ∀ {Q' : Value → Shared → Prop}, After φ c α T mf s Q' X r → wpAny (model φ.prog φ.w) c.A (eval pa env) (fun v s₁ => wpAny (model φ.prog φ.w) c.A (eval pb env) (fun w s₂ => wpAny (model φ.prog φ.w) c.A (compareOp op v w) Q' X s₂) X s₁) X s)
    (ha : AfterT φ c α T mf s Q X (truthOf r)) : wpAny (model φ.prog φ.w) c.A (PySem.isTrue (.Compare pa [op] [pb] p) env (eval (.Compare pa [op] [pb] p) env)) Q X s :=
  wpAny_isTrue_Compare1 (h ha.of) hb

theorem CopIs.marks {op : CmpOp} {o : Cop} (h : CopIs op o) (b : Expr) : behindInMarks op b = false := by
  cases h <;> cases b <;> simp [behindInMarks] <;> intros <;> simp_all

theorem sndE_cmp {sc : Scope} {ns : List Str} {p : Pos} {pa pb : Expr} {a b : E} {op : CmpOp} {o : Cop} (sa : SoundE φ tb n cl sc ns pa a) (sb : SoundE φ tb n cl sc ns pb b) (ho : CopIs op o) (ta : TrE φ sc ns pa a) (tb' : TrE φ sc ns pb b) : SoundE φ tb n cl sc ns (.Compare pa [op] [pb] p) (.cmp o a b) := by
  intro c env mf m ρ α T Λ s Q X _ ec st ha
  exact wpAny_Compare1 (snd_cmp o sa sb ho ta tb' ec st ha) (ho.marks _)

theorem sndT_cmp' {sc : Scope} {ns : List Str} {p : Pos} {pa pb : Expr} {a b : E} {op : CmpOp} {o : Cop} (sa : SoundE φ tb n cl sc ns pa a) (sb : SoundE φ tb n cl sc ns pb b) (ho : CopIs op o) (ta : TrE φ sc ns pa a) (tb' : TrE φ sc ns pb b) : SoundT φ tb n cl sc ns (.Compare pa [op] [pb] p) (.cmp o a b) := by
  intro c env mf m ρ α T Λ s Q X _ ec st ha
  exact sndT_cmp (ho.marks _) (fun h => snd_cmp o sa sb ho ta tb' ec st h) ha

theorem snd_not {sc : Scope} {ns : List Str} {p : Pos} {pa : Expr} {a : E} (sa : SoundE φ tb n cl sc ns pa a) (ta : TrE φ sc ns pa a) : SoundE φ tb n cl sc ns (.UnaryOp .Not pa p) (.not a) := by
  intro c env mf m ρ α T Λ s Q X _ ec st ha
  simp only [q0, q1, q2, q3, q4, q5, q6, q7, q8, q9, q10, q11, q12, q13, q14, q15, q16, q17, q18, q19, q20, q21, q22, q23, q24, q25, q26, q27, q28, q29, q30, q31, q32, q33, q34, q35, q36, q37, q38, q39, q40, q41, q42] at ha
  refine PySem.wpAny_UnaryOp (one sa ta ec st ha fun x Λ v α₁ T₁ h₁ tk₁ p₁ t₁ st₁ hv ec₁ ha₁ => ?_)
  unfold vNot at ha₁
  cases hb : vTruth Λ x with
  | none => rw [hb] at ha₁; exact ha₁.elim
  | some b =>
    rw [hb] at ha₁
    exact not_of (truthy_of st₁ hv hb fun tk => ha₁.bool st₁ tk)

theorem sndT_not {sc : Scope} {ns : List Str} {p : Pos} {pa : Expr} {a : E} (sa : SoundT φ tb n cl sc ns pa a) (ta : TrE φ sc ns pa a) : SoundT φ tb n cl sc ns (.UnaryOp .Not pa p) (.not a) := by
  intro c env mf m ρ α T Λ s Q X _ ec st ha
  refine isTrue_not (sa ta ec st ?_)
  have e : truthOf (evE tb cl ρ (.not a) Λ) = (truthOf (evE tb cl ρ a Λ)).bind fun b Λ => .ok (!b) Λ := by
    simp only [q0, q1, q2, q3, q4, q5, q6, q7, q8, q9, q10, q11, q12, q13, q14, q15, q16, q17, q18, q19, q20, q21, q22, q23, q24, q25, q26, q27, q28, q29, q30, q31, q32, q33, q34, q35, q36, q37, q38, q39, q40, q41, q42, truthOf, bind_assoc]
    congr 1
    funext x Λ'
    unfold vNot
    cases vTruth Λ' x <;> rfl
  rw [e] at ha
  exact ha.firstT fun b Λ' α' T' h' tk p t S q => q α' T' h' tk p t S

theorem snd_ite {sc : Scope} {ns : List Str} {p : Pos} {pt pa pb : Expr} {t a b : E} (stt : SoundT φ tb n cl sc ns pt t) (sa : SoundE φ tb n cl sc ns pa a) (sb : SoundE φ tb n cl sc ns pb b) (tt : TrE φ sc ns pt t) (ta : TrE φ sc ns pa a) (tb' : TrE φ sc ns pb b) : SoundE φ tb n cl sc ns (.IfExp pt pa pb p) (.ite t a b) := by
  intro c env mf m ρ α T Λ s Q X _ ec st ha
  refine IfExp_ (stt tt ec st ?_)
  have e : evE tb cl ρ (.ite t a b) Λ = (truthOf (evE tb cl ρ t Λ)).bind fun c Λ => if c then evE tb cl ρ a Λ else evE tb cl ρ b Λ := by
    simp only [q0, q1, q2, q3, q4, q5, q6, q7, q8, q9, q10, q11, q12, q13, q14, q15, q16, q17, q18, q19, q20, q21, q22, q23, q24, q25, q26, q27, q28, q29, q30, q31, q32, q33, q34, q35, q36, q37, q38, q39, q40, q41, q42, truthOf, bind_assoc]
  rw [e] at ha
  refine AfterT.first ha fun b' Λ' α' T' h' tk p t S q => ?_
  have q' := q.grow (h' := h') (tk := tk) p t
  cases b' with
  | true => exact sa ta (ec.mono p t) S q'
  | false => exact sb tb' (ec.mono p t) S q'

theorem sndT_ite {sc : Scope} {ns : List Str} {p : Pos} {pt pa pb : Expr} {t a b : E} (stt : SoundT φ tb n cl sc ns pt t) (sa : SoundT φ tb n cl sc ns pa a) (sb : SoundT φ tb n cl sc ns pb b) (tt : TrE φ sc ns pt t) (ta : TrE φ sc ns pa a) (tb' : TrE φ sc ns pb b) : SoundT φ tb n cl sc ns (.IfExp pt pa pb p) (.ite t a b) := by
  intro c env mf m ρ α T Λ s Q X _ ec st ha
  refine PyProof.Rows.isTrue_IfExp (stt tt ec st ?_)
  have e : truthOf (evE tb cl ρ (.ite t a b) Λ) = (truthOf (evE tb cl ρ t Λ)).bind fun c Λ => if c then truthOf (evE tb cl ρ a Λ) else truthOf (evE tb cl ρ b Λ) := by
    simp only [q0, q1, q2, q3, q4, q5, q6, q7, q8, q9, q10, q11, q12, q13, q14, q15, q16, q17, q18, q19, q20, q21, q22, q23, q24, q25, q26, q27, q28, q29, q30, q31, q32, q33, q34, q35, q36, q37, q38, q39, q40, q41, q42, truthOf, bind_assoc]
    congr 1
    funext x Λ'
    congr 1
    funext y Λ''
    cases y <;> rfl
  rw [e] at ha
  refine AfterT.firstT ha fun b' Λ' α' T' h' tk p t S q => ?_
  have q' := q.grow (h' := h') (tk := tk) p t
  cases b' with
  | true => exact sa ta (ec.mono p t) S q'
  | false => exact sb tb' (ec.mono p t) S q'

theorem snd_and {sc : Scope} {ns : List Str} {p : Pos} {pa pb : Expr} {a b : E} (sa : SoundE φ tb n cl sc ns pa a) (sb : SoundE φ tb n cl sc ns pb b) (ta : TrE φ sc ns pa a) (tb' : TrE φ sc ns pb b) : SoundE φ tb n cl sc ns (.BoolOp .And [pa, pb] p) (.and a b) := by
  intro c env mf m ρ α T Λ s Q X _ ec st ha
  simp only [q0, q1, q2, q3, q4, q5, q6, q7, q8, q9, q10, q11, q12, q13, q14, q15, q16, q17, q18, q19, q20, q21, q22, q23, q24, q25, q26, q27, q28, q29, q30, q31, q32, q33, q34, q35, q36, q37, q38, q39, q40, q41, q42] at ha
  refine BoolOp_and (one sa ta ec st ha fun x Λ v α₁ T₁ h₁ tk₁ p₁ t₁ st₁ hv ec₁ ha₁ => ?_)
  cases hb : vTruth Λ x with
  | none => rw [hb] at ha₁; exact ha₁.elim
  | some q =>
    rw [hb] at ha₁
    refine truthy_of st₁ hv hb fun tk => ?_
    cases q with
    | false => exact ha₁ v α₁ T₁ h₁ tk (.refl _) (.refl _) st₁ hv
    | true => exact BoolOp_one (sb tb' ec₁ st₁ (ha₁.grow (h' := h₁) (tk := tk) (.refl _) (.refl _)))

theorem sndT_and {sc : Scope} {ns : List Str} {p : Pos} {pa pb : Expr} {a b : E} (sa : SoundT φ tb n cl sc ns pa a) (sb : SoundT φ tb n cl sc ns pb b) (ta : TrE φ sc ns pa a) (tb' : TrE φ sc ns pb b) : SoundT φ tb n cl sc ns (.BoolOp .And [pa, pb] p) (.and a b) := by
  intro c env mf m ρ α T Λ s Q X _ ec st ha
  have e : truthOf (evE tb cl ρ (.and a b) Λ) = (truthOf (evE tb cl ρ a Λ)).bind fun c Λ => if c then truthOf (evE tb cl ρ b Λ) else .ok false Λ := by
    simp only [q0, q1, q2, q3, q4, q5, q6, q7, q8, q9, q10, q11, q12, q13, q14, q15, q16, q17, q18, q19, q20, q21, q22, q23, q24, q25, q26, q27, q28, q29, q30, q31, q32, q33, q34, q35, q36, q37, q38, q39, q40, q41, q42, truthOf, bind_assoc]
    cases evE tb cl ρ a Λ with
    | ok x Λ' =>
      simp only [Rs.bind_ok]
      cases hb : vTruth Λ' x with
      | none => rfl
      | some q => cases q <;> simp [hb]
    | err d => rfl
    | bad => rfl
  rw [e] at ha
  refine isTrue_and (sa ta ec st (ha.firstT fun q Λ' α' T' h' tk p t S k => ?_))
  cases q with
  | false => exact k α' T' h' tk p t S
  | true =>
    have kk := AfterT.grow (h' := h') (tk := tk) k p t
    simp only [if_true] at kk
    refine isTrue_and (sb tb' (ec.mono p t) S (kk.imp fun q s' hq => ?_))
    cases q with
    | true => exact PyProof.Rows.isTrue_and_nil hq
    | false => exact hq

theorem snd_or_or2 {sc : Scope} {ns : List Str} {p : Pos} {pa pb : Expr} {a b : E} (sa : SoundE φ tb n cl sc ns pa a) (sb : SoundE φ tb n cl sc ns pb b) (ta : TrE φ sc ns pa a) (tb' : TrE φ sc ns pb b) : SoundE φ tb n cl sc ns (.BoolOp .Or [pa, pb] p) (.or a b) := by
  intro c env mf m ρ α T Λ s Q X _ ec st ha
  simp only [q0, q1, q2, q3, q4, q5, q6, q7, q8, q9, q10, q11, q12, q13, q14, q15, q16, q17, q18, q19, q20, q21, q22, q23, q24, q25, q26, q27, q28, q29, q30, q31, q32, q33, q34, q35, q36, q37, q38, q39, q40, q41, q42] at ha
  refine BoolOp_or (one sa ta ec st ha fun x Λ v α₁ T₁ h₁ tk₁ p₁ t₁ st₁ hv ec₁ ha₁ => ?_)
  cases hb : vTruth Λ x with
  | none => rw [hb] at ha₁; exact ha₁.elim
  | some q =>
    rw [hb] at ha₁
    refine truthy_of st₁ hv hb fun tk => ?_
    cases q with
    | true => exact ha₁ v α₁ T₁ h₁ tk (.refl _) (.refl _) st₁ hv
    | false => exact BoolOp_one (sb tb' ec₁ st₁ (ha₁.grow (h' := h₁) (tk := tk) (.refl _) (.refl _)))
theorem snd_or_orC {sc : Scope} {ns : List Str} {p : Pos} {pa pb pc : Expr} {r : List Expr} {a b : E} (sa : SoundE φ tb n cl sc ns pa a) (sb : SoundE φ tb n cl sc ns (.BoolOp .Or (pb :: pc :: r) p) b) (ta : TrE φ sc ns pa a) (tb' : TrE φ sc ns (.BoolOp .Or (pb :: pc :: r) p) b) : SoundE φ tb n cl sc ns (.BoolOp .Or (pa :: pb :: pc :: r) p) (.or a b) := by
  intro c env mf m ρ α T Λ s Q X _ ec st ha
  simp only [q0, q1, q2, q3, q4, q5, q6, q7, q8, q9, q10, q11, q12, q13, q14, q15, q16, q17, q18, q19, q20, q21, q22, q23, q24, q25, q26, q27, q28, q29, q30, q31, q32, q33, q34, q35, q36, q37, q38, q39, q40, q41, q42] at ha
  refine BoolOp_or (one sa ta ec st ha fun x Λ v α₁ T₁ h₁ tk₁ p₁ t₁ st₁ hv ec₁ ha₁ => ?_)
  cases hb : vTruth Λ x with
  | none => rw [hb] at ha₁; exact ha₁.elim
  | some q =>
    rw [hb] at ha₁
    refine truthy_of st₁ hv hb fun tk => ?_
    cases q with
    | true => exact ha₁ v α₁ T₁ h₁ tk (.refl _) (.refl _) st₁ hv
    | false => exact sb tb' ec₁ st₁ (ha₁.grow (h' := h₁) (tk := tk) (.refl _) (.refl _))

theorem truthOf_or (ρ : Env) (a b : E) (Λ : Hp) : truthOf (evE tb cl ρ (.or a b) Λ) = (truthOf (evE tb cl ρ a Λ)).bind fun c Λ => if c then .ok true Λ else truthOf (evE tb cl ρ b Λ) := by
  simp only [q0, q1, q2, q3, q4, q5, q6, q7, q8, q9, q10, q11, q12, q13, q14, q15, q16, q17, q18, q19, q20, q21, q22, q23, q24, q25, q26, q27, q28, q29, q30, q31, q32, q33, q34, q35, q36, q37, q38, q39, q40, q41, q42, truthOf, bind_assoc]
  cases evE tb cl ρ a Λ with
  | ok x Λ' =>
    simp only [Rs.bind_ok]
    cases hb : vTruth Λ' x with
    | none => rfl
    | some q => cases q <;> simp [hb]
  | err d => rfl
  | bad => rfl
theorem sndT_or_or2 {sc : Scope} {ns : List Str} {p : Pos} {pa pb : Expr} {a b : E} (sa : SoundT φ tb n cl sc ns pa a) (sb : SoundT φ tb n cl sc ns pb b) (ta : TrE φ sc ns pa a) (tb' : TrE φ sc ns pb b) : SoundT φ tb n cl sc ns (.BoolOp .Or [pa, pb] p) (.or a b) := by
  intro c env mf m ρ α T Λ s Q X _ ec st ha
  have e := truthOf_or (tb := tb) (cl := cl) ρ a b Λ
  rw [e] at ha
  refine isTrue_or (sa ta ec st (ha.firstT fun q Λ' α' T' h' tk p t S k => ?_))
  cases q with
  | true => exact k α' T' h' tk p t S
  | false =>
    have kk := AfterT.grow (h' := h') (tk := tk) k p t
    simp only [Bool.false_eq_true, if_false] at kk
    refine isTrue_or (sb tb' (ec.mono p t) S (kk.imp fun q s' hq => ?_))
    cases q with
    | false => exact PyProof.Rows.isTrue_or_nil hq
    | true => exact hq
theorem sndT_or_orC {sc : Scope} {ns : List Str} {p : Pos} {pa pb pc : Expr} {r : List Expr} {a b : E} (sa : SoundT φ tb n cl sc ns pa a) (sb : SoundT φ tb n cl sc ns (.BoolOp .Or (pb :: pc :: r) p) b) (ta : TrE φ sc ns pa a) (tb' : TrE φ sc ns (.BoolOp .Or (pb :: pc :: r) p) b) : SoundT φ tb n cl sc ns (.BoolOp .Or (pa :: pb :: pc :: r) p) (.or a b) := by
  intro c env mf m ρ α T Λ s Q X _ ec st ha
  have e := truthOf_or (tb := tb) (cl := cl) ρ a b Λ
  rw [e] at ha
  refine isTrue_or (sa ta ec st (ha.firstT fun q Λ' α' T' h' tk p t S k => ?_))
  cases q with
  | true => exact k α' T' h' tk p t S
  | false =>
    have := AfterT.grow (h' := h') (tk := tk) k p t
    simp only [Bool.false_eq_true, if_false] at this
    exact sb tb' (ec.mono p t) S this

end
end Mine

end
section
set_option maxRecDepth 100000
set_option autoImplicit false
open PySem PySem.W PySem.Calls PyProof.Rows PyProof.V PySem.Spec
namespace Mine
section
variable {φ : Fix} {tb : Tabs} {n : Nat} {cl : Nat → List V → Hp → Rs V}

theorem attributeBase_plain {o : Expr} (h : plainBase o = true) (name : Str) (env : PySem.Env) (whole : Sem Value) : attributeBase o name env whole = whole := by
  cases o <;> first | rfl | cases h
theorem methodForm {sc : Scope} {ns : List Str} {as : List Expr} {es : Es} (env : PySem.Env) (p : Pos) (h : TrEs φ sc ns as es) (hl : as.length < 9) : methodCallForm (as.length + ([] : List Keyword).length) (backTo p (starEach as env)) (backToKw p (keywordEach [] env)) = true := by
  unfold methodCallForm
  have := plainTo p env h
  have e : (backTo p (starEach as env)).all (!·.1) = true := by
    rw [List.all_eq_not_any_not]
    simpa using this
  rw [e]
  simp [keywordEach, backToKw]
  omega
/-- a method's call -/
theorem methCall {o : Expr} {name : Str} {apos pos : Pos} {as : List Expr} {es : Es} {sc : Scope} {ns : List Str} {env : PySem.Env} {M : Model} {A : Around} {s : Shared} {Q X : Value → Shared → Prop}
    (ho : plainBase o = true) (hl : oneLine apos pos = true) (tr : TrEs φ sc ns as es) (hn : as.length < 9)
    (h : ∀ pl, wpAny M A (eval o env) (fun ov s₁ => wpAny M A (getMethod ov name pl) (fun fx s₂ => wpAny M A (callWith pos fx.1 fx.2 (backTo pos (starEach as env)) []) Q X s₂) X s₁) X s) :
    wpAny M A (eval (.Call (.Attribute o name apos) as [] pos) env) Q X s := by
  show wpAny M A (do
    let ov ← attributeBase o name env (eval o env)
    standAt apos.atName
    methodCall o name apos pos env ov (as.length + ([] : List Keyword).length) (backTo pos (starEach as env)) (backToKw pos (keywordEach [] env))) Q X s
  rw [attributeBase_plain ho]
  unfold methodCall
  rw [methodForm env pos tr hn]
  refine wpAny_bind (wpAny_mono (h (do return (← importBound o env).getD true)) (fun ov s₁ h₁ => wpAny_bind (wpAny_standAt ?_)) fun _ _ x => x)
  refine wpAny_bind (wpAny_holding (wpAny_mono h₁ (fun fx s₂ h₂ => ?_) fun _ _ x => x))
  obtain ⟨f, first⟩ := fx
  have e : methodCallPos true o env apos pos = pure pos := by
    unfold methodCallPos
    unfold oneLine at hl
    rw [hl]
    rfl
  rw [e]
  exact wpAny_bind (wpAny_pure h₂)

/-- a built-in function of one argument -/
theorem call_bi {a : E} {pa : Expr} {sc : Scope} {ns : List Str} (sa : SoundE φ tb n cl sc ns pa a) {x : Str} {id : String} {p q : Pos} {c : Ctx} {env : PySem.Env} {mf m : Str → Option Value} {ρ : Env} {α : List (List Addr)} {T : Led} {Λ : Hp} {s : Shared} {Q X : Value → Shared → Prop}
    {f : V → Hp → Rs V} (g : BiIs φ sc x (.builtin id)) (ta : TrE φ sc ns pa a) (ec : EC φ n c env sc ns mf m ρ α T) (st : St φ c α T Λ mf s.heap) (ha : After φ c α T mf s Q X ((evE tb cl ρ a Λ).bind f))
    (k : ∀ x Λ v α' T' h' tk, Pre α α' → Sub T T' → St φ c α' T' Λ mf h' → VIn φ α' T' v x → EC φ n c env sc ns mf m ρ α' T' → After φ c α' T' mf { s with heap := h', toks := tk } Q X (f x Λ) →
      wpAny (model φ.prog φ.w) c.A (call (.builtin id) [v]) Q X { s with heap := h', toks := tk }) :
    wpAny (model φ.prog φ.w) c.A (eval (.Call (.Name x q) [pa] [] p) env) Q X s :=
  PySem.Call_name1 (tr_star ta env []) (ec.builtin st g (PySem.callWith_builtin1 (one sa ta ec st ha k)))
theorem call_ty {a : E} {pa : Expr} {sc : Scope} {ns : List Str} (sa : SoundE φ tb n cl sc ns pa a) {x : Str} {id : String} {p q : Pos} {c : Ctx} {env : PySem.Env} {mf m : Str → Option Value} {ρ : Env} {α : List (List Addr)} {T : Led} {Λ : Hp} {s : Shared} {Q X : Value → Shared → Prop}
    {f : V → Hp → Rs V} (g : BiIs φ sc x (.type id)) (ta : TrE φ sc ns pa a) (ec : EC φ n c env sc ns mf m ρ α T) (st : St φ c α T Λ mf s.heap) (ha : After φ c α T mf s Q X ((evE tb cl ρ a Λ).bind f))
    (k : ∀ x Λ v α' T' h' tk, Pre α α' → Sub T T' → St φ c α' T' Λ mf h' → VIn φ α' T' v x → EC φ n c env sc ns mf m ρ α' T' → After φ c α' T' mf { s with heap := h', toks := tk } Q X (f x Λ) →
      wpAny (model φ.prog φ.w) c.A (call (.type id) [v]) Q X { s with heap := h', toks := tk }) :
    wpAny (model φ.prog φ.w) c.A (eval (.Call (.Name x q) [pa] [] p) env) Q X s :=
  PySem.Call_name1 (tr_star ta env []) (ec.builtin st g (PySem.callWith_type1 (one sa ta ec st ha k)))

theorem tup_at {T : Led} {a : Addr} {vs : List Value} {k : Nat} {h : Heap} (e : h.get? a = some { cls := .type "tuple", data := .seq vs.toArray k }) : IsTup h a vs.toArray := ⟨_, e, rfl, k, rfl⟩

theorem snd_len {sc : Scope} {ns : List Str} {p q : Pos} {x : Str} {pa : Expr} {a : E} (sa : SoundE φ tb n cl sc ns pa a) (g : BiIs φ sc x (.builtin "len")) (ta : TrE φ sc ns pa a) : SoundE φ tb n cl sc ns (.Call (.Name x q) [pa] [] p) (.len a) := by
  intro c env mf m ρ α T Λ s Q X _ ec st ha
  simp only [q0, q1, q2, q3, q4, q5, q6, q7, q8, q9, q10, q11, q12, q13, q14, q15, q16, q17, q18, q19, q20, q21, q22, q23, q24, q25, q26, q27, q28, q29, q30, q31, q32, q33, q34, q35, q36, q37, q38, q39, q40, q41, q42] at ha
  refine call_bi sa g ta ec st ha fun x Λ v α₁ T₁ h₁ tk₁ p₁ t₁ st₁ hv ec₁ ha₁ => ?_
  obtain ⟨M, S⟩ := id st₁
  unfold vLen at ha₁
  split at ha₁
  · rename_i l
    split at ha₁
    · rename_i hlen
      replace hv := hv.to_dat; cases hv with
      | dat hv =>
        cases hv with
        | @tuple a vs k _ hm hd =>
          have hl := hd.length
          refine len_tuple (tup_at (T := T₁) (S.getT hm)) (by rw [List.size_toArray]; omega) ?_
          rw [List.size_toArray, hl]
          exact ha₁.int st₁ _ _
    · exact ha₁.elim
  · rename_i k
    split at ha₁
    · rename_i l hl
      split at ha₁
      · rename_i hlen
        replace hv := hv.to_ref; cases hv with
        | ref hr =>
          cases (S.at hr hl).to_dl with
          | @dl a vs k _ hm hd =>
            have hl := hd.length
            refine call_len_list ⟨_, S.getM hm, rfl, _, rfl⟩ (by rw [List.size_toArray]; omega) ?_
            rw [List.size_toArray, hl]
            exact ha₁.int st₁ _ _
      · exact ha₁.elim
    · rename_i l hl
      split at ha₁
      · rename_i hlen
        replace hv := hv.to_ref; cases hv with
        | ref hr =>
          cases (S.at hr hl).to_vl with
          | @vl a vs k _ hm hd =>
            have hl := hd.length
            refine call_len_list ⟨_, S.getM hm, rfl, _, rfl⟩ (by rw [List.size_toArray]; omega) ?_
            rw [List.size_toArray, hl]
            exact ha₁.int st₁ _ _
      · exact ha₁.elim
    · exact ha₁.elim
  · exact ha₁.elim

theorem snd_abs {sc : Scope} {ns : List Str} {p q : Pos} {x : Str} {pa : Expr} {a : E} (sa : SoundE φ tb n cl sc ns pa a) (g : BiIs φ sc x (.builtin "abs")) (ta : TrE φ sc ns pa a) : SoundE φ tb n cl sc ns (.Call (.Name x q) [pa] [] p) (.abs a) := by
  intro c env mf m ρ α T Λ s Q X _ ec st ha
  simp only [q0, q1, q2, q3, q4, q5, q6, q7, q8, q9, q10, q11, q12, q13, q14, q15, q16, q17, q18, q19, q20, q21, q22, q23, q24, q25, q26, q27, q28, q29, q30, q31, q32, q33, q34, q35, q36, q37, q38, q39, q40, q41, q42] at ha
  refine call_bi sa g ta ec st ha fun x Λ v α₁ T₁ h₁ tk₁ p₁ t₁ st₁ hv ec₁ ha₁ => ?_
  unfold vAbs at ha₁
  split at ha₁
  · rename_i i
    replace hv := hv.to_dat; cases hv with
    | dat hv =>
      replace hv := DatIn'.inv hv; cases hv
      refine call_abs_int fun u tk => ?_
      have e : (if i < 0 then -i else i) = (i.natAbs : Int) := by split <;> omega
      rw [e]
      exact ha₁.int st₁ _ _
  · exact ha₁.elim

theorem snd_bitlen {sc : Scope} {ns : List Str} {p q : Pos} {pa : Expr} {a : E} (sa : SoundE φ tb n cl sc ns pa a) (hb : plainBase pa = true) (hl : oneLine q p = true) (ta : TrE φ sc ns pa a) : SoundE φ tb n cl sc ns (.Call (.Attribute pa "bit_length" q) [] [] p) (.bitlen a) := by
  intro c env mf m ρ α T Λ s Q X _ ec st ha
  simp only [q0, q1, q2, q3, q4, q5, q6, q7, q8, q9, q10, q11, q12, q13, q14, q15, q16, q17, q18, q19, q20, q21, q22, q23, q24, q25, q26, q27, q28, q29, q30, q31, q32, q33, q34, q35, q36, q37, q38, q39, q40, q41, q42] at ha
  refine methCall (φ := φ) (sc := sc) (ns := ns) hb hl TrEs.nil (by decide) fun pl => one sa ta ec st ha fun x Λ v α₁ T₁ h₁ tk₁ p₁ t₁ st₁ hv ec₁ ha₁ => ?_
  unfold vBits at ha₁
  split at ha₁
  · rename_i i
    replace hv := hv.to_dat; cases hv with
    | dat hv =>
      replace hv := DatIn'.inv hv; cases hv
      exact getMethod_int_bit_length (callWith_method0 (call_int_bit_length (ha₁.int st₁ _ _)))
  · exact ha₁.elim

end
end Mine

end
section
set_option maxRecDepth 100000
set_option autoImplicit false
open PySem PySem.W PySem.Calls PyProof.Rows PyProof.V PySem.Spec
namespace Mine
section
variable {φ : Fix} {tb : Tabs} {n : Nat} {cl : Nat → List V → Hp → Rs V}

theorem snd_isStr {sc : Scope} {ns : List Str} {p q r : Pos} {x y : Str} {pa : Expr} {a : E} (sa : SoundE φ tb n cl sc ns pa a) (g : BiIs φ sc x (.builtin "isinstance")) (g' : BiIs φ sc y (.type "str")) (ta : TrE φ sc ns pa a) : SoundE φ tb n cl sc ns (.Call (.Name x q) [pa, .Name y r] [] p) (.isStr a) := by
  intro c env mf m ρ α T Λ s Q X _ ec st ha
  simp only [q0, q1, q2, q3, q4, q5, q6, q7, q8, q9, q10, q11, q12, q13, q14, q15, q16, q17, q18, q19, q20, q21, q22, q23, q24, q25, q26, q27, q28, q29, q30, q31, q32, q33, q34, q35, q36, q37, q38, q39, q40, q41, q42] at ha
  refine PyProof.Rows.Call_Name2 (ec.builtin st g (Calls.callWith_builtin rfl (evalArgs_plain (spliced_cons ?_)))) (by rw [tr_star ta]; rfl)
  refine one sa ta ec st ha fun x Λ v α₁ T₁ h₁ tk₁ p₁ t₁ st₁ hv ec₁ ha₁ => spliced_cons (ec₁.builtin st₁ g' (spliced_nil ?_))
  obtain ⟨M, S⟩ := id st₁
  unfold vIsStr at ha₁
  split at ha₁
  · replace hv := hv.to_dat; cases hv with
    | dat hv => cases hv; exact PySem.IsiPair.str_str (ha₁.bool st₁ tk₁)
  · replace hv := hv.to_dat; cases hv with
    | dat hv =>
      cases hv with
      | tuple hm hd => exact PySem.IsiPair.tuple_str (S.getT hm) rfl (ha₁.bool st₁ _)
  · exact ha₁.elim

theorem snd_isBool {sc : Scope} {ns : List Str} {p q r : Pos} {x y : Str} {pa : Expr} {a : E} (sa : SoundE φ tb n cl sc ns pa a) (g : BiIs φ sc x (.builtin "isinstance")) (g' : BiIs φ sc y (.type "bool")) (ta : TrE φ sc ns pa a) : SoundE φ tb n cl sc ns (.Call (.Name x q) [pa, .Name y r] [] p) (.isBool a) := by
  intro c env mf m ρ α T Λ s Q X _ ec st ha
  simp only [q0, q1, q2, q3, q4, q5, q6, q7, q8, q9, q10, q11, q12, q13, q14, q15, q16, q17, q18, q19, q20, q21, q22, q23, q24, q25, q26, q27, q28, q29, q30, q31, q32, q33, q34, q35, q36, q37, q38, q39, q40, q41, q42] at ha
  refine PyProof.Rows.Call_Name2 (ec.builtin st g (Calls.callWith_builtin rfl (evalArgs_plain (spliced_cons ?_)))) (by rw [tr_star ta]; rfl)
  refine one sa ta ec st ha fun x Λ v α₁ T₁ h₁ tk₁ p₁ t₁ st₁ hv ec₁ ha₁ => spliced_cons (ec₁.builtin st₁ g' (spliced_nil ?_))
  obtain ⟨M, S⟩ := id st₁
  unfold vIsBool at ha₁
  split at ha₁
  · replace hv := hv.to_dat; cases hv with
    | dat hv => cases hv; exact PySem.IsiPair.int_bool (ha₁.bool st₁ _)
  · replace hv := hv.to_dat; cases hv with
    | dat hv =>
      cases hv with
      | tuple hm hd => exact PySem.IsiPair.tuple_bool (S.getT hm) rfl (ha₁.bool st₁ _)
  · exact ha₁.elim

/-- a thing that stays is made -/
theorem Made.tuple {c : Ctx} {mf : Str → Option Value} {α : List (List Addr)} {T : Led} {Λ : Hp} {s : Shared} {vs : List Value} {l : List Dat} {Q X : Value → Shared → Prop} (st : St φ c α T Λ mf s.heap) (hd : DatAll T vs l)
    (ha : After φ c α T mf s Q X (.ok (.dat (.tuple l)) Λ)) (tk : Nat) : Q (.ref s.heap.objs.size) { s with heap := s.heap.push { cls := .type "tuple", data := .seq vs.toArray }, toks := tk } := by
  obtain ⟨M, S⟩ := st
  exact ha _ α _ _ _ (.refl _) (.cons _ _) ⟨M, S.push { cls := .type "tuple", data := .seq vs.toArray }⟩ (.dat (.tuple (.head _) (hd.mono (Sub.cons _ _))))

theorem snd_tupOf {sc : Scope} {ns : List Str} {p q : Pos} {x : Str} {pa : Expr} {a : E} (sa : SoundE φ tb n cl sc ns pa a) (g : BiIs φ sc x (.type "tuple")) (ta : TrE φ sc ns pa a) : SoundE φ tb n cl sc ns (.Call (.Name x q) [pa] [] p) (.tupOf a) := by
  intro c env mf m ρ α T Λ s Q X _ ec st ha
  simp only [q0, q1, q2, q3, q4, q5, q6, q7, q8, q9, q10, q11, q12, q13, q14, q15, q16, q17, q18, q19, q20, q21, q22, q23, q24, q25, q26, q27, q28, q29, q30, q31, q32, q33, q34, q35, q36, q37, q38, q39, q40, q41, q42] at ha
  refine call_ty sa g ta ec st ha fun x Λ v α₁ T₁ h₁ tk₁ p₁ t₁ st₁ hv ec₁ ha₁ => ?_
  obtain ⟨M, S⟩ := id st₁
  unfold vTupOf at ha₁
  split at ha₁
  · replace hv := hv.to_dat; cases hv with
    | dat hv =>
      cases hv with
      | @tuple a vs k _ hm hd => exact call_tuple_tup (tup_at (T := T₁) (S.getT hm)) (ha₁ _ α₁ T₁ h₁ tk₁ (.refl _) (.refl _) st₁ (.dat (.tuple hm hd)))
  · split at ha₁
    · split at ha₁
      · rename_i l hl hlen
        replace hv := hv.to_ref; cases hv with
        | ref hr =>
          cases (S.at hr hl).to_dl with
          | @dl a vs k _ hm hd =>
            have hlv := hd.length
            refine call_tuple_list ⟨_, S.getM hm, rfl, _, rfl⟩ (fun h' hk => ?_) (by rw [List.size_toArray, sizeLine_eq]; omega)
            have S' : StM φ c α₁ T₁ M Λ mf h' := ⟨S.fr.keeps hk, fun p hp => ⟨hk _ _ (S.nw p hp).1, (S.nw p hp).2⟩, S.adr, S.cells, S.len, S.nd, S.ap⟩
            exact Made.tuple (s := { s with heap := h', toks := tk₁ }) ⟨M, S'⟩ hd (ha₁.grow (h' := h') (tk := tk₁) (.refl _) (.refl _)) tk₁
      · exact ha₁.elim
    · exact ha₁.elim
  · exact ha₁.elim

theorem sub_plain {i : Expr} (h : plainIx i = true) (o k : Value) : subscripted i false o k = operate [o, k] (getItem o k) := by
  cases i <;> first | rfl | cases h
theorem seqIx {i : Int} {len k : Nat} (h : natIx i = some k) (hk : k < len) : seqIndex? i len = some k ∧ 0 ≤ i ∧ i < 1000000 ∧ i.toNat = k := by
  unfold natIx at h
  split at h
  · rename_i hi
    cases h
    refine ⟨?_, hi.1, hi.2, rfl⟩
    unfold seqIndex?
    have : ¬ i < 0 := by omega
    simp only [this, if_false]
    rw [if_pos]
    simp
    omega
  · cases h
theorem strs_get : ∀ {vs : List Value} {l : List Str} {k : Nat} {x : Str}, StrsAre vs l → l[k]? = some x → ∃ t, vs[k]? = some (.str x t)
  | _, _, _, _, .nil, h => by simp at h
  | _, _, 0, _, .cons y t r, h => by simp at h; subst h; exact ⟨t, rfl⟩
  | _, _, k + 1, _, .cons y t r, h => by
    obtain ⟨u, hu⟩ := strs_get (k := k) r (by simpa using h)
    exact ⟨u, by simpa using hu⟩
theorem item_of {c : Ctx} {mf : Str → Option Value} {α : List (List Addr)} {T : Led} {Λ : Hp} {s : Shared} {v w : Value} {x y r : V} {pa pi : Expr} {Q X : Value → Shared → Prop} {A : Around} (KI : φ.K.In s.heap) (st : St φ c α T Λ mf s.heap) (hv : VIn φ α T v x) (hw : VIn φ α T w y) (hr : vIdx Λ x y = some r) (hp : plainIx pi = true)
    (k : ∀ u, VIn φ α T u r → Q u s) : wpAny (model φ.prog φ.w) A (subscriptTail pa pi v w) Q X s := by
  obtain ⟨M, S⟩ := id st
  unfold vIdx at hr
  split at hr
  · rename_i l i
    replace hw := hw.to_dat; cases hw with
    | dat hw =>
      cases hw with
      | int _ tk =>
        replace hv := hv.to_dat; cases hv with
        | dat hv =>
          cases hv with
          | @tuple a vs q _ hm hd =>
            cases hi : natIx i with
            | none => rw [hi] at hr; cases hr
            | some j =>
              rw [hi] at hr
              obtain ⟨d, hd', rfl⟩ := Option.map_eq_some_iff.mp hr
              obtain ⟨u, hu, hdu⟩ := DatAll.get' hd hd'
              have hlt : j < vs.length := (List.getElem?_eq_some_iff.mp hu).1
              obtain ⟨q1, q2, q3, q4⟩ := seqIx hi hlt
              exact item_tupleT (tup_at (T := T) (S.getT hm)) (by omega) (by omega) q1 hu (k u (.dat hdu)) (sub_plain hp _ _)
  · rename_i nn i
    replace hw := hw.to_dat; cases hw with
    | dat hw =>
      cases hw with
      | int _ tk =>
        replace hv := hv.to_ref; cases hv with
        | ref hr' =>
          cases hi : natIx i with
          | none => rw [hi] at hr; cases hr
          | some j =>
            rw [hi] at hr
            dsimp only [Option.bind_some] at hr
            split at hr
            · rename_i l hl
              obtain ⟨d, hd', rfl⟩ := Option.map_eq_some_iff.mp hr
              cases (S.at hr' hl).to_dl with
              | @dl a vs q _ hm hd =>
                obtain ⟨u, hu, hdu⟩ := DatAll.get' hd hd'
                have hlt : j < vs.length := (List.getElem?_eq_some_iff.mp hu).1
                obtain ⟨q1, q2, q3, q4⟩ := seqIx hi hlt
                have L : s.heap.IsList _ vs.toArray := ⟨_, S.getM hm, rfl, _, rfl⟩
                exact tail_any L.typeIs slot_list_getitem.lookup (wpAny_getItem_list L q2 (by omega) (by rw [q4]; simpa using hu) (k u (.dat hdu))) (sub_plain hp _ _)
            · rename_i l hl
              cases (S.at hr' hl).to_vl with
              | @vl a vs q _ hm hd =>
                obtain ⟨u, hu, hdu⟩ := hd.get hr
                have hlt : j < vs.length := (List.getElem?_eq_some_iff.mp hu).1
                obtain ⟨q1, q2, q3, q4⟩ := seqIx hi hlt
                have L : s.heap.IsList _ vs.toArray := ⟨_, S.getM hm, rfl, _, rfl⟩
                exact tail_any L.typeIs slot_list_getitem.lookup (wpAny_getItem_list L q2 (by omega) (by rw [q4]; simpa using hu) (k u hdu)) (sub_plain hp _ _)
            · cases hr
  · rename_i l i
    replace hw := hw.to_dat; cases hw with
    | dat hw =>
      cases hw with
      | int _ tk =>
        cases hi : natIx i with
        | none => rw [hi] at hr; cases hr
        | some j =>
          rw [hi] at hr
          obtain ⟨d, hd', rfl⟩ := Option.map_eq_some_iff.mp hr
          cases hv with
          | strsL ho hs =>
            obtain ⟨t, hu⟩ := strs_get hs hd'
            obtain ⟨q1, q2, q3, q4⟩ := seqIx hi (List.getElem?_eq_some_iff.mp hu).1
            have L := lstK KI ho
            exact tail_any L.typeIs slot_list_getitem.lookup (wpAny_getItem_list L q2 (by omega) (by rw [q4]; simpa using hu) (k _ (.dat (.str _ _)))) (sub_plain hp _ _)
          | strsT ho hs =>
            obtain ⟨t, hu⟩ := strs_get hs hd'
            obtain ⟨q1, q2, q3, q4⟩ := seqIx hi (List.getElem?_eq_some_iff.mp hu).1
            exact item_tupleT (tupK KI ho) (by omega) (by omega) q1 hu (k _ (.dat (.str _ _))) (sub_plain hp _ _)
  · cases hr
theorem snd_idx {sc : Scope} {ns : List Str} {p : Pos} {pa pi : Expr} {a i : E} (sa : SoundE φ tb n cl sc ns pa a) (si : SoundE φ tb n cl sc ns pi i) (hp : plainIx pi = true) (ta : TrE φ sc ns pa a) (ti : TrE φ sc ns pi i) : SoundE φ tb n cl sc ns (.Subscript pa pi p) (.idx a i) := by
  intro c env mf m ρ α T Λ s Q X _ ec st ha
  simp only [q0, q1, q2, q3, q4, q5, q6, q7, q8, q9, q10, q11, q12, q13, q14, q15, q16, q17, q18, q19, q20, q21, q22, q23, q24, q25, q26, q27, q28, q29, q30, q31, q32, q33, q34, q35, q36, q37, q38, q39, q40, q41, q42] at ha
  refine PyProof.Rows.Subscript_ (two sa si ta ti ec st ha fun x y Λ v w α₁ T₁ h₁ tk₁ p₁ t₁ st₁ hv hw ec₁ ha₁ => ?_)
  cases hr : vIdx Λ x y with
  | none => rw [hr] at ha₁; exact ha₁.elim
  | some r =>
    rw [hr] at ha₁
    exact item_of (by obtain ⟨M, S⟩ := st₁; exact ec₁.ok.inK.keeps S.fr.keep) st₁ hv hw hr hp fun u hu => ha₁ u α₁ T₁ h₁ tk₁ (.refl _) (.refl _) st₁ hu

theorem VIn.handed {α : List (List Addr)} {T : Led} {v : Value} {x : V} (h : VIn φ α T v x) : handedIn v = true := by
  cases h with
  | dat h => exact h.handed
  | _ => rfl
theorem attName_inj : ∀ {i j : Nat}, i < 4 → j < 4 → (attName i == attName j) = decide (i = j) := by
  intro i j hi hj
  match i, hi, j, hj with
  | 0, _, 0, _ => decide
  | 0, _, 1, _ => decide
  | 0, _, 2, _ => decide
  | 0, _, 3, _ => decide
  | 1, _, 0, _ => decide
  | 1, _, 1, _ => decide
  | 1, _, 2, _ => decide
  | 1, _, 3, _ => decide
  | 2, _, 0, _ => decide
  | 2, _, 1, _ => decide
  | 2, _, 2, _ => decide
  | 2, _, 3, _ => decide
  | 3, _, 0, _ => decide
  | 3, _, 1, _ => decide
  | 3, _, 2, _ => decide
  | 3, _, 3, _ => decide
theorem Atts.find {α : List (List Addr)} {T : Led} {k : Nat} {es : List DictEntry} {l : List V} (h : Atts φ α T k es l) {j : Nat} {x : V} (hk : k + l.length ≤ 4) (hj : l[j]? = some x) : ∃ v, getL (attName (k + j)) es = some (some v) ∧ VIn φ α T v x := by
  induction h generalizing j with
  | nil => simp at hj
  | @cons k t v x' es xs hv r ih =>
    simp only [List.length_cons] at hk
    have hlt : j < (x' :: xs).length := (List.getElem?_eq_some_iff.mp hj).1
    simp only [List.length_cons] at hlt
    cases j with
    | zero =>
      simp at hj
      subst hj
      refine ⟨v, ?_, hv⟩
      unfold getL
      rw [List.find?_cons]
      have : (Value.str (attName k) t).isStr (attName (k + 0)) = true := by simp [Value.isStr]
      simp only [this]
    | succ j =>
      obtain ⟨u, hu, hx⟩ := ih (j := j) (by omega) (by simpa using hj)
      refine ⟨u, ?_, hx⟩
      unfold getL at hu ⊢
      rw [List.find?_cons]
      have e : (Value.str (attName k) t).isStr (attName (k + (j + 1))) = false := by
        simp only [Value.isStr]
        rw [attName_inj (by omega) (by omega)]
        simp
      simp only [e]
      have e2 : k + (j + 1) = k + 1 + j := by omega
      rw [e2]
      have er : (⟨PyData.keyHash φ.w.params (attName k), .str (attName k) t, v⟩ : DictEntry).refKey = false := rfl
      rw [List.any_cons, er, Bool.false_or]
      exact hu
theorem snd_attr {sc : Scope} {ns : List Str} {p : Pos} {pa : Expr} {a : E} {name : Str} {x : Att} (sa : SoundE φ tb n cl sc ns pa a) (hx : AttIs φ name x) (hb : plainBase pa = true) (ta : TrE φ sc ns pa a) : SoundE φ tb n cl sc ns (.Attribute pa name p) (.attr a x) := by
  intro c env mf m ρ α T Λ s Q X _ ec st ha
  simp only [q0, q1, q2, q3, q4, q5, q6, q7, q8, q9, q10, q11, q12, q13, q14, q15, q16, q17, q18, q19, q20, q21, q22, q23, q24, q25, q26, q27, q28, q29, q30, q31, q32, q33, q34, q35, q36, q37, q38, q39, q40, q41, q42] at ha
  refine PyProof.Rows.Attribute_any_ (one sa ta ec st ha fun z Λ v α₁ T₁ h₁ tk₁ p₁ t₁ st₁ hv ec₁ ha₁ => ?_) ?_
  · obtain ⟨M, S⟩ := id st₁
    unfold vAttr at ha₁
    split at ha₁
    · rename_i nn
      split at ha₁
      · rename_i l hl
        replace hv := hv.to_ref; cases hv with
        | ref hr =>
          cases (S.at hr hl).to_inst with
          | @inst xx dx es k _ h1 h2 h4 h3 =>
            cases hj : l[x.ix]? with
            | none => rw [hj] at ha₁; exact ha₁.elim
            | some y =>
              rw [hj] at ha₁
              obtain ⟨u, hu, hy⟩ := h3.find (by omega) hj
              rw [Nat.zero_add, ← hx.nm] at hu
              exact get_own S.fr ec₁.ok.inK ⟨S.getM h1, rfl, rfl, S.getM h2⟩ hx.get hx.dict hx.no rfl hu hy.handed (ha₁ u α₁ T₁ h₁ _ (.refl _) (.refl _) st₁ hy)
      · exact ha₁.elim
    · exact ha₁.elim
  · show (do
      let o ← attributeBase pa name env (eval pa env)
      standAt p.atName
      let r ← holding [o] (getAttr o name true)
      letTemporaryGo pa o r
      pure r) = _
    rw [attributeBase_plain hb]

theorem sndL_nil {sc : Scope} {ns : List Str} : SoundL φ tb n cl sc ns [] .nil := by
  intro c env mf m ρ α T Λ s pos Q X h ec st ha
  exact spliced_nil (ha _ α T s.heap s.toks (.refl _) (.refl _) st .nil)
theorem sndL_cons {pe : Expr} {as : List Expr} {e : E} {es : Es} {sc : Scope} {ns : List Str} (se : SoundE φ tb n cl sc ns pe e) (ss : SoundL φ tb n cl sc ns as es) : SoundL φ tb n cl sc ns (pe :: as) (.cons e es) := by
  intro c env mf m ρ α T Λ s pos Q X h ec st ha
  obtain ⟨te, ts⟩ := TrEs.uncons h
  · rw [tr_star te, backTo_cons]
    simp only [qs0, qs1] at ha
    refine spliced_cons (se te ec st ?_)
    cases hr : evE tb cl ρ e Λ with
    | ok x Λ₁ =>
      rw [hr] at ha
      intro v α₁ T₁ h₁ tk₁ p₁ t₁ st₁ hv
      refine ss ts (ec.mono p₁ t₁) st₁ ?_
      rw [Rs.bind_ok] at ha
      cases hr2 : evEs tb cl ρ es Λ₁ with
      | ok xs Λ₂ =>
        rw [hr2] at ha
        intro vs α₂ T₂ h₂ tk₂ p₂ t₂ st₂ hvs
        exact ha (v :: vs) α₂ T₂ h₂ tk₂ (p₁.trans p₂) (t₁.trans t₂) st₂ (.cons (hv.mono p₂ t₂) hvs)
      | err d => rw [hr2] at ha; exact fun e h₂ tk₂ F => ha e h₂ tk₂ (F.weak t₁)
      | bad => rw [hr2] at ha; exact ha.elim
    | err d => rw [hr] at ha; exact ha
    | bad => rw [hr] at ha; exact ha.elim

/-- the items, then the rest -/
theorem AfterL.first {c : Ctx} {mf : Str → Option Value} {α : List (List Addr)} {T : Led} {s : Shared} {Q X : Value → Shared → Prop} {r : Rs (List V)} {f : List V → Hp → Rs V} (h : After φ c α T mf s Q X (r.bind f)) {Q' : List Value → Shared → Prop}
    (k : ∀ Vs Λ vs α' T' h' tk, r = .ok Vs Λ → Pre α α' → Sub T T' → St φ c α' T' Λ mf h' → VAll φ α' T' vs Vs → After φ c α' T' mf { s with heap := h', toks := tk } Q X (f Vs Λ) → Q' vs { s with heap := h', toks := tk }) : AfterL φ c α T mf s Q' X r := by
  cases r with
  | ok V Λ => exact fun v α' T' h' tk p t S hv => k V Λ v α' T' h' tk rfl p t S hv (After.grow (r := f V Λ) h p t)
  | err d => exact h
  | bad => exact h

theorem snd_tuple {sc : Scope} {ns : List Str} {p : Pos} {k : Nat} {as : List Expr} {es : Es} (ss : SoundL φ tb n cl sc ns as es) (ts : TrEs φ sc ns as es) : SoundE φ tb n cl sc ns (.Tuple as k p) (.tuple es) := by
  intro c env mf m ρ α T Λ s Q X _ ec st ha
  simp only [q0, q1, q2, q3, q4, q5, q6, q7, q8, q9, q10, q11, q12, q13, q14, q15, q16, q17, q18, q19, q20, q21, q22, q23, q24, q25, q26, q27, q28, q29, q30, q31, q32, q33, q34, q35, q36, q37, q38, q39, q40, q41, q42] at ha
  refine PyProof.Rows.Tuple_ (ss ts ec st (AfterL.first ha fun Vs Λ vs α₁ T₁ h₁ tk₁ _ p₁ t₁ st₁ hvs ha₁ => ?_))
  unfold vTuple at ha₁
  split at ha₁
  · rename_i hlen
    cases hd : dats Vs with
    | none => rw [hd] at ha₁; exact ha₁.elim
    | some l =>
      rw [hd] at ha₁
      have hlv := hvs.length
      exact wpAny_newObj_type (Made.tuple st₁ (hvs.of_dat hd) ha₁ _) (by show vs.toArray.size ≤ sizeLine; rw [List.size_toArray, sizeLine_eq]; omega)
  · exact ha₁.elim

theorem VAll.of_none {α : List (List Addr)} {T : Led} {vs : List Value} {xs : List V} (h : VAll φ α T vs xs) : True := trivial

/-- a new cell of one object -/
theorem Made.cell {c : Ctx} {mf : Str → Option Value} {α : List (List Addr)} {T : Led} {Λ : Hp} {s : Shared} {o : Obj} {cell : Cell} {Q X : Value → Shared → Prop} (st : St φ c α T Λ mf s.heap) (hf : o.isFreed = false)
    (hc : CellIn φ (α ++ [[s.heap.objs.size]]) T [(s.heap.objs.size, o)] [s.heap.objs.size] cell)
    (ha : After φ c α T mf s Q X (alloc cell Λ)) (tk : Nat) : Q (.ref s.heap.objs.size) { s with heap := s.heap.push o, toks := tk } := by
  obtain ⟨M, S⟩ := st
  have e : alloc cell Λ = .ok (.ref Λ.length) (Λ ++ [cell]) := rfl
  rw [e] at ha
  refine ha _ (α ++ [[s.heap.objs.size]]) T _ _ ⟨_, rfl⟩ (.refl _) ⟨M ++ [(s.heap.objs.size, o)], S.cell (R := [(s.heap.objs.size, o)]) (S.fr.push o) (S.nw.push S.fr o hf) rfl (by simp) ?_ hc⟩ (.ref (r := []) ?_)
  · intro a ha'
    rw [List.mem_singleton.mp ha']
    refine ⟨S.fresh (Nat.le_refl _), fun p hp q => ?_⟩
    exact absurd (Heap.lt_size (S.getT hp)) (by rw [q]; exact Nat.lt_irrefl _)
  · rw [← S.len, List.getElem?_append_right (Nat.le_refl _)]
    simp
theorem snd_list {sc : Scope} {ns : List Str} {p : Pos} {as : List Expr} {es : Es} (ss : SoundL φ tb n cl sc ns as es) (ts : TrEs φ sc ns as es) : SoundE φ tb n cl sc ns (.List as p) (.list es) := by
  intro c env mf m ρ α T Λ s Q X _ ec st ha
  simp only [q0, q1, q2, q3, q4, q5, q6, q7, q8, q9, q10, q11, q12, q13, q14, q15, q16, q17, q18, q19, q20, q21, q22, q23, q24, q25, q26, q27, q28, q29, q30, q31, q32, q33, q34, q35, q36, q37, q38, q39, q40, q41, q42] at ha
  refine PyProof.Rows.List_ (ss ts ec st (AfterL.first ha fun Vs Λ vs α₁ T₁ h₁ tk₁ _ p₁ t₁ st₁ hvs ha₁ => ?_))
  unfold vList at ha₁
  have hlv := hvs.length
  split at ha₁
  · rename_i hlen
    have hz : ({ cls := .type "list", data := .seq vs.toArray } : Obj).isFreed = false := rfl
    cases hd : dats Vs with
    | none =>
      rw [hd] at ha₁
      exact wpAny_newObj_type (Made.cell st₁ hz (.vl (.head _) (hvs.mono ⟨_, rfl⟩ (.refl _))) ha₁ _) (by show vs.toArray.size ≤ sizeLine; rw [List.size_toArray, sizeLine_eq]; omega)
    | some l =>
      rw [hd] at ha₁
      exact wpAny_newObj_type (Made.cell st₁ hz (.dl (.head _) (hvs.of_dat hd)) ha₁ _) (by show vs.toArray.size ≤ sizeLine; rw [List.size_toArray, sizeLine_eq]; omega)
  · exact ha₁.elim

theorem snd_dict0 {sc : Scope} {ns : List Str} {p : Pos} : SoundE φ tb n cl sc ns (.Dict [] [] p) .dict0 := by
  intro c env mf m ρ α T Λ s Q X _ ec st ha
  simp only [q0, q1, q2, q3, q4, q5, q6, q7, q8, q9, q10, q11, q12, q13, q14, q15, q16, q17, q18, q19, q20, q21, q22, q23, q24, q25, q26, q27, q28, q29, q30, q31, q32, q33, q34, q35, q36, q37, q38, q39, q40, q41, q42] at ha
  obtain ⟨M, S⟩ := id st
  refine newDict_K S.fr S.nw (Top.nolimit ec.ok.top) fun d h' o F' N' hlt lo hd _ _ _ => ?_
  have e : alloc .ed Λ = .ok (.ref Λ.length) (Λ ++ [.ed]) := rfl
  rw [e] at ha
  have hnew : ∀ p ∈ M ++ T, p.1 ≠ d := fun p hp => Nat.ne_of_lt (hlt p hp)
  refine ha _ (α ++ [[d]]) T h' s.toks ⟨_, rfl⟩ (.refl _) ⟨M ++ [(d, o)], S.cell (R := [(d, o)]) F' N' rfl (by simp) ?_ (.ed (.head _) lo hd)⟩ (.ref (r := []) ?_)
  · intro a ha'
    rw [List.mem_singleton.mp ha']
    refine ⟨fun q => ?_, fun p hp => hnew p (List.mem_append_right _ hp)⟩
    rw [← S.adr] at q
    obtain ⟨p, hp, e⟩ := List.mem_map.mp q
    exact hnew p (List.mem_append_left _ hp) e
  · rw [← S.len, List.getElem?_append_right (Nat.le_refl _)]
    simp

end
end Mine

end
section
set_option maxRecDepth 100000
set_option autoImplicit false
open PySem PySem.W PySem.Calls PyProof.Rows PyProof.V PySem.Spec
namespace Mine
section
variable {φ : Fix} {tb : Tabs} {n : Nat} {cl : Nat → List V → Hp → Rs V}

theorem snd_append {sc : Scope} {ns : List Str} {p q : Pos} {po pa : Expr} {o a : E} (so : SoundE φ tb n cl sc ns po o) (sa : SoundE φ tb n cl sc ns pa a) (hb : plainBase po = true) (hl : oneLine q p = true) (to : TrE φ sc ns po o) (ta : TrE φ sc ns pa a) : SoundE φ tb n cl sc ns (.Call (.Attribute po "append" q) [pa] [] p) (.append o a) := by
  intro c env mf m ρ α T Λ s Q X _ ec st ha
  simp only [q0, q1, q2, q3, q4, q5, q6, q7, q8, q9, q10, q11, q12, q13, q14, q15, q16, q17, q18, q19, q20, q21, q22, q23, q24, q25, q26, q27, q28, q29, q30, q31, q32, q33, q34, q35, q36, q37, q38, q39, q40, q41, q42] at ha
  refine methCall hb hl (TrEs.cons ta TrEs.nil) (by simp) fun pl => one so to ec st ha fun x Λ v α₁ T₁ h₁ tk₁ p₁ t₁ st₁ hv ec₁ ha₁ => ?_
  unfold isL at ha₁
  split at ha₁
  · rename_i nn
    split at ha₁
    · rename_i l hl'
      rw [lift_some, Rs.bind_ok] at ha₁
      obtain ⟨M, S⟩ := id st₁
      replace hv := hv.to_ref; cases hv with
      | @ref _ ad r hr =>
        cases (S.at hr hl').to_dl with
        | dl hm hd =>
          refine getMethod_list_append (S.getM hm) rfl rfl ?_
          refine callWith_method1 ?_ (tr_star ta env []) rfl
          rw [tr_star ta, backTo_cons]
          refine spliced_cons (one sa ta ec₁ st₁ ha₁ fun y Λ₂ w α₂ T₂ h₂ tk₂ p₂ t₂ st₂ hw ec₂ ha₂ => spliced_nil ?_)
          obtain ⟨M₂, S₂⟩ := id st₂
          have hr₂ := p₂.get hr
          unfold vAppend at ha₂
          split at ha₂
          · rename_i n2 d heq
            cases heq
            split at ha₂
            · rename_i l2 hl2
              split at ha₂
              · rename_i hlen
                cases (S₂.at hr₂ hl2).to_dl with
                | @dl _ vs k _ hm₂ hd₂ =>
                  replace hw := hw.to_dat; cases hw with
                  | dat hw =>
                    have hlv := hd₂.length
                    refine wpAny_list_append_plain ⟨_, S₂.getM hm₂⟩ (fun h' hp hs => ?_) (by rw [List.size_toArray, sizeLine_eq]; omega)
                    obtain ⟨k', hk'⟩ := hp
                    have hN := S₂.nw _ (List.mem_append_left _ hm₂)
                    have e : vs.toArray.push w = (vs ++ [w]).toArray := by simp
                    rw [e] at hk'
                    exact ha₂ .none α₂ T₂ h' _ (.refl _) (.refl _) ⟨_, S₂.change (o' := listOf (vs ++ [w]).toArray k') hr₂ (.head _) hm₂ (S₂.fr.change hs hN.2.1 hN.2.2) (S₂.nw.replace hs hk') (.dl (swapAt_here hm₂) (hd₂.append (.one hw)))⟩ (.dat .none)
              · exact ha₂.elim
            · exact ha₂.elim
          · exact ha₂.elim
    · exact ha₁.elim
  · exact ha₁.elim

theorem snd_pop {sc : Scope} {ns : List Str} {p q : Pos} {po : Expr} {o : E} (so : SoundE φ tb n cl sc ns po o) (hb : plainBase po = true) (hl : oneLine q p = true) (to : TrE φ sc ns po o) : SoundE φ tb n cl sc ns (.Call (.Attribute po "pop" q) [] [] p) (.pop o) := by
  intro c env mf m ρ α T Λ s Q X _ ec st ha
  simp only [q0, q1, q2, q3, q4, q5, q6, q7, q8, q9, q10, q11, q12, q13, q14, q15, q16, q17, q18, q19, q20, q21, q22, q23, q24, q25, q26, q27, q28, q29, q30, q31, q32, q33, q34, q35, q36, q37, q38, q39, q40, q41, q42] at ha
  refine methCall (φ := φ) (sc := sc) (ns := ns) hb hl TrEs.nil (by decide) fun pl => one so to ec st ha fun x Λ v α₁ T₁ h₁ tk₁ p₁ t₁ st₁ hv ec₁ ha₁ => ?_
  obtain ⟨M, S⟩ := id st₁
  unfold vPop at ha₁
  split at ha₁
  · rename_i nn
    split at ha₁
    · rename_i l hl'
      split at ha₁
      · rename_i hlen
        replace hv := hv.to_ref; cases hv with
        | @ref _ ad r hr =>
          cases (S.at hr hl').to_dl with
          | @dl _ vs k _ hm hd =>
            refine getMethod_builtin ⟨_, S.getM hm, rfl⟩ PySem.F.plainAttrs_list PySem.F.slot_list_pop PySem.F.type_list_pop (fun a e => by cases e; exact ⟨_, S.getM hm, rfl⟩) ?_
            refine callWith_method0 ?_
            cases hlast : l.getLast? with
            | none => rw [hlast] at ha₁; exact ha₁.elim
            | some d =>
              rw [hlast] at ha₁
              have hne : vs ≠ [] := by
                intro e
                subst e
                cases hd
                simp at hlast
              have hvs : vs = vs.dropLast ++ [vs.getLast hne] := (List.dropLast_concat_getLast hne).symm
              have hd' := hd
              rw [hvs] at hd'
              obtain ⟨es, d', rfl, hes, hdd⟩ := hd'.snoc
              rw [List.getLast?_append] at hlast
              simp at hlast
              subst hlast
              have hN := S.nw _ (List.mem_append_left _ hm)
              have hlv := hd.length
              have hz : vs.toArray.size ≤ sizeLine := by rw [List.size_toArray, sizeLine_eq]; omega
              have hlt : 0 < vs.length := List.length_pos_iff.mpr hne
              have hy : vs.toArray[vs.toArray.size - 1]? = some (vs.getLast hne) := by
                simp [List.getLast_eq_getElem]
              have hsb : Heap.SameBut ad h₁ (h₁.update ad (Obj.mapSeq fun its => its.eraseIdxIfInBounds (vs.toArray.size - 1))) := Heap.SameBut.update ..
              refine call_meets PySem.F.slot_list_pop ⟨_, S.getM hm, rfl⟩ PySem.F.entry_list_pop (PySem.F.args_list_pop_1 _) (PySem.MeetsSeq.list_pop_last ad _ k _ hy hz) ⟨S.getM hm, ?_⟩
              have q := PySem.IsL.update (S.getM hm) fun its => its.eraseIdxIfInBounds (vs.toArray.size - 1)
              have e1 : vs.toArray.eraseIdxIfInBounds (vs.toArray.size - 1) = vs.dropLast.toArray := by
                have := kl_erase vs.dropLast [] (vs.getLast hne)
                rw [← hvs, List.append_nil] at this
                rw [← this]
                congr 1
                simp
              rw [e1] at q
              rw [List.dropLast_concat] at ha₁
              exact ha₁ _ α₁ T₁ _ _ (.refl _) (.refl _) ⟨_, S.change (o' := listOf vs.dropLast.toArray _) hr (.head _) hm (S.fr.change hsb hN.2.1 hN.2.2) (S.nw.replace hsb q) (.dl (swapAt_here hm) hes)⟩ (.dat hdd)
      · exact ha₁.elim
    · exact ha₁.elim
  · exact ha₁.elim

end
end Mine

end
section
set_option maxRecDepth 100000
set_option autoImplicit false
open PySem PySem.W PySem.Calls PyProof.Rows PyProof.V PySem.Spec
namespace Mine
theorem lookup_sdD (x : Str) (l : List (Str × Int)) : PySem.Spec.lookup (.str x) (sdD l) = (l.lookup x).map PyData.int := by
  induction l with
  | nil => rfl
  | cons p l ih =>
    obtain ⟨y, i⟩ := p
    show (if PySem.Spec.same (.str y) (.str x) then some (PyData.int i) else PySem.Spec.lookup (.str x) (sdD l)) = _
    rw [PyProof.V.same_str, List.lookup_cons, ih]
    by_cases h : y = x
    · subst h; simp
    · have : (x == y) = false := by simp [Ne.symm h]
      simp [h, this]
theorem same_enc (ks js : List Int) : PySem.Spec.same (encTuple PyData.int ks) (encTuple PyData.int js) = decide (ks = js) := same_encTuple PyProof.V.same_int ks js
theorem lookup_pdD (a b : Int) (l : List ((Int × Int) × Int)) : PySem.Spec.lookup (encTuple PyData.int [a, b]) (pdD l) = (l.lookup (a, b)).map PyData.int := by
  induction l with
  | nil => rfl
  | cons p l ih =>
    obtain ⟨⟨u, v⟩, i⟩ := p
    show (if PySem.Spec.same (encTuple PyData.int [u, v]) (encTuple PyData.int [a, b]) then some (PyData.int i) else PySem.Spec.lookup (encTuple PyData.int [a, b]) (pdD l)) = _
    rw [same_enc, List.lookup_cons, ih]
    by_cases h : (u, v) = (a, b)
    · cases h; simp
    · have e : ((a, b) == (u, v)) = false := beq_eq_false_iff_ne.mpr (Ne.symm h)
      have e2 : ¬ ([u, v] = [a, b]) := fun q => h (by simp at q; rw [q.1, q.2])
      rw [e]
      simp only [e2, decide_false, Bool.false_eq_true, if_false]
theorem flat_int {v : Value} {i : Int} (h : Flat v (.int i)) : ∃ t, v = .int i t := by
  have q := h ({} : Heap)
  cases q
  exact ⟨_, rfl⟩
theorem getD_map (o : Option Int) (i : Int) : (o.map PyData.int).getD (.int i) = .int (o.getD i) := by cases o <;> rfl

section
variable {φ : Fix} {tb : Tabs} {n : Nat} {cl : Nat → List V → Hp → Rs V}
theorem pair_key {prog : Program} {w : World} {T : Led} {v : Value} {a b : Int} (h : DatIn T v (.tuple [.int a, .int b])) : ∃ ad ok, v = .ref ad ∧ (ad, ok) ∈ T ∧ TupKeyObj (intKind prog w) [a, b] ok := by
  cases h with
  | tuple hm hd =>
    cases hd with
    | cons h1 r1 => cases r1 with
      | cons h2 r2 =>
        cases r2
        cases h1
        cases h2
        exact ⟨_, _, rfl, hm, rfl, _, _, rfl, .cons (intKind_is prog w _ _) (.cons (intKind_is prog w _ _) .nil)⟩
/-- a dict's cell, by its table -/
theorem sd_tab {α : List (List Addr)} {T M : Led} {c : Ctx} {Λ : Hp} {mf : Str → Option Value} {h : Heap} (S : StM φ c α T M Λ mf h) {d : Addr} {o : Obj} {kvs : List (Str × Value)} {D : List (PyData × PyData)} (hm : (d, o) ∈ M) (lo : (d == sysModules) = false) (hd : o.IsDictOf (strKind φ.prog φ.w) kvs) (hf : FlatPairs PyData.str kvs D) :
    StrTab φ.prog φ.w h d D := TabAt.ofNews S.nw (List.mem_append_left _ hm) lo hd hf
theorem pd_sub {T M : Led} {a : Addr} {o : Obj} {D : List (PyData × PyData)} (hm : (a, o) ∈ M) (h : TupTab (intKind φ.prog φ.w) PyData.int ((a, o) :: T) a D) : TupTab (intKind φ.prog φ.w) PyData.int (M ++ T) a D :=
  TupTab.sub h fun q hq => by
    rcases List.mem_cons.mp hq with rfl | hq
    · exact List.mem_append_left _ hm
    · exact List.mem_append_right _ hq

theorem snd_dget {sc : Scope} {ns : List Str} {p q r u : Pos} {k : Nat} {po pa : Expr} {o a : E} {i : Int} (so : SoundE φ tb n cl sc ns po o) (sa : SoundE φ tb n cl sc ns pa a) (hb : plainBase po = true) (hl : oneLine q p = true) (to : TrE φ sc ns po o) (ta : TrE φ sc ns pa a) : SoundE φ tb n cl sc ns (.Call (.Attribute po "get" q) [pa, .UnaryOp .USub (.Constant (.int i) k r) u] [] p) (.dget o a (-i)) := by
  intro c env mf m ρ α T Λ s Q X _ ec st ha
  simp only [q0, q1, q2, q3, q4, q5, q6, q7, q8, q9, q10, q11, q12, q13, q14, q15, q16, q17, q18, q19, q20, q21, q22, q23, q24, q25, q26, q27, q28, q29, q30, q31, q32, q33, q34, q35, q36, q37, q38, q39, q40, q41, q42] at ha
  have tn : TrE φ sc ns (.UnaryOp .USub (.Constant (.int i) k r) u) (.neg (.int i)) := rfl
  refine methCall hb hl (TrEs.cons ta (TrEs.cons tn TrEs.nil)) (by simp) fun pl => one so to ec st ha fun x Λ v α₁ T₁ h₁ tk₁ p₁ t₁ st₁ hv ec₁ ha₁ => ?_
  obtain ⟨M, S⟩ := id st₁
  unfold isD at ha₁
  split at ha₁
  · rename_i nn
    replace hv := hv.to_ref; cases hv with
    | @ref _ ad rr hr =>
      have meth : ∀ {Q' : Value × List Value → Shared → Prop}, After φ c α₁ T₁ mf { s with heap := h₁, toks := tk₁ } Q X ((evE tb cl ρ a Λ).bind fun y Λ => lift (vDget Λ (-i) (.ref nn) y) Λ) →
          Q' (.builtin "dict.get", [.ref ad]) { s with heap := h₁, toks := tk₁ } → wpAny (model φ.prog φ.w) c.A (getMethod (.ref ad) "get" pl) Q' X { s with heap := h₁, toks := tk₁ } := by
        intro Q' _ hq
        cases hl' : Λ[nn]? with
        | none => rw [hl'] at ha₁; exact ha₁.elim
        | some cell =>
          rw [hl'] at ha₁
          cases cell with
          | ed => cases (S.at hr hl').to_ed with
            | ed hm lo hd => exact getMethod_strTab_get (sd_tab S hm lo hd .nil) hq
          | sd l => cases (S.at hr hl').to_sd with
            | sd hm lo hd hf => exact getMethod_strTab_get (sd_tab S hm lo hd hf) hq
          | pd l => cases (S.at hr hl').to_pd with
            | pd hm ht => exact getMethod_tupTab_get S.nw (pd_sub hm ht) hq
          | dl l => exact ha₁.elim
          | vl l => exact ha₁.elim
          | inst l => exact ha₁.elim
      have hb' : After φ c α₁ T₁ mf { s with heap := h₁, toks := tk₁ } Q X ((evE tb cl ρ a Λ).bind fun y Λ => lift (vDget Λ (-i) (.ref nn) y) Λ) := by
        cases hl' : Λ[nn]? with
        | none => rw [hl'] at ha₁; exact ha₁.elim
        | some cell =>
          rw [hl'] at ha₁
          cases cell <;> first | exact ha₁ | exact ha₁.elim
      refine meth hb' (callWith_method1 ?_ (tr_star ta env _) (plainTo p env (TrEs.cons tn TrEs.nil)))
      rw [tr_star ta, backTo_cons]
      refine spliced_cons (one sa ta ec₁ st₁ hb' fun y Λ₂ w α₂ T₂ h₂ tk₂ p₂ t₂ st₂ hw ec₂ ha₂ => ?_)
      rw [tr_star tn, backTo_cons]
      have hn : evE tb cl ρ (.neg (.int i)) Λ₂ = .ok (.dat (.int (-i))) Λ₂ := rfl
      have sn : SoundE φ tb n cl sc ns (.UnaryOp .USub (.Constant (.int i) k r) u) (.neg (.int i)) := snd_neg snd_int rfl
      refine spliced_cons (sn tn ec₂ st₂ ?_)
      rw [hn]
      intro z α₃ T₃ h₃ tk₃ p₃ t₃ st₃ hz
      replace hz := hz.to_dat; cases hz with
      | dat hz =>
        cases hz with
        | int _ tz =>
          refine spliced_nil ?_
          obtain ⟨M₃, S₃⟩ := id st₃
          have hr₃ := p₃.get (p₂.get hr)
          have hw₃ := hw.mono p₃ t₃
          have ha₃ := ha₂.grow (h' := h₃) (tk := tk₃) p₃ t₃
          unfold vDget at ha₃
          split at ha₃
          · rename_i n2 x' heq
            cases heq
            replace hw₃ := hw₃.to_dat; cases hw₃ with
            | dat hw₃ =>
              cases hw₃ with
              | str _ tx =>
                split at ha₃
                · rename_i hl'
                  cases (S₃.at hr₃ hl').to_ed with
                  | ed hm lo hd =>
                    refine call_get2_strTab (sd_tab S₃ hm lo hd .nil) (Flat.int _ _) fun v hv => ?_
                    obtain ⟨t, rfl⟩ := flat_int hv
                    exact ha₃.int st₃ _ _
                · rename_i l hl'
                  cases (S₃.at hr₃ hl').to_sd with
                  | sd hm lo hd hf =>
                    refine call_get2_strTab (sd_tab S₃ hm lo hd hf) (Flat.int _ _) fun v hv => ?_
                    rw [lookup_sdD, getD_map] at hv
                    obtain ⟨t, rfl⟩ := flat_int hv
                    exact ha₃.int st₃ _ _
                · exact ha₃.elim
          · rename_i n2 a' b' heq
            cases heq
            replace hw₃ := hw₃.to_dat; cases hw₃ with
            | dat hw₃ =>
              obtain ⟨ak, ok, rfl, hk, tk'⟩ := pair_key (prog := φ.prog) (w := φ.w) hw₃
              have hu : c.A.units + 1 < cLine := by have := ec₂.unit; show c.un + 1 < cLine; omega
              split at ha₃
              · rename_i hl'
                cases (S₃.at hr₃ hl').to_ed with
                | ed hm lo hd =>
                  refine call_get2_tupTab PyProof.V.same_int hu S₃.nw (TupTab.ofEmpty (knd := intKind φ.prog φ.w) (enc := PyData.int) (List.mem_append_left _ hm) lo hd) (List.mem_append_right _ hk) tk' (Flat.int _ _) fun v hv => ?_
                  obtain ⟨t, rfl⟩ := flat_int hv
                  exact ha₃.int st₃ _ _
              · rename_i l hl'
                cases (S₃.at hr₃ hl').to_pd with
                | pd hm ht =>
                  refine call_get2_tupTab PyProof.V.same_int hu S₃.nw (pd_sub hm ht) (List.mem_append_right _ hk) tk' (Flat.int _ _) fun v hv => ?_
                  rw [lookup_pdD, getD_map] at hv
                  obtain ⟨t, rfl⟩ := flat_int hv
                  exact ha₃.int st₃ _ _
              · exact ha₃.elim
          · exact ha₃.elim
  · exact ha₁.elim

end
end Mine

end
section
set_option maxRecDepth 100000
set_option autoImplicit false
open PySem PySem.W PySem.Calls PyProof.Rows PyProof.V PySem.Spec
namespace Mine
section
variable {φ : Fix} {tb : Tabs} {n : Nat} {cl : Nat → List V → Hp → Rs V}

theorem constI {M : Model} {A : Around} {env : PySem.Env} {s : Shared} {i : Int} {k : Nat} {p : Pos} {Q X : Value → Shared → Prop} (h : Q (.int i s.toks) { s with toks := s.toks + 1 }) : wpAny M A (eval (.Constant (.int i) k p) env) Q X s := fun _ _ _ => h
theorem ints_spliced {prog : Program} {w : World} {A : Around} {env : PySem.Env} {pos : Pos} {as : List Expr} {l : List Int} (h : ConstInts as l) : ∀ {s : Shared} {Q : List Value → Shared → Prop} {X : Value → Shared → Prop}, (∀ us tk, IntsAre us l → Q us { s with toks := tk }) →
    wpAny (model prog w) A (spliced (backTo pos (starEach as env))) Q X s := by
  induction h with
  | nil => intro s Q X k; exact spliced_nil (k _ s.toks .nil)
  | @pos kk p i es l _ ih =>
    intro s Q X k
    show wpAny _ _ (spliced ((false, eval (.Constant (.int i) kk p) env) :: backTo pos (starEach es env))) _ _ _
    exact spliced_cons (constI (ih fun us tk hu => k _ tk (.cons i _ hu)))
  | @neg kk p q i es l _ ih =>
    intro s Q X k
    show wpAny _ _ (spliced ((false, eval (.UnaryOp .USub (.Constant (.int i) kk p) q) env) :: backTo pos (starEach es env))) _ _ _
    exact spliced_cons (PySem.wpAny_UnaryOp (constI (PyProof.Rows.neg_int (ih fun us tk hu => k _ tk (.cons (-i) _ hu)))))
theorem strs_spliced {prog : Program} {w : World} {A : Around} {env : PySem.Env} {pos : Pos} {as : List Expr} {l : List Str} (h : ConstStrs as l) : ∀ {s : Shared} {Q : List Value → Shared → Prop} {X : Value → Shared → Prop}, (∀ us tk, StrsAre us l → Q us { s with toks := tk }) →
    wpAny (model prog w) A (spliced (backTo pos (starEach as env))) Q X s := by
  induction h with
  | nil => intro s Q X k; exact spliced_nil (k _ s.toks .nil)
  | @cons kk p x es l _ ih =>
    intro s Q X k
    show wpAny _ _ (spliced ((false, eval (.Constant (.str x) kk p) env) :: backTo pos (starEach es env))) _ _ _
    exact spliced_cons (Constant_str (ih fun us tk hu => k _ tk (.cons x _ hu)))
theorem StrsAre.len {vs : List Value} {l : List Str} (h : StrsAre vs l) : vs.length = l.length := by
  induction h with
  | nil => rfl
  | cons _ _ _ ih => simp [ih]
theorem ConstInts.len {as : List Expr} {l : List Int} (h : ConstInts as l) : as.length = l.length := by
  induction h with
  | nil => rfl
  | pos _ ih => simp [ih]
  | neg _ ih => simp [ih]
theorem any_beq_int (l : List Int) (i : Int) : l.any (· == i) = l.contains i := by
  induction l with
  | nil => rfl
  | cons a l ih => rw [List.any_cons, List.contains_cons, ih, Bool.beq_comm]
theorem any_beq_str (l : List Str) (i : Str) : l.any (· == i) = l.contains i := by
  induction l with
  | nil => rfl
  | cons a l ih => rw [List.any_cons, List.contains_cons, ih, Bool.beq_comm]

/-- a thing for the moment: it stays -/
theorem St.junk {c : Ctx} {mf : Str → Option Value} {α : List (List Addr)} {T : Led} {Λ : Hp} {h : Heap} (st : St φ c α T Λ mf h) (o : Obj) (hf : o.isFreed = false := by rfl) : St φ c α ((h.objs.size, o) :: T) Λ mf (h.push o) := by
  obtain ⟨M, S⟩ := st
  exact ⟨M, S.push o hf⟩

theorem form_inInts {a : E} (neg : Bool) (l : List Int) {pa : Expr} {sc : Scope} {ns : List Str} (sa : SoundE φ tb n cl sc ns pa a) {vs : List Expr} {q : Pos} {op : CmpOp} {c : Ctx} {env : PySem.Env} {mf m : Str → Option Value} {ρ : Env} {α : List (List Addr)} {T : Led} {Λ : Hp} {s : Shared} {Q X : Value → Shared → Prop}
    (ho : InIs op neg) (hc : ConstInts vs l) (hl : l.length < 1000000) (ta : TrE φ sc ns pa a) (ec : EC φ n c env sc ns mf m ρ α T) (st : St φ c α T Λ mf s.heap) (ha : After φ c α T mf s Q X (evE tb cl ρ (.inInts neg a l) Λ)) :
    wpAny (model φ.prog φ.w) c.A (eval pa env) (fun v s₁ => wpAny (model φ.prog φ.w) c.A (eval (.List vs q) env) (fun w s₂ => wpAny (model φ.prog φ.w) c.A (compareOp op v w) Q X s₂) X s₁) X s := by
  simp only [q0, q1, q2, q3, q4, q5, q6, q7, q8, q9, q10, q11, q12, q13, q14, q15, q16, q17, q18, q19, q20, q21, q22, q23, q24, q25, q26, q27, q28, q29, q30, q31, q32, q33, q34, q35, q36, q37, q38, q39, q40, q41, q42] at ha
  refine one sa ta ec st ha fun x Λ v α₁ T₁ h₁ tk₁ p₁ t₁ st₁ hv ec₁ ha₁ => ?_
  refine PyProof.Rows.List_ (ints_spliced hc fun us tk hu => ?_)
  have hlu := hu.length
  refine wpAny_newObj_type ?_ (by show us.toArray.size ≤ sizeLine; rw [List.size_toArray, sizeLine_eq]; omega)
  have st₂ := st₁.junk (o := { cls := .type "list", data := .seq us.toArray })
  have ha₂ := ha₁.grow (α' := α₁) (h' := h₁.push { cls := .type "list", data := .seq us.toArray }) (tk := tk) (.refl _) (Sub.cons T₁ (h₁.objs.size, { cls := .type "list", data := .seq us.toArray }))
  have hL : (h₁.push { cls := .type "list", data := .seq us.toArray }).IsList h₁.objs.size us.toArray := ⟨_, Heap.get?_push_size _ rfl, rfl, _, rfl⟩
  unfold vInInts at ha₂
  split at ha₂
  · rename_i i
    replace hv := hv.to_dat; cases hv with
    | dat hv =>
      replace hv := DatIn'.inv hv; cases hv
      have z := ha₂.bool st₂ tk
      rw [← any_beq_int] at z
      cases ho with
      | yes => exact in_list_ints hL hu (by simpa using z)
      | no => exact notin_list_ints hL hu (by simpa using z)
  · exact ha₂.elim
theorem form_inStrsL {a : E} (neg : Bool) (l : List Str) {pa : Expr} {sc : Scope} {ns : List Str} (sa : SoundE φ tb n cl sc ns pa a) {vs : List Expr} {q : Pos} {op : CmpOp} {c : Ctx} {env : PySem.Env} {mf m : Str → Option Value} {ρ : Env} {α : List (List Addr)} {T : Led} {Λ : Hp} {s : Shared} {Q X : Value → Shared → Prop}
    (ho : InIs op neg) (hc : ConstStrs vs l) (hl : l.length < 1000000) (ta : TrE φ sc ns pa a) (ec : EC φ n c env sc ns mf m ρ α T) (st : St φ c α T Λ mf s.heap) (ha : After φ c α T mf s Q X (evE tb cl ρ (.inStrs neg a l) Λ)) :
    wpAny (model φ.prog φ.w) c.A (eval pa env) (fun v s₁ => wpAny (model φ.prog φ.w) c.A (eval (.List vs q) env) (fun w s₂ => wpAny (model φ.prog φ.w) c.A (compareOp op v w) Q X s₂) X s₁) X s := by
  simp only [q0, q1, q2, q3, q4, q5, q6, q7, q8, q9, q10, q11, q12, q13, q14, q15, q16, q17, q18, q19, q20, q21, q22, q23, q24, q25, q26, q27, q28, q29, q30, q31, q32, q33, q34, q35, q36, q37, q38, q39, q40, q41, q42] at ha
  refine one sa ta ec st ha fun x Λ v α₁ T₁ h₁ tk₁ p₁ t₁ st₁ hv ec₁ ha₁ => ?_
  refine PyProof.Rows.List_ (strs_spliced hc fun us tk hu => ?_)
  have hlu := StrsAre.len hu
  refine wpAny_newObj_type ?_ (by show us.toArray.size ≤ sizeLine; rw [List.size_toArray, sizeLine_eq]; omega)
  have st₂ := st₁.junk (o := { cls := .type "list", data := .seq us.toArray })
  have ha₂ := ha₁.grow (α' := α₁) (h' := h₁.push { cls := .type "list", data := .seq us.toArray }) (tk := tk) (.refl _) (Sub.cons T₁ (h₁.objs.size, { cls := .type "list", data := .seq us.toArray }))
  have hL : (h₁.push { cls := .type "list", data := .seq us.toArray }).IsList h₁.objs.size us.toArray := ⟨_, Heap.get?_push_size _ rfl, rfl, _, rfl⟩
  unfold vInStrs at ha₂
  split at ha₂
  · rename_i i
    replace hv := hv.to_dat; cases hv with
    | dat hv =>
      replace hv := DatIn'.inv hv; cases hv
      have z := ha₂.bool st₂ tk
      rw [← any_beq_str] at z
      cases ho with
      | yes => exact in_list_strs hL hu (by simpa using z)
      | no => exact notin_list_strs hL hu (by simpa using z)
  · exact ha₂.elim
theorem form_inStrsT {a : E} (neg : Bool) (l : List Str) {pa : Expr} {sc : Scope} {ns : List Str} (sa : SoundE φ tb n cl sc ns pa a) {vs : List Expr} {k : Nat} {q : Pos} {op : CmpOp} {c : Ctx} {env : PySem.Env} {mf m : Str → Option Value} {ρ : Env} {α : List (List Addr)} {T : Led} {Λ : Hp} {s : Shared} {Q X : Value → Shared → Prop}
    (ho : InIs op neg) (hc : ConstStrs vs l) (hl : l.length < 1000000) (ta : TrE φ sc ns pa a) (ec : EC φ n c env sc ns mf m ρ α T) (st : St φ c α T Λ mf s.heap) (ha : After φ c α T mf s Q X (evE tb cl ρ (.inStrs neg a l) Λ)) :
    wpAny (model φ.prog φ.w) c.A (eval pa env) (fun v s₁ => wpAny (model φ.prog φ.w) c.A (eval (.Tuple vs k q) env) (fun w s₂ => wpAny (model φ.prog φ.w) c.A (compareOp op v w) Q X s₂) X s₁) X s := by
  simp only [q0, q1, q2, q3, q4, q5, q6, q7, q8, q9, q10, q11, q12, q13, q14, q15, q16, q17, q18, q19, q20, q21, q22, q23, q24, q25, q26, q27, q28, q29, q30, q31, q32, q33, q34, q35, q36, q37, q38, q39, q40, q41, q42] at ha
  refine one sa ta ec st ha fun x Λ v α₁ T₁ h₁ tk₁ p₁ t₁ st₁ hv ec₁ ha₁ => ?_
  refine PyProof.Rows.Tuple_ (strs_spliced hc fun us tk hu => ?_)
  have hlu := StrsAre.len hu
  refine wpAny_newObj_type ?_ (by show us.toArray.size ≤ sizeLine; rw [List.size_toArray, sizeLine_eq]; omega)
  have st₂ := st₁.junk (o := { cls := .type "tuple", data := .seq us.toArray })
  have ha₂ := ha₁.grow (α' := α₁) (h' := h₁.push { cls := .type "tuple", data := .seq us.toArray }) (tk := tk) (.refl _) (Sub.cons T₁ (h₁.objs.size, { cls := .type "tuple", data := .seq us.toArray }))
  have hL : IsTup (h₁.push { cls := .type "tuple", data := .seq us.toArray }) h₁.objs.size us.toArray := ⟨_, Heap.get?_push_size _ rfl, rfl, _, rfl⟩
  unfold vInStrs at ha₂
  split at ha₂
  · rename_i i
    replace hv := hv.to_dat; cases hv with
    | dat hv =>
      replace hv := DatIn'.inv hv; cases hv
      have z := ha₂.bool st₂ tk
      rw [← any_beq_str] at z
      cases ho with
      | yes => exact in_tuple_strs hL (by simpa using hu) (by simpa using z)
      | no => exact notin_tuple_strs hL (by simpa using hu) (by simpa using z)
  · exact ha₂.elim
theorem form_inV {a b : E} (neg : Bool) {pa pb : Expr} {sc : Scope} {ns : List Str} (sa : SoundE φ tb n cl sc ns pa a) (sb : SoundE φ tb n cl sc ns pb b) {op : CmpOp} {c : Ctx} {env : PySem.Env} {mf m : Str → Option Value} {ρ : Env} {α : List (List Addr)} {T : Led} {Λ : Hp} {s : Shared} {Q X : Value → Shared → Prop}
    (ho : InIs op neg) (ta : TrE φ sc ns pa a) (tb' : TrE φ sc ns pb b) (ec : EC φ n c env sc ns mf m ρ α T) (st : St φ c α T Λ mf s.heap) (ha : After φ c α T mf s Q X (evE tb cl ρ (.inV neg a b) Λ)) :
    wpAny (model φ.prog φ.w) c.A (eval pa env) (fun v s₁ => wpAny (model φ.prog φ.w) c.A (eval pb env) (fun w s₂ => wpAny (model φ.prog φ.w) c.A (compareOp op v w) Q X s₂) X s₁) X s := by
  simp only [q0, q1, q2, q3, q4, q5, q6, q7, q8, q9, q10, q11, q12, q13, q14, q15, q16, q17, q18, q19, q20, q21, q22, q23, q24, q25, q26, q27, q28, q29, q30, q31, q32, q33, q34, q35, q36, q37, q38, q39, q40, q41, q42] at ha
  refine two sa sb ta tb' ec st ha fun x y Λ v w α₁ T₁ h₁ tk₁ p₁ t₁ st₁ hv hw ec₁ ha₁ => ?_
  obtain ⟨M, S⟩ := id st₁
  have KX := ec₁.ok.inK.keeps S.fr.keep
  unfold vInV at ha₁
  split at ha₁
  · rename_i l
    unfold vInStrs at ha₁
    split at ha₁
    · rename_i i
      replace hv := hv.to_dat; cases hv with
      | dat hv =>
        replace hv := DatIn'.inv hv; cases hv
        have z := ha₁.bool st₁ tk₁
        rw [← any_beq_str] at z
        cases hw with
        | strsL hk hs =>
          have hL := lstK KX hk
          cases ho with
          | yes => exact in_list_strs hL hs (by simpa using z)
          | no => exact notin_list_strs hL hs (by simpa using z)
        | strsT hk hs =>
          have hL := tupK KX hk
          cases ho with
          | yes => exact in_tuple_strs hL (by simpa using hs) (by simpa using z)
          | no => exact notin_tuple_strs hL (by simpa using hs) (by simpa using z)
    · exact ha₁.elim
  · exact ha₁.elim
end
end Mine

end
section
set_option maxRecDepth 100000
set_option autoImplicit false
open PySem PySem.W PySem.Calls PyProof.Rows PyProof.V PySem.Spec
namespace Mine
section
variable {φ : Fix} {tb : Tabs} {n : Nat} {cl : Nat → List V → Hp → Rs V}

theorem snd_inInts {sc : Scope} {ns : List Str} {p q : Pos} {op : CmpOp} {neg : Bool} {pa : Expr} {vs : List Expr} {l : List Int} {a : E} (sa : SoundE φ tb n cl sc ns pa a) (ho : InIs op neg) (hc : ConstInts vs l) (hl : l.length < 1000) (ta : TrE φ sc ns pa a) : SoundE φ tb n cl sc ns (.Compare pa [op] [.List vs q] p) (.inInts neg a l) := by
  intro c env mf m ρ α T Λ s Q X _ ec st ha
  exact wpAny_Compare1 (form_inInts neg l sa ho hc (by omega) ta ec st ha) (by cases ho <;> rfl)

theorem sndT_inInts {sc : Scope} {ns : List Str} {p q : Pos} {op : CmpOp} {neg : Bool} {pa : Expr} {vs : List Expr} {l : List Int} {a : E} (sa : SoundE φ tb n cl sc ns pa a) (ho : InIs op neg) (hc : ConstInts vs l) (hl : l.length < 1000) (ta : TrE φ sc ns pa a) : SoundT φ tb n cl sc ns (.Compare pa [op] [.List vs q] p) (.inInts neg a l) := by
  intro c env mf m ρ α T Λ s Q X _ ec st ha
  exact sndT_cmp (by cases ho <;> rfl) (fun h => form_inInts neg l sa ho hc (by omega) ta ec st h) ha

theorem snd_inStrs_inStrsL {sc : Scope} {ns : List Str} {p q : Pos} {op : CmpOp} {neg : Bool} {pa : Expr} {vs : List Expr} {l : List Str} {a : E} (sa : SoundE φ tb n cl sc ns pa a) (ho : InIs op neg) (hc : ConstStrs vs l) (hl : l.length < 1000) (ta : TrE φ sc ns pa a) : SoundE φ tb n cl sc ns (.Compare pa [op] [.List vs q] p) (.inStrs neg a l) := by
  intro c env mf m ρ α T Λ s Q X _ ec st ha
  exact wpAny_Compare1 (form_inStrsL neg l sa ho hc (by omega) ta ec st ha) (by cases ho <;> rfl)
theorem snd_inStrs_inStrsT {sc : Scope} {ns : List Str} {p q : Pos} {k : Nat} {op : CmpOp} {neg : Bool} {pa : Expr} {vs : List Expr} {l : List Str} {a : E} (sa : SoundE φ tb n cl sc ns pa a) (ho : InIs op neg) (hc : ConstStrs vs l) (hl : l.length < 1000) (ta : TrE φ sc ns pa a) : SoundE φ tb n cl sc ns (.Compare pa [op] [.Tuple vs k q] p) (.inStrs neg a l) := by
  intro c env mf m ρ α T Λ s Q X _ ec st ha
  exact wpAny_Compare1 (form_inStrsT neg l sa ho hc (by omega) ta ec st ha) (by cases ho <;> rfl)

theorem sndT_inStrs_inStrsL {sc : Scope} {ns : List Str} {p q : Pos} {op : CmpOp} {neg : Bool} {pa : Expr} {vs : List Expr} {l : List Str} {a : E} (sa : SoundE φ tb n cl sc ns pa a) (ho : InIs op neg) (hc : ConstStrs vs l) (hl : l.length < 1000) (ta : TrE φ sc ns pa a) : SoundT φ tb n cl sc ns (.Compare pa [op] [.List vs q] p) (.inStrs neg a l) := by
  intro c env mf m ρ α T Λ s Q X _ ec st ha
  exact sndT_cmp (by cases ho <;> rfl) (fun h => form_inStrsL neg l sa ho hc (by omega) ta ec st h) ha
theorem sndT_inStrs_inStrsT {sc : Scope} {ns : List Str} {p q : Pos} {k : Nat} {op : CmpOp} {neg : Bool} {pa : Expr} {vs : List Expr} {l : List Str} {a : E} (sa : SoundE φ tb n cl sc ns pa a) (ho : InIs op neg) (hc : ConstStrs vs l) (hl : l.length < 1000) (ta : TrE φ sc ns pa a) : SoundT φ tb n cl sc ns (.Compare pa [op] [.Tuple vs k q] p) (.inStrs neg a l) := by
  intro c env mf m ρ α T Λ s Q X _ ec st ha
  exact sndT_cmp (by cases ho <;> rfl) (fun h => form_inStrsT neg l sa ho hc (by omega) ta ec st h) ha

theorem snd_inV {sc : Scope} {ns : List Str} {p : Pos} {op : CmpOp} {neg : Bool} {pa pb : Expr} {a b : E} (sa : SoundE φ tb n cl sc ns pa a) (sb : SoundE φ tb n cl sc ns pb b) (ho : InIs op neg) (hm : behindInMarks op pb = false) (ta : TrE φ sc ns pa a) (tb' : TrE φ sc ns pb b) : SoundE φ tb n cl sc ns (.Compare pa [op] [pb] p) (.inV neg a b) := by
  intro c env mf m ρ α T Λ s Q X _ ec st ha
  exact wpAny_Compare1 (form_inV neg sa sb ho ta tb' ec st ha) hm

theorem sndT_inV {sc : Scope} {ns : List Str} {p : Pos} {op : CmpOp} {neg : Bool} {pa pb : Expr} {a b : E} (sa : SoundE φ tb n cl sc ns pa a) (sb : SoundE φ tb n cl sc ns pb b) (ho : InIs op neg) (hm : behindInMarks op pb = false) (ta : TrE φ sc ns pa a) (tb' : TrE φ sc ns pb b) : SoundT φ tb n cl sc ns (.Compare pa [op] [pb] p) (.inV neg a b) := by
  intro c env mf m ρ α T Λ s Q X _ ec st ha
  exact sndT_cmp hm (fun h => form_inV neg sa sb ho ta tb' ec st h) ha

theorem form_isNil {a : E} {pa : Expr} {sc : Scope} {ns : List Str} (sa : SoundE φ tb n cl sc ns pa a) {q : Pos} {c : Ctx} {env : PySem.Env} {mf m : Str → Option Value} {ρ : Env} {α : List (List Addr)} {T : Led} {Λ : Hp} {s : Shared} {Q X : Value → Shared → Prop}
    (ta : TrE φ sc ns pa a) (ec : EC φ n c env sc ns mf m ρ α T) (st : St φ c α T Λ mf s.heap) (ha : After φ c α T mf s Q X (evE tb cl ρ (.isNil a) Λ)) :
    wpAny (model φ.prog φ.w) c.A (eval pa env) (fun v s₁ => wpAny (model φ.prog φ.w) c.A (eval (.List [] q) env) (fun w s₂ => wpAny (model φ.prog φ.w) c.A (compareOp .Eq v w) Q X s₂) X s₁) X s := by
  simp only [q0, q1, q2, q3, q4, q5, q6, q7, q8, q9, q10, q11, q12, q13, q14, q15, q16, q17, q18, q19, q20, q21, q22, q23, q24, q25, q26, q27, q28, q29, q30, q31, q32, q33, q34, q35, q36, q37, q38, q39, q40, q41, q42] at ha
  refine one sa ta ec st ha fun x Λ v α₁ T₁ h₁ tk₁ p₁ t₁ st₁ hv ec₁ ha₁ => ?_
  refine PyProof.Rows.List_ (spliced_nil ?_)
  refine wpAny_newObj_type ?_ (by show ([] : List Value).toArray.size ≤ sizeLine; rw [sizeLine_eq]; simp)
  have st₂ := st₁.junk (o := { cls := .type "list", data := .seq ([] : List Value).toArray })
  have ha₂ := ha₁.grow (α' := α₁) (h' := h₁.push { cls := .type "list", data := .seq ([] : List Value).toArray }) (tk := tk₁) (.refl _) (Sub.cons T₁ (h₁.objs.size, { cls := .type "list", data := .seq ([] : List Value).toArray }))
  unfold vIsNil at ha₂
  split at ha₂
  · rename_i nn
    split at ha₂
    · rename_i l hl
      split at ha₂
      · rename_i hk
        replace hv := hv.to_ref; cases hv with
        | ref hr =>
          obtain ⟨M, S⟩ := id st₂
          cases (S.at hr hl).to_dl with
          | @dl ad vs k _ hm hd =>
            have hu : c.A.units + 64 < cLine := by have := ec₁.unit; show c.un + 64 < cLine; omega
            refine kqd_eq S.nw (List.mem_append_left _ hm) rfl rfl hd (fun p hp => List.mem_append_right _ hp) (List.mem_append_right _ (.head _)) rfl rfl (DatAll.nil (news := [])) (fun p hp => by cases hp) (by simpa using hk) (by simp) hu ?_
            have z := ha₂.bool st₂ tk₁
            have e : ∀ I : Decidable (l = []), @decide (l = []) I = l.isEmpty := by intro I; cases l <;> simp
            rw [e]
            exact z
      · exact ha₂.elim
    · exact ha₂.elim
  · exact ha₂.elim

theorem snd_isNil {sc : Scope} {ns : List Str} {p q : Pos} {pa : Expr} {a : E} (sa : SoundE φ tb n cl sc ns pa a) (ta : TrE φ sc ns pa a) : SoundE φ tb n cl sc ns (.Compare pa [.Eq] [.List [] q] p) (.isNil a) := by
  intro c env mf m ρ α T Λ s Q X _ ec st ha
  exact wpAny_Compare1 (form_isNil sa ta ec st ha) rfl

theorem sndT_isNil {sc : Scope} {ns : List Str} {p q : Pos} {pa : Expr} {a : E} (sa : SoundE φ tb n cl sc ns pa a) (ta : TrE φ sc ns pa a) : SoundT φ tb n cl sc ns (.Compare pa [.Eq] [.List [] q] p) (.isNil a) := by
  intro c env mf m ρ α T Λ s Q X _ ec st ha
  exact sndT_cmp rfl (fun h => form_isNil sa ta ec st h) ha

theorem form_eqTold {a b : E} {pa pb : Expr} {sc : Scope} {ns : List Str} (sa : SoundE φ tb n cl sc ns pa a) (sb : SoundE φ tb n cl sc ns pb b) {c : Ctx} {env : PySem.Env} {mf m : Str → Option Value} {ρ : Env} {α : List (List Addr)} {T : Led} {Λ : Hp} {s : Shared} {Q X : Value → Shared → Prop}
    (ta : TrE φ sc ns pa a) (tb' : TrE φ sc ns pb b) (ec : EC φ n c env sc ns mf m ρ α T) (st : St φ c α T Λ mf s.heap) (ha : After φ c α T mf s Q X (evE tb cl ρ (.eqTold a b) Λ)) :
    wpAny (model φ.prog φ.w) c.A (eval pa env) (fun v s₁ => wpAny (model φ.prog φ.w) c.A (eval pb env) (fun w s₂ => wpAny (model φ.prog φ.w) c.A (compareOp .Eq v w) Q X s₂) X s₁) X s := by
  simp only [q0, q1, q2, q3, q4, q5, q6, q7, q8, q9, q10, q11, q12, q13, q14, q15, q16, q17, q18, q19, q20, q21, q22, q23, q24, q25, q26, q27, q28, q29, q30, q31, q32, q33, q34, q35, q36, q37, q38, q39, q40, q41, q42] at ha
  refine two sa sb ta tb' ec st ha fun x y Λ v w α₁ T₁ h₁ tk₁ p₁ t₁ st₁ hv hw ec₁ ha₁ => ?_
  obtain ⟨M, S⟩ := id st₁
  unfold vEqTold at ha₁
  split at ha₁
  · rename_i a' x' b' y'
    split at ha₁
    · rename_i hk
      rw [Bool.and_eq_true] at hk
      have N := S.newsT
      have hu : c.A.units + 64 < cLine := by have := ec₁.unit; show c.un + 64 < cLine; omega
      have rd : ∀ {v : Value} {a : Bool} {x : Dat}, VIn φ α₁ T₁ v (.dat (.tuple [.bool a, x])) → kqdOk 8 x = true → ∃ as, Reads h₁ v (.tuple [.bool a, kqdP x]) as := by
        intro v a x hv hx
        replace hv := hv.to_dat; cases hv with
        | dat hv =>
          cases hv with
          | @tuple ad vs k _ hm hd =>
            cases hd with
            | cons h1 hd => cases hd with
              | cons h2 hd =>
                cases hd
                cases h1
                obtain ⟨as, q⟩ := kqd_in N 8 h2 hx
                exact ⟨_, reads_tuple_at (N.get hm) rfl rfl (by simpa using ReadsAll.cons (Reads.bool a) (ReadsAll.cons q ReadsAll.nil))⟩
      have sh : ∀ {a : Bool} {x : Dat}, kqdOk 8 x = true → SeqAt.shaped (.tuple [.bool a, kqdP x]) = true := by
        intro a x hx
        have la := kqd_lay 8 x hx
        unfold SeqAt.shaped
        rw [Bool.and_eq_true]
        constructor
        · simp [PyData.canLay0, PyData.canLayAll0, la.1]
        · refine decide_eq_true ?_
          simp [PyData.depth, PyData.depthAll]
          omega
      obtain ⟨as, ra⟩ := rd hv hk.1
      obtain ⟨bs, rb⟩ := rd hw hk.2
      refine eq_dataH ra rb (sh hk.1) (sh hk.2) hu ?_
      have z := ha₁.bool st₁ tk₁
      have e : PyData.eqv (.tuple [.bool a', kqdP x']) (.tuple [.bool b', kqdP y']) = (a' == b' && datEq x' y') := by
        have q := kqd_eqv 8 x' y' 8 hk.1 hk.2
        have q2 : PyData.eqv (kqdP x') (kqdP y') = datEq x' y' := by
          unfold datEq
          by_cases hq : x' = y'
          · rw [q.mpr hq]; simp [hq]
          · rw [Bool.eq_false_iff.mpr fun z => hq (q.mp z)]; simp [hq]
        simp [PyData.eqv, PyData.eqvAll, q2]
      rw [e]
      exact z
    · exact ha₁.elim
  · exact ha₁.elim
theorem snd_eqTold {sc : Scope} {ns : List Str} {p : Pos} {pa pb : Expr} {a b : E} (sa : SoundE φ tb n cl sc ns pa a) (sb : SoundE φ tb n cl sc ns pb b) (ta : TrE φ sc ns pa a) (tb' : TrE φ sc ns pb b) : SoundE φ tb n cl sc ns (.Compare pa [.Eq] [pb] p) (.eqTold a b) := by
  intro c env mf m ρ α T Λ s Q X _ ec st ha
  exact wpAny_Compare1 (form_eqTold sa sb ta tb' ec st ha) (CopIs.marks .eq _)

theorem sndT_eqTold {sc : Scope} {ns : List Str} {p : Pos} {pa pb : Expr} {a b : E} (sa : SoundE φ tb n cl sc ns pa a) (sb : SoundE φ tb n cl sc ns pb b) (ta : TrE φ sc ns pa a) (tb' : TrE φ sc ns pb b) : SoundT φ tb n cl sc ns (.Compare pa [.Eq] [pb] p) (.eqTold a b) := by
  intro c env mf m ρ α T Λ s Q X _ ec st ha
  exact sndT_cmp (CopIs.marks .eq _) (fun h => form_eqTold sa sb ta tb' ec st h) ha

end
end Mine

end
section
set_option maxRecDepth 100000
set_option autoImplicit false
open PySem PySem.W PySem.Calls PyProof.Rows PyProof.V PySem.Spec
namespace Mine
section
variable {φ : Fix} {tb : Tabs} {n : Nat} {cl : Nat → List V → Hp → Rs V}

theorem StrsAre.item {vs : List Value} {l : List Str} (h : StrsAre vs l) {k : Nat} {x : Str} (hk : l[k]? = some x) : ∃ t, vs[k]? = some (.str x t) := by
  induction h generalizing k with
  | nil => simp at hk
  | cons y t _ ih =>
    cases k with
    | zero => simp at hk; subst hk; exact ⟨t, rfl⟩
    | succ k => simpa using ih (by simpa using hk)
theorem IntsAre.item {vs : List Value} {l : List Int} (h : IntsAre vs l) {k : Nat} {x : Int} (hk : l[k]? = some x) : ∃ t, vs[k]? = some (.int x t) := by
  induction h generalizing k with
  | nil => simp at hk
  | cons y t _ ih =>
    cases k with
    | zero => simp at hk; subst hk; exact ⟨t, rfl⟩
    | succ k => simpa using ih (by simpa using hk)

theorem snd_menu {sc : Scope} {ns : List Str} {p q : Pos} {vs : List Expr} {l : List Str} {pi : Expr} {i : E} (si : SoundE φ tb n cl sc ns pi i) (hc : ConstStrs vs l) (hl : l.length < 1000) (hp : plainIx pi = true) (ti : TrE φ sc ns pi i) : SoundE φ tb n cl sc ns (.Subscript (.List vs q) pi p) (.menu l i) := by
  intro c env mf m ρ α T Λ s Q X _ ec st ha
  simp only [q0, q1, q2, q3, q4, q5, q6, q7, q8, q9, q10, q11, q12, q13, q14, q15, q16, q17, q18, q19, q20, q21, q22, q23, q24, q25, q26, q27, q28, q29, q30, q31, q32, q33, q34, q35, q36, q37, q38, q39, q40, q41, q42] at ha
  refine PyProof.Rows.Subscript_ (PyProof.Rows.List_ (strs_spliced hc fun us tk hu => ?_))
  have hlu := StrsAre.len hu
  refine wpAny_newObj_type ?_ (by show us.toArray.size ≤ sizeLine; rw [List.size_toArray, sizeLine_eq]; omega)
  have st₂ := st.junk (o := { cls := .type "list", data := .seq us.toArray })
  have ha₂ := ha.grow (α' := α) (h' := s.heap.push { cls := .type "list", data := .seq us.toArray }) (tk := tk) (.refl _) (Sub.cons T (s.heap.objs.size, { cls := .type "list", data := .seq us.toArray }))
  have ec₂ := ec.mono (.refl α) (Sub.cons T (s.heap.objs.size, { cls := .type "list", data := .seq us.toArray }))
  refine one si ti ec₂ st₂ ha₂ fun y Λ₃ w α₃ T₃ h₃ tk₃ p₃ t₃ st₃ hw ec₃ ha₃ => ?_
  obtain ⟨M₃, S₃⟩ := id st₃
  have L : h₃.IsList s.heap.objs.size us.toArray := ⟨_, S₃.getT (t₃ _ (.head _)), rfl, _, rfl⟩
  unfold vMenu at ha₃
  split at ha₃
  · rename_i j
    replace hw := hw.to_dat; cases hw with
    | dat hw =>
      replace hw := DatIn'.inv hw; cases hw
      cases hi : natIx j with
      | none => rw [hi] at ha₃; exact ha₃.elim
      | some k =>
        rw [hi] at ha₃
        dsimp only [Option.bind_some] at ha₃
        cases hx : l[k]? with
        | none => rw [hx] at ha₃; exact ha₃.elim
        | some x =>
          rw [hx] at ha₃
          obtain ⟨t, ht⟩ := StrsAre.item hu hx
          have hlt : k < us.length := (List.getElem?_eq_some_iff.mp ht).1
          obtain ⟨q1, q2, q3, q4⟩ := seqIx hi hlt
          exact tail_any L.typeIs slot_list_getitem.lookup (wpAny_getItem_list L q2 (by omega) (by rw [q4]; simpa using ht) (ha₃ _ α₃ T₃ h₃ tk₃ (.refl _) (.refl _) st₃ (.dat (.str x t)))) (sub_plain hp _ _)
  · exact ha₃.elim

theorem snd_sort2 {sc : Scope} {ns : List Str} {p q r u : Pos} {x : Str} {pa pb pi : Expr} {a b i : E} (sa : SoundE φ tb n cl sc ns pa a) (sb : SoundE φ tb n cl sc ns pb b) (si : SoundE φ tb n cl sc ns pi i) (g : BiIs φ sc x (.builtin "sorted")) (hp : plainIx pi = true) (ta : TrE φ sc ns pa a) (tb' : TrE φ sc ns pb b) (ti : TrE φ sc ns pi i) : SoundE φ tb n cl sc ns (.Subscript (.Call (.Name x q) [.List [pa, pb] u] [] r) pi p) (.sort2 a b i) := by
  intro c env mf m ρ α T Λ s Q X _ ec st ha
  simp only [q0, q1, q2, q3, q4, q5, q6, q7, q8, q9, q10, q11, q12, q13, q14, q15, q16, q17, q18, q19, q20, q21, q22, q23, q24, q25, q26, q27, q28, q29, q30, q31, q32, q33, q34, q35, q36, q37, q38, q39, q40, q41, q42] at ha
  refine PyProof.Rows.Subscript_ (PySem.Call_name1 rfl (ec.builtin st g (PySem.callWith_builtin1 (PyProof.Rows.List_ ?_))))
  rw [tr_star ta, backTo_cons]
  refine spliced_cons (one sa ta ec st ha fun xx Λ₁ v α₁ T₁ h₁ tk₁ p₁ t₁ st₁ hv ec₁ ha₁ => ?_)
  rw [tr_star tb', backTo_cons]
  refine spliced_cons (one sb tb' ec₁ st₁ ha₁ fun yy Λ₂ w α₂ T₂ h₂ tk₂ p₂ t₂ st₂ hw ec₂ ha₂ => spliced_nil ?_)
  replace hv := hv.mono p₂ t₂
  unfold isII at ha₂
  split at ha₂
  · rename_i a' b'
    rw [lift_some, Rs.bind_ok] at ha₂
    have key : ∀ (z : Int) (ns' : List Int), ns'.Perm [a', b'] → ns'.Pairwise (· ≤ ·) → vSort2 (.dat (.int a')) (.dat (.int b')) (.dat (.int z)) = (natIx z).bind fun k => ns'[k]?.map fun j => .dat (.int j) := by
      intro z ns' hperm hpw
      have : (if b' < a' then [b', a'] else [a', b']) = ns' := by
        refine List.Perm.eq_of_pairwise (le := (· ≤ ·)) (fun a b _ _ => Int.le_antisymm) ?_ hpw ?_
        · split
          · exact List.pairwise_pair.mpr (Int.le_of_lt (by assumption))
          · exact List.pairwise_pair.mpr (Int.not_lt.mp (by assumption))
        · split
          · exact (List.Perm.swap a' b' []).trans hperm.symm
          · exact hperm.symm
      unfold vSort2
      dsimp only
      rw [this]
    replace hv := hv.to_dat; cases hv with
    | dat hv => replace hw := hw.to_dat; cases hw with
      | dat hw =>
        replace hv := DatIn'.inv hv; cases hv
        replace hw := DatIn'.inv hw; cases hw
        rename_i t1 t2
        refine wpAny_newObj_type ?_ (by show ([Value.int a' t1, Value.int b' t2] : List Value).toArray.size ≤ sizeLine; rw [sizeLine_eq]; simp)
        have st₃ := st₂.junk (o := { cls := .type "list", data := .seq [Value.int a' t1, Value.int b' t2].toArray })
        have ha₃ := ha₂.grow (α' := α₂) (h' := h₂.push { cls := .type "list", data := .seq [Value.int a' t1, Value.int b' t2].toArray }) (tk := tk₂) (.refl _) (Sub.cons T₂ (h₂.objs.size, { cls := .type "list", data := .seq [Value.int a' t1, Value.int b' t2].toArray }))
        have ec₃ := ec₂.mono (.refl α₂) (Sub.cons T₂ (h₂.objs.size, { cls := .type "list", data := .seq [Value.int a' t1, Value.int b' t2].toArray }))
        obtain ⟨M₃, S₃⟩ := id st₃
        have L : (h₂.push { cls := .type "list", data := .seq [Value.int a' t1, Value.int b' t2].toArray }).IsList h₂.objs.size [Value.int a' t1, Value.int b' t2].toArray := ⟨_, S₃.getT (.head _), rfl, _, rfl⟩
        refine sorted_N S₃.fr S₃.nw L (.cons a' _ (.cons b' _ .nil)) (by simp) fun h' vs' ns' e F' N' hI hperm hpw => ?_
        have hlo : h₂.objs.size ≤ h₂.objs.size + 1 + 1 := by omega
        have st₄ : St φ c α₂ (((h₂.push { cls := .type "list", data := .seq [Value.int a' t1, Value.int b' t2].toArray }).objs.size + 1, seqObj "list" vs'.toArray e) :: (h₂.objs.size, { cls := .type "list", data := .seq [Value.int a' t1, Value.int b' t2].toArray }) :: T₂) Λ₂ mf h' := ⟨M₃, S₃.more F' N' (S₃.fresh (Nat.le_succ _))⟩
        have ha₄ := ha₃.grow (α' := α₂) (h' := h') (tk := tk₂) (.refl _) (Sub.cons _ (((h₂.push { cls := .type "list", data := .seq [Value.int a' t1, Value.int b' t2].toArray }).objs.size + 1, seqObj "list" vs'.toArray e)))
        refine one si ti (ec₃.mono (.refl _) (Sub.cons _ _)) st₄ ha₄ fun zz Λ₅ u α₅ T₅ h₅ tk₅ p₅ t₅ st₅ hu ec₅ ha₅ => ?_
        obtain ⟨M₅, S₅⟩ := id st₅
        have L₅ : h₅.IsList _ vs'.toArray := ⟨_, S₅.getT (t₅ _ (.head _)), rfl, _, rfl⟩
        cases hz : vSort2 (.dat (.int a')) (.dat (.int b')) zz with
        | none => rw [hz] at ha₅; exact ha₅.elim
        | some r =>
          rw [hz] at ha₅
          cases zz with
          | dat d =>
            cases d with
            | int z =>
              rw [key z ns' hperm hpw] at hz
              replace hu := hu.to_dat; cases hu with
              | dat hu =>
                replace hu := DatIn'.inv hu; cases hu
                cases hi : natIx z with
                | none => rw [hi] at hz; cases hz
                | some k =>
                  rw [hi] at hz
                  dsimp only [Option.bind_some] at hz
                  cases hx : ns'[k]? with
                  | none => rw [hx] at hz; cases hz
                  | some j =>
                    rw [hx] at hz
                    cases hz
                    obtain ⟨t, ht⟩ := IntsAre.item hI hx
                    have hlt : k < vs'.length := (List.getElem?_eq_some_iff.mp ht).1
                    obtain ⟨q1, q2, q3, q4⟩ := seqIx hi hlt
                    exact tail_any L₅.typeIs slot_list_getitem.lookup (wpAny_getItem_list L₅ q2 (by omega) (by rw [q4]; simpa using ht) (ha₅ _ α₅ T₅ h₅ tk₅ (.refl _) (.refl _) st₅ (.dat (.int j t)))) (sub_plain hp _ _)
            | _ => cases hz
          | _ => cases hz
  · exact ha₂.elim

end
end Mine

end
section
set_option maxRecDepth 100000
set_option autoImplicit false
open PySem PySem.W PySem.Calls PyProof.Rows PyProof.V PySem.Spec
namespace Mine
/-! things that change while others are looked at: laid by, then let go -/
noncomputable def Inert (φ : Fix) (o : Obj) : Prop := (∀ vs k, o.data ≠ .seq vs k) ∧ (∀ t dd, o ≠ excObj φ.CP t dd) ∧ (∀ es n v, o = dictOf es n → getL "ball" es ≠ some (some v))
theorem Inert.fields {φ : Fix} {o : Obj} {fs : Array Value} {c : String} (h : o.data = .fields fs) (hc : o.cls = .type c) : Inert φ o :=
  ⟨fun vs k e => (by rw [h] at e; cases e), fun t dd e => (by subst e; cases hc), fun es n v e => (by subst e; cases h)⟩
noncomputable def dropL (as : List Addr) (T : Led) : Led := T.filter fun p => !as.contains p.1
theorem dropL_mem {as : List Addr} {T : Led} {p : Addr × Obj} (h : p ∈ T) (n : p.1 ∉ as) : p ∈ dropL as T := List.mem_filter.mpr ⟨h, by simpa using n⟩
theorem dropL_sub (as : List Addr) (T : Led) : Sub (dropL as T) T := fun _ h => (List.mem_filter.mp h).1
theorem dropL_not {as : List Addr} {T : Led} {p : Addr × Obj} (h : p ∈ dropL as T) : p.1 ∉ as := by simpa using (List.mem_filter.mp h).2
mutual
theorem datDrop {as : List Addr} {T : Led} (hi : ∀ p ∈ T, p.1 ∈ as → ∀ vs k, p.2.data ≠ .seq vs k) : ∀ {v : Value} {d : Dat}, DatIn T v d → DatIn (dropL as T) v d
  | _, _, .none => .none
  | _, _, .bool b => .bool b
  | _, _, .int i t => .int i t
  | _, _, .str x t => .str x t
  | _, _, .bytes b t => .bytes b t
  | _, _, .tuple h r => .tuple (dropL_mem h fun q => hi _ h q _ _ rfl) (datsDrop hi r)
  | _, _, .list h r => .list (dropL_mem h fun q => hi _ h q _ _ rfl) (datsDrop hi r)
theorem datsDrop {as : List Addr} {T : Led} (hi : ∀ p ∈ T, p.1 ∈ as → ∀ vs k, p.2.data ≠ .seq vs k) : ∀ {vs : List Value} {ds : List Dat}, DatAll T vs ds → DatAll (dropL as T) vs ds
  | _, _, .nil => .nil
  | _, _, .cons h r => .cons (datDrop hi h) (datsDrop hi r)
end
section
variable {φ : Fix} {c : Ctx} {α : List (List Addr)} {T M : Led} {Λ : Hp} {mf : Str → Option Value} {h : Heap} {as : List Addr}
theorem ExnAt.drop (hi : ∀ p ∈ T, p.1 ∈ as → Inert φ p.2) {a : Addr} {d : Dat} (e : ExnAt φ T a d) : ExnAt φ (dropL as T) a d := by
  obtain ⟨dd, t, v, es, n, a1, a2, a3, a4⟩ := e
  exact ⟨dd, t, v, es, n, dropL_mem a1 fun q => (hi _ a1 q).2.1 _ _ rfl, dropL_mem a2 fun q => (hi _ a2 q).2.2 _ _ _ rfl a3, a3, datDrop (fun p hp q => (hi p hp q).1) a4⟩
theorem VIn.drop (hi : ∀ p ∈ T, p.1 ∈ as → Inert φ p.2) {v : Value} {x : V} (e : VIn φ α T v x) : VIn φ α (dropL as T) v x := by
  cases e with
  | dat e => exact .dat (datDrop (fun p hp q => (hi p hp q).1) e)
  | ref e => exact .ref e
  | exn e => exact .exn (e.drop hi)
  | strsL e k => exact .strsL e k
  | strsT e k => exact .strsT e k
theorem VAll.drop (hi : ∀ p ∈ T, p.1 ∈ as → Inert φ p.2) {vs : List Value} {xs : List V} (e : VAll φ α T vs xs) : VAll φ α (dropL as T) vs xs := by
  induction e with
  | nil => exact .nil
  | cons e _ ih => exact .cons (e.drop hi) ih
theorem Atts.drop (hi : ∀ p ∈ T, p.1 ∈ as → Inert φ p.2) {k : Nat} {es : List DictEntry} {xs : List V} (e : Atts φ α T k es xs) : Atts φ α (dropL as T) k es xs := by
  induction e with
  | nil k => exact .nil k
  | cons e _ ih => exact .cons (e.drop hi) ih
theorem CellIn.drop (hi : ∀ p ∈ T, p.1 ∈ as → Inert φ p.2) {r : List Addr} {cell : Cell} (e : CellIn φ α T M r cell) (hr : ∀ a ∈ r, a ∉ as) : CellIn φ α (dropL as T) M r cell := by
  cases e with
  | dl a b => exact .dl a (datsDrop (fun p hp q => (hi p hp q).1) b)
  | vl a b => exact .vl a (b.drop hi)
  | ed a b c => exact .ed a b c
  | sd a b c d => exact .sd a b c d
  | @pd ad o l a b =>
    refine .pd a ?_
    obtain ⟨lo, o', es, ep, xs, h1, h2, h3, h4, h5, h6, h7⟩ := b
    have up : ∀ q : Addr × Obj, q ∈ (ad, o) :: T → (q.1 ∈ as → ∃ vs k, q.2.data = .seq vs k) → q ∈ (ad, o) :: dropL as T := by
      intro q hq hn
      rcases List.mem_cons.mp hq with rfl | hq
      · exact .head _
      · refine .tail _ (dropL_mem hq fun z => ?_)
        obtain ⟨vs, k, e⟩ := hn z
        exact (hi _ hq z).1 _ _ e
    refine ⟨lo, o', es, ep, xs, up _ h1 fun z => absurd z (hr ad (.head _)), h2, h3, h4, h5, fun x hx => ?_, h7⟩
    obtain ⟨ok, q, r⟩ := h6 x hx
    refine ⟨ok, up _ q fun _ => ?_, r⟩
    obtain ⟨_, items, n, hd, _⟩ := r
    exact ⟨items, n, hd⟩
  | inst a b e c => exact .inst a b e (c.drop hi)
/-- an address that stands aside -/
structure Aside (c : Ctx) (α : List (List Addr)) (a : Addr) : Prop where
  loc : a ≠ c.L
  new : c.h₀.get? a = none
  cell : a ∉ α.flatten
theorem StM.aside (S : StM φ c α T M Λ mf h) {a : Addr} (e : h.objs.size ≤ a) : Aside c α a where
  loc := by
    obtain ⟨oL, _, _, hL, _⟩ := S.fr.ns
    exact Nat.ne_of_gt (Nat.lt_of_lt_of_le (Heap.lt_size hL) e)
  new := by
    cases q : c.h₀.get? a with
    | none => rfl
    | some o => exact absurd (Heap.lt_size (S.fr.keep _ _ q)) (Nat.not_lt.mpr e)
  cell := S.fresh e
theorem StM.asideT (S : StM φ c α T M Λ mf h) {p : Addr × Obj} (hp : p ∈ T) : Aside c α p.1 where
  loc := (S.nw p (List.mem_append_right _ hp)).2.1
  new := (S.nw p (List.mem_append_right _ hp)).2.2
  cell := S.ap p hp
theorem StM.lay (S : StM φ c α T M Λ mf h) {a : Addr} {o : Obj} (hg : h.get? a = some o) (ha : Aside c α a) : StM φ c α ((a, o) :: T) M Λ mf h :=
  S.more S.fr (fun p hp => by
    rcases List.mem_cons.mp hp with rfl | hp
    · exact ⟨hg, ha.loc, ha.new⟩
    · exact S.nw p hp) ha.cell
/-- a step that makes what the ledger does not list -/
theorem StM.step (S : StM φ c α T M Λ mf h) {h' : Heap} (k : ∀ b o, h.get? b = some o → h'.get? b = some o) : StM φ c α T M Λ mf h' where
  fr := S.fr.keeps k
  nw := fun p hp => ⟨k _ _ (S.nw p hp).1, (S.nw p hp).2⟩
  adr := S.adr
  cells := S.cells
  len := S.len
  nd := S.nd
  ap := S.ap
theorem StM.drop (S : StM φ c α T M Λ mf h) {h' : Heap} (hi : ∀ p ∈ T, p.1 ∈ as → Inert φ p.2) (ha : ∀ a ∈ as, Aside c α a) (k : ∀ b o, b ∉ as → h.get? b = some o → h'.get? b = some o) : StM φ c α (dropL as T) M Λ mf h' where
  fr := by
    obtain ⟨oL, es, ep, hL, r⟩ := S.fr.ns
    refine ⟨⟨oL, es, ep, k _ _ (fun q => (ha _ q).loc rfl) hL, r⟩, fun b o e => k _ _ (fun q => ?_) (S.fr.keep _ _ e), S.fr.above⟩
    rw [(ha _ q).new] at e; cases e
  nw := fun p hp => by
    rcases List.mem_append.mp hp with hm | hm
    · exact ⟨k _ _ (fun q => (ha _ q).cell (S.inM hm)) (S.getM hm), (S.nw p (List.mem_append_left _ hm)).2⟩
    · have hT := dropL_sub _ _ _ hm
      exact ⟨k _ _ (dropL_not hm) (S.getT hT), (S.nw p (List.mem_append_right _ hT)).2⟩
  adr := S.adr
  cells := fun i r cell hr hc => (S.cells i r cell hr hc).drop hi fun a q z => (ha _ z).cell (List.mem_flatten.mpr ⟨_, List.mem_of_getElem? hr, q⟩)
  len := S.len
  nd := S.nd
  ap := fun p hp => S.ap p (dropL_sub _ _ _ hp)
/-- what is laid is what stands there -/
theorem StM.same (S : StM φ c α T M Λ mf h) {p : Addr × Obj} (hp : p ∈ T) {o : Obj} (ho : (p.1, o) ∈ T) : p.2 = o := by
  have a := S.getT hp
  have b := S.getT ho
  exact Option.some.inj (a.symm.trans b)
theorem StM.inert (S : StM φ c α T M Λ mf h) (hl : ∀ a ∈ as, ∃ o, (a, o) ∈ T ∧ Inert φ o) : ∀ p ∈ T, p.1 ∈ as → Inert φ p.2 := fun p hp q => by
  obtain ⟨o, ho, hi⟩ := hl _ q
  rw [S.same hp ho]; exact hi
theorem sub_drop {T₀ T' : Led} (s : Sub T₀ T') (n : ∀ p ∈ T₀, p.1 ∉ as) : Sub T₀ (dropL as T') := fun p hp => dropL_mem (s p hp) (n p hp)
end
end Mine

end
section
set_option maxRecDepth 100000
set_option autoImplicit false
open PySem PySem.W PySem.Calls PyProof.Rows PyProof.V PySem.Spec
namespace Mine
section
variable {φ : Fix} {tb : Tabs} {n : Nat} {cl : Nat → List V → Hp → Rs V}
inductive EachS (φ : Fix) (tb : Tabs) (n : Nat) (cl : Nat → List V → Hp → Rs V) (sc : Scope) (ns : List Str) : List Expr → Es → Prop
  | nil : EachS φ tb n cl sc ns [] .nil
  | cons {pe : Expr} {as : List Expr} {e : E} {es : Es} : SoundE φ tb n cl sc ns pe e → EachS φ tb n cl sc ns as es → EachS φ tb n cl sc ns (pe :: as) (.cons e es)
theorem EachS.sound {as : List Expr} {es : Es} {sc : Scope} {ns : List Str} (h : EachS φ tb n cl sc ns as es) : SoundL φ tb n cl sc ns as es := by
  induction h with
  | nil => exact sndL_nil
  | cons h _ ih => exact sndL_cons h ih

theorem pairs_walk {vs : List Expr} {es : Es} {sc : Scope} {ns : List Str} (hs : EachS φ tb n cl sc ns vs es) : ∀ {ks : List (Option Expr)} {l : List Str} {pos : Pos} {c : Ctx} {env : PySem.Env} {mf m : Str → Option Value} {ρ : Env} {α : List (List Addr)} {T : Led} {Λ : Hp} {s : Shared} {Q : List Value → Shared → Prop} {X : Value → Shared → Prop},
    KeyStrs ks l → TrEs φ sc ns vs es → vs.length = l.length → EC φ n c env sc ns mf m ρ α T → St φ c α T Λ mf s.heap → AfterL φ c α T mf s Q X (evEs tb cl ρ es Λ) →
    wpAny (model φ.prog φ.w) c.A (evalPairs (pairTrees ks vs env pos)) (fun prs s' => ∃ ws, allStrKeys prs = true ∧ strPairs prs = l.zip ws ∧ ws.length = l.length ∧ Q ws s') X s := by
  induction hs with
  | nil =>
    intro ks l pos c env mf m ρ α T Λ s Q X hk ht hl ec st ha
    cases hk with
    | nil => exact pairTrees_nil_walk ⟨[], rfl, rfl, rfl, ha [] α T s.heap s.toks (.refl _) (.refl _) st .nil⟩
    | cons _ => cases hl
  | @cons pe as e es' he _ ih =>
    intro ks l pos c env mf m ρ α T Λ s Q X hk ht hl ec st ha
    obtain ⟨te, ts⟩ := TrEs.uncons ht
    · cases hk with
      | nil => cases hl
      | @cons k p x ks' l' hk =>
        refine pairTrees_cons_walk (Constant_str ?_)
        simp only [qs0, qs1] at ha
        refine he te ec (s := { s with toks := s.toks + 1 }) st ?_
        cases hr : evE tb cl ρ e Λ with
        | ok z Λ₁ =>
          rw [hr] at ha
          intro v α₁ T₁ h₁ tk₁ p₁ t₁ st₁ hv
          rw [Rs.bind_ok] at ha
          refine wpAny_mono (ih hk ts (by simpa using hl) (ec.mono p₁ t₁) st₁ (Q := fun ws s' => Q (v :: ws) s') ?_) (fun prs s' ⟨ws, q1, q2, q3, q4⟩ => ⟨v :: ws, ?_, ?_, ?_, q4⟩) fun _ _ z => z
          · cases hr2 : evEs tb cl ρ es' Λ₁ with
            | ok xs Λ₂ =>
              rw [hr2] at ha
              intro vs α₂ T₂ h₂ tk₂ p₂ t₂ st₂ hvs
              exact ha (v :: vs) α₂ T₂ h₂ tk₂ (p₁.trans p₂) (t₁.trans t₂) st₂ (.cons (hv.mono p₂ t₂) hvs)
            | err d => rw [hr2] at ha; exact fun e h₂ tk₂ F => ha e h₂ tk₂ (F.weak t₁)
            | bad => rw [hr2] at ha; exact ha.elim
          · exact q1
          · show (x, v) :: strPairs prs = _
            rw [q2]; rfl
          · simp [q3]
        | err d => rw [hr] at ha; exact ha
        | bad => rw [hr] at ha; exact ha.elim

theorem flat_zip {T : Led} {α : List (List Addr)} : ∀ {l : List Str} {ws : List Value} {Vs : List V} {is : List Int}, VAll φ α T ws Vs → numsOf Vs = some is → ws.length = l.length → FlatPairs PyData.str (l.zip ws) (sdD (l.zip is)) := by
  intro l
  induction l with
  | nil => intro ws Vs is h e hl; cases ws with
    | nil => exact .nil
    | cons _ _ => cases hl
  | cons x l ih =>
    intro ws Vs is h e hl
    cases h with
    | nil => cases hl
    | @cons v V vs xs hv hr =>
      unfold numsOf at e
      split at e
      · rename_i heq; cases heq
      · rename_i i r heq
        cases heq
        cases hq : numsOf xs with
        | none => rw [hq] at e; cases e
        | some js =>
          rw [hq] at e
          cases e
          replace hv := hv.to_dat; cases hv with
          | dat hv =>
            replace hv := DatIn'.inv hv; cases hv
            exact .cons (Flat.int _ _) (ih hr hq (by simpa using hl))
      · cases e
theorem KeyStrs.all {ks : List (Option Expr)} {l : List Str} (h : KeyStrs ks l) : ks.all (·.isSome) = true ∧ ks.length = l.length := by
  induction h with
  | nil => exact ⟨rfl, rfl⟩
  | cons _ ih => exact ⟨by simp [ih.1], by simp [ih.2]⟩

/-- the items, then the rest: what follows is asked from the first store on -/
theorem AfterL.first0 {c : Ctx} {mf : Str → Option Value} {α α₀ : List (List Addr)} {T T₀ : Led} {s : Shared} {hh : Heap} {tt : Nat} {Q X : Value → Shared → Prop} {r : Rs (List V)} {f : List V → Hp → Rs V} (h : After φ c α₀ T₀ mf s Q X (r.bind f)) (hT : Sub T₀ T) {Q' : List Value → Shared → Prop}
    (k : ∀ Vs Λ vs α' T' h' tk, Pre α α' → Sub T T' → St φ c α' T' Λ mf h' → VAll φ α' T' vs Vs → After φ c α₀ T₀ mf s Q X (f Vs Λ) → Q' vs { s with heap := h', toks := tk }) : AfterL φ c α T mf { s with heap := hh, toks := tt } Q' X r := by
  cases r with
  | ok V Λ => exact fun v α' T' h' tk p t S hv => k V Λ v α' T' h' tk p t S hv h
  | err d => exact fun e h' tk F => h e h' tk (F.weak hT)
  | bad => exact h
theorem snd_pickd {sc : Scope} {ns : List Str} {p q : Pos} {ks : List (Option Expr)} {vs : List Expr} {pk : Expr} {l : List Str} {es : Es} {k : E} (hs : EachS φ tb n cl sc ns vs es) (sk : SoundE φ tb n cl sc ns pk k) (hk : KeyStrs ks l) (hnd : l.Nodup) (hne : l ≠ []) (hl15 : l.length ≤ 15) (hvl : vs.length = l.length) (hp : plainIx pk = true) (ts : TrEs φ sc ns vs es) (tk : TrE φ sc ns pk k) : SoundE φ tb n cl sc ns (.Subscript (.Dict ks vs q) pk p) (.pickd l es k) := by
  intro c env mf m ρ α T Λ s Q X _ ec st ha
  simp only [q0, q1, q2, q3, q4, q5, q6, q7, q8, q9, q10, q11, q12, q13, q14, q15, q16, q17, q18, q19, q20, q21, q22, q23, q24, q25, q26, q27, q28, q29, q30, q31, q32, q33, q34, q35, q36, q37, q38, q39, q40, q41, q42] at ha
  obtain ⟨M, S⟩ := id st
  obtain ⟨hall, hkl⟩ := hk.all
  have hd0 : s.heap.objs.size ∉ α.flatten := S.fresh (Nat.le_refl _)
  have sd0 := S.aside (Nat.le_refl s.heap.objs.size)
  have lt0 : ∀ p ∈ T, p.1 ≠ s.heap.objs.size := fun p hp e => Nat.lt_irrefl _ (e ▸ Heap.lt_size (S.getT hp))
  refine PyProof.Rows.Subscript_ (wpAny_Dict_walk (knd := strKind φ.prog φ.w) hall (by rw [hkl, hvl]) (by intro e; subst e; simp at hkl; exact hne (List.length_eq_zero_iff.mp hkl.symm)) (by omega) ?_)
  refine wpAny_mono (pairs_walk hs hk ts hvl (ec.mono (.refl α) (Sub.cons T (s.heap.objs.size, { cls := .type "dict", data := .dict #[] }))) (st.junk (o := { cls := .type "dict", data := .dict #[] }))
    (Q := fun ws s' => s'.heap.DictOf (strKind φ.prog φ.w) s.heap.objs.size [] ∧ ∀ h₂ prs, allStrKeys prs = true → strPairs prs = l.zip ws → ws.length = l.length → h₂.DictOf (strKind φ.prog φ.w) s.heap.objs.size (strPairs prs) → Heap.SameBut s.heap.objs.size s'.heap h₂ →
      wpAny (model φ.prog φ.w) c.A (eval pk env) (fun kk s₂ => wpAny (model φ.prog φ.w) c.A (subscriptTail (.Dict ks vs q) pk (.ref s.heap.objs.size) kk) Q X s₂) X { s' with heap := h₂, toks := s'.toks + prs.length }) ?_)
    (fun prs s' hq => ?_) fun _ _ z => z
  · refine AfterL.first0 ha (Sub.cons _ _) fun Vs Λ₁ ws α₁ T₁ h₁ tk₁ p₁ t₁ st₁ hws ha₁ => ?_
    obtain ⟨M₁, S₁⟩ := id st₁
    have hm : (s.heap.objs.size, ({ cls := .type "dict", data := .dict #[] } : Obj)) ∈ T₁ := t₁ _ (.head _)
    refine ⟨(Heap.DictOf.new s.heap).at fun o e => ?_, fun h₂ prs q1 q2 q3 hd hsb => ?_⟩
    · rw [Heap.get?_push_size _ rfl] at e
      cases e
      exact S₁.getT hm
    · obtain ⟨o₂, ho₂, hd₂⟩ := Heap.dictOf_iff.mp hd
      have sd₁ := S₁.asideT hm
      have hin : ∀ a ∈ [s.heap.objs.size], ∃ o, (a, o) ∈ T₁ ∧ Inert φ o := fun a q => by
        rw [List.mem_singleton.mp q]
        exact ⟨_, hm, fun vs k e => (by cases e), fun t dd e => (by cases e), fun es n v e => (by cases e; intro z; cases z)⟩
      have S₂ := S₁.drop (as := [s.heap.objs.size]) (h' := h₂) (S₁.inert hin) (fun a q => by rw [List.mem_singleton.mp q]; exact sd₁) (fun b o nb e => hsb.extBut b o (by simpa using nb) e)
      have S₃ := S₂.lay ho₂ sd₁
      have sub₃ : Sub T (((s.heap.objs.size, o₂)) :: dropL [s.heap.objs.size] T₁) := fun p hp => .tail _ (dropL_mem (t₁ _ (.tail _ hp)) (by simpa using lt0 p hp))
      have ec₃ := ec.mono p₁ sub₃
      refine one sk tk ec₃ (s := { s with heap := h₂, toks := tk₁ + prs.length }) ⟨M₁, S₃⟩ (ha₁.grow (h' := h₂) (tk := tk₁ + prs.length) p₁ sub₃) fun y Λ₄ u α₄ T₄ h₄ tk₄ p₄ t₄ st₄ hu ec₄ ha₄ => ?_
      obtain ⟨M₄, S₄⟩ := id st₄
      unfold vPickd at ha₄
      split at ha₄
      · rename_i kx
        cases hn : numsOf Vs with
        | none => rw [hn] at ha₄; exact ha₄.elim
        | some is =>
          rw [hn] at ha₄
          dsimp only [Option.bind_some] at ha₄
          cases hl : (l.zip is).lookup kx with
          | none => rw [hl] at ha₄; exact ha₄.elim
          | some i =>
            rw [hl] at ha₄
            replace hu := hu.to_dat; cases hu with
            | dat hu =>
              replace hu := DatIn'.inv hu; cases hu
              have lo : (s.heap.objs.size == sysModules) = false := by
                refine beq_eq_false_iff_ne.mpr fun e => ?_
                have hm := modules_low (Top.nolimit ec.ok.top)
                have := sd0.new
                have h1 := S.fr.above
                obtain ⟨oL, _, _, hL, _⟩ := S.fr.ns
                have h2 := Heap.lt_size hL
                rw [e] at h2
                exact absurd (Nat.lt_of_le_of_lt h1 h2) (Nat.not_lt.mpr (Nat.le_of_lt hm))
              rw [q2] at hd₂
              have TB : StrTab φ.prog φ.w h₄ s.heap.objs.size (sdD (l.zip is)) := TabAt.ofObj lo (S₄.getT (t₄ _ (.head _))) hd₂ (flat_zip hws hn q3)
              obtain ⟨_, kvs, hdd, hff⟩ := TB
              obtain ⟨v, hv, hfl⟩ := hff.of_lookup PyProof.V.same_str (show PySem.Spec.lookup (.str kx) (sdD (l.zip is)) = some (.int i) by rw [lookup_sdD, hl]; rfl)
              obtain ⟨t, rfl⟩ := flat_int hfl
              exact tail_any hdd.typeIs slot_dict_getitem.lookup (wpAny_getItem_of (strKind_is _ _ _ _) hdd.mapOf hv (ha₄.int st₄ _ _)) (sub_plain hp _ _)
      · exact ha₄.elim
  · obtain ⟨ws, q1, q2, q3, h1, h2⟩ := hq
    have hz : (strPairs prs).map (·.1) = l := by rw [q2]; exact List.map_fst_zip (by omega)
    exact display_done_str q1 (by rw [hz]; exact hnd) h1 fun h' hm hsb => h2 h' prs q1 q2 q3 hm hsb

end
end Mine

end
section
set_option maxRecDepth 100000
set_option autoImplicit false
open PySem PySem.W PySem.Calls PyProof.Rows PyProof.V PySem.Spec
namespace Mine
/-! an exception under way: noted, and let down a frame -/
theorem dict_mapFields (f : Array Value → Array Value) (o : Obj) : (Obj.mapFields f o).dict = o.dict := by
  unfold Obj.mapFields
  split <;> rfl
noncomputable def ExcAt (B h : Heap) (a : Addr) (cls : Value) (dd : Option Addr) (fl : Value) : Prop :=
  ∃ oe vs Tb oT ts, h.get? a = some oe ∧ (oe.cls = cls ∧ oe.dict = dd) ∧ oe.data = .fields vs ∧ vs[1]? = some (.ref Tb) ∧ B.get? Tb = none ∧ Tb ≠ a ∧ h.get? Tb = some oT ∧ oT.data = .fields ts ∧ ts[3]? = some fl
noncomputable def Noted (B : Heap) (l : List PySem.Env) (a : Addr) (cls : Value) (dd : Option Addr) (fl : Value) (h h' : Heap) : Prop :=
  B.StaysIn h' ∧ h'.FunFrames B l ∧ ExcAt B h' a cls dd fl ∧ h.UpToSlots h'
section
variable {M : Model} {A : Around} {E : Value → Shared → Prop} {s : Shared}
theorem entry_own {base : Heap} {env : PySem.Env} {outer : List PySem.Env} {L e : Addr} {oe : Obj} {vs : Array Value} {head : Value} {hadNext : Bool} {Q : Unit → Shared → Prop}
    (hfr : A.frames = some (env :: outer)) (hl : s.heap.FunFrames base (env :: outer)) (hf : env.frame = some L)
    (he : s.heap.get? e = some oe) (hkb : base.StaysIn s.heap) (hen : base.get? e = none) (hd : oe.data = .fields vs) (hsz : 1 < vs.size)
    (h : ∀ h', Noted base (env :: outer) e oe.cls oe.dict (rawInt L) s.heap h' → Q () { s with heap := h' }) :
    wpAny M A (do let a ← frameOf env; let pl ← entryPlaceOf L hadNext; let b ← EntryCells.newEntry head a .none (rawInt L) .none pl; setField (.ref e) 1 b) Q E s := by
  have hene : e ∉ (env :: outer).filterMap (·.frame) := fun hm => by
    obtain ⟨_, o, ho, hnf⟩ := hl.mem hm
    rw [he] at ho; injection ho with ho; subst ho; exact hnf vs hd
  refine wpAny_bind (wpAny_frameOf_fun hfr hl hf fun h₁ hs₁ => ?_)
  refine wpAny_bind (wpAny_entryPlaceOf fun pl hpl => ?_)
  unfold EntryCells.newEntry newFields
  refine wpAny_bind (wpAny_newObj_type ?_ (hpl.sizeOk5 _ _ _ _ _))
  have he₁ : h₁.get? e = some oe := (hs₁.2.1 e hene).trans he
  have kb₁ : base.StaysIn h₁ := fun b o hbo => (hs₁.2.1 b fun hm => by rw [(hl.mem hm).1] at hbo; cases hbo).trans (hkb b o hbo)
  have he₂ := Heap.get?_push_of_some (h := h₁) { cls := .type "traceback", dict := none, data := .fields ([head, .ref L, .none, rawInt L, .none] ++ (if pl.isEmpty then List.replicate 6 Value.none else pl)).toArray } he₁
  refine wpAny_setField he₂ hd hsz (h _ ?_)
  have hTe : h₁.objs.size ≠ e := Nat.ne_of_gt (Heap.lt_size he₁)
  have hd₃ := Obj.data_mapFields hd (·.setIfInBounds 1 (Value.ref h₁.objs.size))
  have he₃ := Heap.get?_update_self (Obj.mapFields (·.setIfInBounds 1 (Value.ref h₁.objs.size))) he₂ (Obj.isFreed_of_fields hd₃)
  have hT₃ := (Heap.get?_update_other (h₁.push { cls := .type "traceback", dict := none, data := .fields ([head, .ref L, .none, rawInt L, .none] ++ (if pl.isEmpty then List.replicate 6 Value.none else pl)).toArray })
    (Obj.mapFields (·.setIfInBounds 1 (Value.ref h₁.objs.size))) (Ne.symm hTe)).trans (Heap.get?_push_size h₁ rfl)
  have keep : ∀ b o, b ≠ e → h₁.get? b = some o →
      ((h₁.push { cls := .type "traceback", dict := none, data := .fields ([head, .ref L, .none, rawInt L, .none] ++ (if pl.isEmpty then List.replicate 6 Value.none else pl)).toArray }).update e (Obj.mapFields (·.setIfInBounds 1 (Value.ref h₁.objs.size)))).get? b = some o :=
    fun b o hbe hb => by
      rw [Heap.get?_update_other _ _ (Ne.symm hbe)]
      exact Heap.get?_push_of_some _ hb
  have noRecord : ∀ b o, s.heap.get? b = some o → (∀ vs, o.data ≠ .fields vs) → b ≠ e := fun b o hb hnf q => by
    rw [q, he] at hb; injection hb with hb; subst hb; exact hnf vs hd
  refine ⟨fun b o hbo => keep b o (fun q => by rw [q, hen] at hbo; cases hbo) (kb₁ b o hbo), hl.of_keeps fun b o hb hnf => ?_, ?_, fun b o hb hnf => ?_⟩
  · obtain ⟨sl, hs⟩ := hs₁.2.2 b o hb
    exact ⟨_, keep b _ (noRecord b o hb hnf) hs, rfl⟩
  · exact ⟨_, _, h₁.objs.size, _, _, he₃, ⟨Obj.cls_mapFields _ _, dict_mapFields _ _⟩, hd₃, by simp [hsz], kb₁.fresh, hTe, hT₃, rfl, by first | (simp; done) | (rcases hpl with rfl | ⟨_, _, _, _, _, _, _, rfl⟩ <;> simp)⟩
  · obtain ⟨sl, hs⟩ := hs₁.2.2 b o hb
    exact ⟨sl, keep b _ (noRecord b o hb hnf) hs⟩

theorem note_own {φ : Fix} {base : Heap} {env : PySem.Env} {outer : List PySem.Env} {L e dd : Addr} {Q : Unit → Shared → Prop}
    (hfr : A.frames = some (env :: outer)) (hl : s.heap.FunFrames base (env :: outer)) (hf : env.frame = some L) (hx : ExcState φ base L e dd s.heap) (hkb : base.StaysIn s.heap) (hen : base.get? e = none)
    (h : ∀ h', Noted base (env :: outer) e (.ref φ.CP) (some dd) (rawInt L) s.heap h' → Q () { s with heap := h' }) : wpAny M A (noteFrame (.ref e) env) Q E s := by
  cases hx with
  | @fresh t he =>
    unfold noteFrame
    simp only [hf]
    refine wpAny_bind (wpAny_field he rfl (x := .none) rfl ?_)
    rw [if_neg (by decide)]
    exact entry_own hfr hl hf he hkb hen rfl (by show 1 < (#[_, _, _, _, _, _] : Array Value).size; simp) h
  | @traced oe oT vs ts Tb fl he hc hdc hd h1 hnT hTe hT hdT h3 hfl =>
    rcases hfl with rfl | rfl
    · unfold noteFrame
      simp only [hf]
      refine wpAny_bind (wpAny_field he hd h1 ?_)
      rw [if_pos (show (Value.ref Tb != Value.none) = true from by simp)]
      refine wpAny_bind (wpAny_field hT hdT h3 ?_)
      rw [if_neg (show ¬ ((Value.none == rawInt L) = true) from by simp [rawInt])]
      refine wpAny_bind (wpAny_setField hT hdT (Array.getElem?_eq_some_iff.mp h3).1 ?_)
      have other : ∀ b, b ≠ Tb → (s.heap.update Tb (Obj.mapFields (·.setIfInBounds 3 Value.none))).get? b = s.heap.get? b := fun b hb => Heap.get?_update_other _ _ (Ne.symm hb)
      have noRecord : ∀ b o, s.heap.get? b = some o → (∀ vs, o.data ≠ .fields vs) → b ≠ Tb := fun b o hb hnf q => by
        rw [q, hT] at hb; injection hb with hb; subst hb; exact hnf ts hdT
      refine entry_own hfr (hl.of_keeps fun b o hb hnf => ⟨o, (other b (noRecord b o hb hnf)).trans hb, rfl⟩) hf ((other e (Ne.symm hTe)).trans he)
        (fun b o hbo => (other b fun q => by rw [q, hnT] at hbo; cases hbo).trans (hkb b o hbo)) hen hd (Array.getElem?_eq_some_iff.mp h1).1 fun h' ⟨x1, x2, x3, x4⟩ => ?_
      rw [hc, hdc] at x3
      exact h h' ⟨x1, x2, x3, fun b o hb hnf => x4 b o ((other b (noRecord b o hb hnf)).trans hb) hnf⟩
    · unfold noteFrame
      simp only [hf]
      refine wpAny_bind (wpAny_field he hd h1 ?_)
      rw [if_pos (show (Value.ref Tb != Value.none) = true from by simp)]
      refine wpAny_bind (wpAny_field hT hdT h3 ?_)
      rw [if_pos (show (rawInt L == rawInt L) = true from by simp)]
      exact wpAny_pure (h s.heap ⟨hkb, hl, ⟨oe, vs, Tb, oT, ts, he, ⟨hc, hdc⟩, hd, h1, hnT, hTe, hT, hdT, h3⟩, .refl _⟩)

theorem flight_own {base : Heap} {l : List PySem.Env} {e : Addr} {cls fl : Value} {dd : Option Addr} {Q : Unit → Shared → Prop}
    (hkb : base.StaysIn s.heap) (hl : s.heap.FunFrames base l) (ht : ExcAt base s.heap e cls dd fl)
    (h : ∀ h', Noted base l e cls dd .none s.heap h' → Q () { s with heap := h' }) :
    wpAny M A (setFlight (.ref e) none) Q E s := by
  obtain ⟨oe, vs, T, oT, ts, he, hcls, hd, h1, hnT, hTe, hT, hdT, h3⟩ := ht
  have hsz3 : 3 < ts.size := (Array.getElem?_eq_some_iff.mp h3).1
  have other : ∀ b, b ≠ T → (s.heap.update T (Obj.mapFields (·.setIfInBounds 3 ((none : Option Addr).elim Value.none fun f => rawInt f)))).get? b = s.heap.get? b :=
    fun b hb => Heap.get?_update_other _ _ (Ne.symm hb)
  have noRecord : ∀ b o, s.heap.get? b = some o → (∀ vs, o.data ≠ .fields vs) → b ≠ T := fun b o hb hnf q => by
    rw [q, hT] at hb; injection hb with hb; subst hb; exact hnf ts hdT
  unfold setFlight
  refine wpAny_bind (wpAny_field he hd h1 ?_)
  rw [if_pos (show (Value.ref T != Value.none) = true from by simp)]
  refine wpAny_setField hT hdT hsz3 (h _ ⟨fun b o hbo => (other b fun q => by rw [q, hnT] at hbo; cases hbo).trans (hkb b o hbo),
    hl.of_keeps fun b o hb hnf => ⟨o, (other b (noRecord b o hb hnf)).trans hb, rfl⟩, ?_, fun b o hb hnf => ⟨o.slots, (other b (noRecord b o hb hnf)).trans hb⟩⟩)
  exact ⟨oe, vs, T, _, _, (other e (Ne.symm hTe)).trans he, hcls, hd, h1, hnT, hTe, Heap.get?_update_self _ hT (Obj.isFreed_of_fields (Obj.data_mapFields hdT _)), Obj.data_mapFields hdT _, by simp [hsz3]⟩

theorem ExcAt.state {φ : Fix} {B h : Heap} {L a dd : Addr} {fl : Value} (x : ExcAt B h a (.ref φ.CP) (some dd) fl) (hf : fl = .none ∨ fl = rawInt L) : ExcState φ B L a dd h := by
  obtain ⟨oe, vs, T, oT, ts, he, hcls, hd, h1, hnT, hTe, hT, hdT, h3⟩ := x
  exact .traced he hcls.1 hcls.2 hd h1 hnT hTe hT hdT h3 hf

/-- noted in its frame -/
theorem FlownAt.noted {φ : Fix} {c : Ctx} {mf : Str → Option Value} {a : Addr} {d : Dat} {B : Heap} {T : Led} {dd : Addr} {Q : Unit → Shared → Prop} (F : FlownAt φ c mf a d s.heap B T dd) (hf : c.fenv.frame = some c.L) (hfr : A.frames = some (c.fenv :: c.outer))
    (h : ∀ h', FlownAt φ c mf a d h' B T dd → ExcAt B h' a (.ref φ.CP) (some dd) (rawInt c.L) → Q () { s with heap := h' }) : wpAny M A (noteFrame (.ref a) c.fenv) Q E s :=
  note_own hfr F.frames hf F.exc F.stays F.new fun h' ⟨n1, n2, n3, n4⟩ => h h' ⟨F.up.trans n4, n4.ns F.ns, F.base, n1, F.new, n2, F.inT, F.ball, n3.state (.inr rfl)⟩ n3
end
end Mine

end
section
set_option maxRecDepth 100000
set_option autoImplicit false
open PySem PySem.W PySem.Calls PyProof.Rows PyProof.V PySem.Spec
namespace Mine
noncomputable def SoundC (φ : Fix) (n : Nat) (cl : Nat → List V → Hp → Rs V) : Prop := ∀ {c : Ctx} {f : Nat} {vs : List Value} {Vs : List V} {mf : Str → Option Value} {α : List (List Addr)} {T : Led} {Λ : Hp} {s : Shared} {Q X : Value → Shared → Prop},
  c.Ok φ → c.dp + 5 * n + 106 < recursionLimit → c.un + 20 * n + 83 < cLine → St φ c α T Λ mf s.heap → VAll φ α T vs Vs → After φ c α T mf s Q X (cl f Vs Λ) →
  codeAny (model φ.prog φ.w) c.A (.call (.ref (φ.addr f)) ⟨vs, []⟩) (fun r s' => match r with | .ok (.ret v) => Q v s' | .ok _ => False | .error e => X e s') s
section
variable {φ : Fix} {tb : Tabs} {n : Nat} {cl : Nat → List V → Hp → Rs V}
theorem call_own (sc : SoundC φ n cl) {c : Ctx} {env : PySem.Env} {scp : Scope} {ns : List Str} {mf m : Str → Option Value} {ρ : Env} {α : List (List Addr)} {T : Led} {Λ : Hp} {s : Shared} {f : Nat} {vs : List Value} {Vs : List V} {Q X : Value → Shared → Prop}
    (ec : EC φ n c env scp ns mf m ρ α T) (st : St φ c α T Λ mf s.heap) (hv : VAll φ α T vs Vs) (ha : After φ c α T mf s Q X (cl f Vs Λ)) : wpAny (model φ.prog φ.w) c.A (call (.ref (φ.addr f)) vs) Q X s :=
  wpAny_call (sc ec.ok (by have := ec.room; omega) (by have := ec.unit; omega) st hv ha)

/-- the arguments, then the call -/
theorem args_own {es : Es} {as : List Expr} {sc : Scope} {ns : List Str} (ss : SoundL φ tb n cl sc ns as es) {c : Ctx} {env : PySem.Env} {mf m : Str → Option Value} {ρ : Env} {α : List (List Addr)} {T : Led} {Λ : Hp} {s : Shared} {pos : Pos} {Q X : Value → Shared → Prop} {f : Value} {first : List Value}
    {g : List V → Hp → Rs V} (hk : keepIn φ.K f = true) (ts : TrEs φ sc ns as es) (ec : EC φ n c env sc ns mf m ρ α T) (st : St φ c α T Λ mf s.heap) (ha : After φ c α T mf s Q X ((evEs tb cl ρ es Λ).bind g))
    (k : ∀ Vs Λ vs α' T' h' tk, Pre α α' → Sub T T' → St φ c α' T' Λ mf h' → VAll φ α' T' vs Vs → After φ c α' T' mf { s with heap := h', toks := tk } Q X (g Vs Λ) → wpAny (model φ.prog φ.w) c.A (call f (first ++ vs)) Q X { s with heap := h', toks := tk }) :
    wpAny (model φ.prog φ.w) c.A (callWith pos f first (backTo pos (starEach as env)) []) Q X s := by
  have KI : ∀ {α' : List (List Addr)} {T' : Led} {Λ' : Hp} {h' : Heap}, St φ c α' T' Λ' mf h' → φ.K.In h' := fun st => by
    obtain ⟨M, S⟩ := st
    exact ec.ok.inK.keeps S.fr.keep
  cases as with
  | nil =>
    cases (show es = .nil from ts)
    refine callWith_K0 (KI st) hk ?_
    simp only [qs0, qs1, Rs.bind_ok] at ha
    exact k [] Λ [] α T s.heap s.toks (.refl _) (.refl _) st .nil ha
  | cons a as =>
    obtain ⟨e, es, rfl, te, ts⟩ := ts
    refine callWith_K ec.ok.inK hk ?_ (tr_star (φ := φ) (sc := sc) (ns := ns) (e := e) te env as) (plainTo pos env ts)
    refine ss (.cons te ts) ec st (AfterL.first ha fun Vs Λ' vs α₁ T₁ h₁ tk₁ _ p₁ t₁ st₁ hvs ha₁ => ⟨KI st₁, ?_⟩)
    exact k Vs Λ' vs α₁ T₁ h₁ tk₁ p₁ t₁ st₁ hvs ha₁

theorem snd_call {sc : Scope} {ns : List Str} {p q : Pos} {x : Str} {f : Nat} {as : List Expr} {es : Es} (sC : SoundC φ n cl) (ss : SoundL φ tb n cl sc ns as es) (g : GlIs φ sc x (.ref (φ.addr f))) (hk : keepIn φ.K (.ref (φ.addr f)) = true) (ts : TrEs φ sc ns as es) : SoundE φ tb n cl sc ns (.Call (.Name x q) as [] p) (.call f es) := by
  intro c env mf m ρ α T Λ s Q X _ ec st ha
  simp only [q0, q1, q2, q3, q4, q5, q6, q7, q8, q9, q10, q11, q12, q13, q14, q15, q16, q17, q18, q19, q20, q21, q22, q23, q24, q25, q26, q27, q28, q29, q30, q31, q32, q33, q34, q35, q36, q37, q38, q39, q40, q41, q42] at ha
  refine PyProof.Rows.Call_Name rfl (ec.global st g (args_own ss hk ts ec st ha fun Vs Λ' vs α₁ T₁ h₁ tk₁ p₁ t₁ st₁ hvs ha₁ => ?_))
  exact call_own sC (ec.mono p₁ t₁) st₁ hvs ha₁

theorem Atts.miss {α : List (List Addr)} {T : Led} {k : Nat} {es : List DictEntry} {l : List V} (h : Atts φ α T k es l) {name : Str} (hn : ∀ k, attName k ≠ name) : getL name es = some none := by
  induction h with
  | nil k => rfl
  | @cons k t v x' es xs hv r ih =>
    unfold getL at ih ⊢
    rw [List.find?_cons]
    have e : (Value.str (attName k) t).isStr name = false := by
      simp only [Value.isStr]
      exact beq_eq_false_iff_ne.mpr (hn k)
    simp only [e]
    have er : (⟨PyData.keyHash φ.w.params (attName k), .str (attName k) t, v⟩ : DictEntry).refKey = false := rfl
    rw [List.any_cons, er, Bool.false_or]
    exact ih

theorem snd_meth {sc : Scope} {ns : List Str} {p q : Pos} {x : Str} {f : Nat} {po : Expr} {o : E} {as : List Expr} {es : Es} (sC : SoundC φ n cl) (so : SoundE φ tb n cl sc ns po o) (ss : SoundL φ tb n cl sc ns as es) (hm : MethIs φ x f) (hb : plainBase po = true) (hl : oneLine q p = true) (hn : as.length < 9) (to : TrE φ sc ns po o) (hne : as ≠ []) (ts : TrEs φ sc ns as es) : SoundE φ tb n cl sc ns (.Call (.Attribute po x q) as [] p) (.meth f o es) := by
  intro c env mf m ρ α T Λ s Q X _ ec st ha
  simp only [q0, q1, q2, q3, q4, q5, q6, q7, q8, q9, q10, q11, q12, q13, q14, q15, q16, q17, q18, q19, q20, q21, q22, q23, q24, q25, q26, q27, q28, q29, q30, q31, q32, q33, q34, q35, q36, q37, q38, q39, q40, q41, q42] at ha
  refine methCall hb hl ts hn fun pl => one so to ec st ha fun x Λ₁ v α₁ T₁ h₁ tk₁ p₁ t₁ st₁ hv ec₁ ha₁ => ?_
  obtain ⟨M, S⟩ := id st₁
  split at ha₁
  · rename_i nn
    split at ha₁
    · rename_i l hl'
      replace hv := hv.to_ref; cases hv with
      | ref hr =>
        cases (S.at hr hl').to_inst with
        | @inst xx dx es' k _ h1 h2 h4 h3 =>
          refine method_inst S.fr ec₁.ok.inK ⟨S.getM h1, rfl, rfl, S.getM h2⟩ hm.get hm.find hm.fn (h3.miss hm.off) ?_
          refine args_own ss hm.keep ts ec₁ st₁ ha₁ fun Vs Λ' vs α₂ T₂ h₂ tk₂ p₂ t₂ st₂ hvs ha₂ => ?_
          exact call_own sC (ec₁.mono p₂ t₂) st₂ (.cons (.ref (p₂.get hr)) hvs) ha₂
    · exact ha₁.elim
  · exact ha₁.elim

/-- the same frame, elsewhere on the stack -/
noncomputable abbrev Ctx.at' (c : Ctx) (dp un : Nat) : Ctx := { c with dp := dp, un := un }
theorem St.re {c : Ctx} {dp un : Nat} {α : List (List Addr)} {T : Led} {Λ : Hp} {mf : Str → Option Value} {h : Heap} : St φ c α T Λ mf h ↔ St φ (c.at' dp un) α T Λ mf h :=
  ⟨fun ⟨M, S⟩ => ⟨M, ⟨S.fr, S.nw, S.adr, S.cells, S.len, S.nd, S.ap⟩⟩, fun ⟨M, S⟩ => ⟨M, ⟨S.fr, S.nw, S.adr, S.cells, S.len, S.nd, S.ap⟩⟩⟩
theorem Flown.re {c : Ctx} {dp un : Nat} {mf : Str → Option Value} {T : Led} {e : Value} {d : Dat} {h : Heap} : Flown φ c mf T e d h ↔ Flown φ (c.at' dp un) mf T e d h :=
  ⟨fun ⟨a, B, T, dd, e, n, F⟩ => ⟨a, B, T, dd, e, n, ⟨F.up, F.ns, F.base, F.stays, F.new, F.frames, F.inT, F.ball, F.exc⟩⟩, fun ⟨a, B, T, dd, e, n, F⟩ => ⟨a, B, T, dd, e, n, ⟨F.up, F.ns, F.base, F.stays, F.new, F.frames, F.inT, F.ball, F.exc⟩⟩⟩
theorem Ctx.Ok.re {c : Ctx} {dp un : Nat} (ok : c.Ok φ) : (c.at' dp un).Ok φ := ⟨ok.below, ok.inK, ok.top, ok.frame, ok.kind, ok.seer, ok.tree, ok.gen, ok.cor, ok.bi, ok.gl⟩
structure SymIs (φ : Fix) (f : Nat) : Prop where
  make : makesIn φ.K φ.CS = true
  init : findIn φ.K (.ref φ.CS) "__init__" = some (some (.ref (φ.addr f)))
  fn : isFn φ.K (.ref (φ.addr f)) = true
  keep : keepIn φ.K (.ref φ.CS) = true
theorem under_make (c : Ctx) (a : Args) : c.A.under (.builtin "type.__call__" a) = (c.at' (c.dp + (Code.builtin "type.__call__" a).weight) (c.un + (Code.builtin "type.__call__" a).cUnits)).A := by
  show ({ handled := none, depth := c.dp + _, frames := pushEnvs (Code.builtin "type.__call__" a).envs (some (c.fenv :: c.outer)), guards := pushGuards (Code.builtin "type.__call__" a).guards c.gd, units := c.un + _ } : Around) = _
  rfl
theorem snd_newSym {sc : Scope} {ns : List Str} {p q : Pos} {x : Str} (ci : SymIs φ tb.init) (sC : SoundC φ n cl) (g : GlIs φ sc x (.ref φ.CS)) : SoundE φ tb n cl sc ns (.Call (.Name x q) [] [] p) .newSym := by
  intro c env mf m ρ α T Λ s Q X _ ec st ha
  simp only [q0, q1, q2, q3, q4, q5, q6, q7, q8, q9, q10, q11, q12, q13, q14, q15, q16, q17, q18, q19, q20, q21, q22, q23, q24, q25, q26, q27, q28, q29, q30, q31, q32, q33, q34, q35, q36, q37, q38, q39, q40, q41, q42] at ha
  have KI : φ.K.In s.heap := by
    obtain ⟨M, S⟩ := st
    exact ec.ok.inK.keeps S.fr.keep
  refine PyProof.Rows.Call_Name rfl (ec.global st g (callWith_K0 KI ci.keep ?_))
  obtain ⟨M, S⟩ := id st
  refine call_cls S.fr ec.ok.inK S.nw ci.make ci.init ci.fn fun x dx h' F' N' hlt hdx => ?_
  have nx : ∀ p ∈ M ++ T, p.1 ≠ x ∧ p.1 ≠ dx := fun p hp => ⟨Nat.ne_of_lt (Nat.lt_trans (hlt p hp) hdx), Nat.ne_of_lt (hlt p hp)⟩
  have S' : StM φ c (α ++ [[x, dx]]) T (M ++ [(x, instObj φ.CS dx), (dx, dictOf [] 0)]) (Λ ++ [.inst []]) mf h' := by
    refine S.cell F' N' rfl (by simp; exact Nat.ne_of_gt hdx) (fun a ha' => ?_) (.inst (.head _) (.tail _ (.head _)) (by simp) (.nil 0))
    refine ⟨fun q => ?_, fun p hp e => ?_⟩
    · rw [← S.adr] at q
      obtain ⟨p, hp, e⟩ := List.mem_map.mp q
      have := nx p (List.mem_append_left _ hp)
      simp at ha'
      rcases ha' with h | h <;> simp_all
    · have := nx p (List.mem_append_right _ hp)
      simp at ha'
      rcases ha' with h | h <;> simp_all
  have hx : (α ++ [[x, dx]])[Λ.length]? = some (x :: [dx]) := by
    rw [← S.len, List.getElem?_append_right (Nat.le_refl _)]
    simp
  rw [under_make]
  have hw : (Code.builtin "type.__call__" ⟨.ref φ.CS :: [], []⟩).weight = 1 := by rfl
  have hu : (Code.builtin "type.__call__" ⟨.ref φ.CS :: [], []⟩).cUnits = 1 := by rfl
  refine codeAny_mono (sC (c := c.at' (c.dp + (Code.builtin "type.__call__" ⟨.ref φ.CS :: [], []⟩).weight) (c.un + (Code.builtin "type.__call__" ⟨.ref φ.CS :: [], []⟩).cUnits)) (s := { s with heap := h' }) (Q := fun v s' => v = .none ∧ Q (.ref x) s') (X := X) ec.ok.re ?_ ?_ (St.re.mp ⟨_, S'⟩) (.cons (.ref hx) .nil) ?_) fun r s' hr => ?_
  · show c.dp + _ + 5 * n + 106 < recursionLimit
    rw [hw]
    have := ec.room; omega
  · show c.un + _ + 20 * n + 83 < cLine
    rw [hu]
    have := ec.unit; omega
  · cases hr : cl tb.init [.ref Λ.length] (Λ ++ [.inst []]) with
    | ok V Λ' =>
      rw [hr] at ha
      intro v α₁ T₁ h₁ tk₁ p₁ t₁ st₁ hv
      rw [Rs.bind_ok] at ha
      unfold isNone at ha
      split at ha
      · replace hv := hv.to_dat; cases hv with
        | dat hv =>
          replace hv := DatIn'.inv hv; cases hv
          exact ⟨rfl, ha _ α₁ T₁ h₁ tk₁ ((show Pre α (α ++ [[x, dx]]) from ⟨_, rfl⟩).trans p₁) t₁ (St.re.mpr st₁) (.ref (p₁.get hx))⟩
      · exact ha.elim
    | err d => rw [hr] at ha; exact fun e h₁ tk₁ F => ha e h₁ tk₁ (Flown.re.mpr F)
    | bad => rw [hr] at ha; exact ha.elim
  · cases r with
    | ok f => cases f with
      | ret v => exact hr
      | _ => exact hr.elim
    | error e => exact hr

end
end Mine

end
section
set_option maxRecDepth 100000
set_option autoImplicit false
open PySem PySem.W PySem.Calls PyProof.Rows PyProof.V PySem.Spec
open Builtin Builtin.ObjectAttr
namespace Mine
/-! an exception of the program's own class, with an __init__ of its own -/
section
variable {prog : Program} {w : World} {A : Around} {E : Value → Shared → Prop} {h : Heap} {g : Array GenState} {d : Drawn} {t : Nat} {os : OsState}
variable {nm q : Str} {C N : Addr} {bs bm bmB : List Value} {hdct : Bool} {sn : List Str} {sub : List Value} {ab : Bool} {col : Option Bool} {dd : Option Addr} {k0 k1 k2 k3 k5 : Option Value} {B newId initId : String}
theorem type_call_initT (F : ExcBaseFacts B newId initId bmB) (T : OwnTail h bmB bm) {mN : Str → Option Value} {rest : List Value} {fI : Addr} {oI : Obj} {Q : Fin → Shared → Prop}
    (hC : h.get? C = some (excClassObj nm q C N bs bm hdct sn sub ab col dd k0 k1 k2 k3 k5 newId)) (hn : h.Ns N mN) (hi : mN "__init__" = some (.ref fI))
    (hfI : h.get? fI = some oI) (hfc : oI.cls = .type "function")
    (hq : ∀ h' e, Heap.MadeExcOf h h' e (.ref C) rest →
      wpAny (model prog w) A (call (.ref fI) (.ref e :: rest)) (fun r s' => r = .none ∧ Q (.done (.ret (.ref e))) s') E ⟨h', g, d, t, os⟩) (hrest : rest.length ≤ sizeLine) :
    wpAny (model prog w) A (Builtin.«type.__call__» ⟨.ref C :: rest, []⟩) Q E ⟨h, g, d, t, os⟩ := by
  repeat (first | with_reducible refine wpAny_loadPart_at hC ?_ | with_reducible refine wpAny_madeBy_exc hC ?_ | wp_step)
  refine codeAny_call_builtin_code (Code.quiet_builtin _ F.quiet) (wpAny_check_new_subT F T hC ?_)
  refine codeAny_exc_new_subT F T hC ?_ hrest
  show wpAny _ _ _ _ _ _
  have hC₁ := Heap.get?_push_of_some { cls := .ref C, data := .fields #[.ref h.objs.size, .none, .none, .none, .bool false, .none] }
    (Heap.get?_push_of_some { cls := .type "tuple", data := .seq rest.toArray } hC)
  have hfI₁ := Heap.get?_push_of_some { cls := .ref C, data := .fields #[.ref h.objs.size, .none, .none, .none, .bool false, .none] }
    (Heap.get?_push_of_some { cls := .type "tuple", data := .seq rest.toArray } hfI)
  have hn₁ : ((h.push { cls := .type "tuple", data := .seq rest.toArray }).push { cls := .ref C, data := .fields #[.ref h.objs.size, .none, .none, .none, .bool false, .none] }).Ns N mN :=
    let ⟨o, es, ep, e, r⟩ := hn; ⟨o, es, ep, Heap.get?_push_of_some _ (Heap.get?_push_of_some _ e), r⟩
  have hget : ((h.push { cls := .type "tuple", data := .seq rest.toArray }).push
      { cls := .ref C, data := .fields #[.ref h.objs.size, .none, .none, .none, .bool false, .none] }).get? (h.objs.size + 1) = some
      { cls := .ref C, data := .fields #[.ref h.objs.size, .none, .none, .none, .bool false, .none] } := by heap_get
  have hcC : (Value.ref C :: bm).contains (.ref C) = true := by simp
  have T₁ := T.keeps (h' := (h.push { cls := .type "tuple", data := .seq rest.toArray }).push { cls := .ref C, data := .fields #[.ref h.objs.size, .none, .none, .none, .bool false, .none] })
    fun b o e => Heap.get?_push_of_some _ (Heap.get?_push_of_some _ e)
  unfold isInstance
  repeat (first | with_reducible refine wpAny_loadPart_at hget ?_ | (with_reducible refine wpAny_isSubtype_exc hC₁ ?_; rw [hcC]) | wp_step)
  show wpAny _ _ (typeLookup (.ref C) _) _ _ _
  refine wpAny_typeLookup_tail hC₁ hn₁ T₁ F.mroIs F.init.lookup ?_
  rw [hi]
  refine wpAny_holding (wpAny_bind ?_)
  unfold bindSpecial
  refine wpAny_bind (wpAny_typeOf (T := "function") ⟨_, hfI₁, hfc⟩ ?_)
  rw [if_pos (by decide)]
  refine wpAny_pure (wpAny_bind (wpAny_mono (hq _ (h.objs.size + 1) ⟨fun b o hb => Heap.get?_push_of_some _ (Heap.get?_push_of_some _ hb), Heap.get?_none_of_le (Nat.le_succ _), h.objs.size, hget, Heap.get?_none_of_le (Nat.le_refl _), ?_⟩) (fun r s' hr => ?_) fun _ _ x => x))
  · exact Heap.get?_push_of_some _ (Heap.get?_push_at rfl rfl)
  · obtain ⟨rfl, hQ⟩ := hr
    wp_walk
    exact hQ

theorem call_initT (F : ExcBaseFacts B newId initId bmB) (T : OwnTail h bmB bm) {mN : Str → Option Value} {rest : List Value} {fI : Addr} {oI : Obj} {Q : Value → Shared → Prop}
    (hC : h.get? C = some (excClassObj nm q C N bs bm hdct sn sub ab col dd k0 k1 k2 k3 k5 newId)) (hn : h.Ns N mN) (hi : mN "__init__" = some (.ref fI))
    (hfI : h.get? fI = some oI) (hfc : oI.cls = .type "function")
    (hq : ∀ h' e, Heap.MadeExcOf h h' e (.ref C) rest →
      wpAny (model prog w) (A.under (.builtin "type.__call__" ⟨.ref C :: rest, []⟩)) (call (.ref fI) (.ref e :: rest)) (fun r s' => r = .none ∧ Q (.ref e) s') E ⟨h', g, d, t, os⟩) (hrest : rest.length ≤ sizeLine) :
    wpAny (model prog w) A (call (.ref C) rest) Q E ⟨h, g, d, t, os⟩ := by
  have f1 := tc_lookup
  have f2 := tc_bind (.ref C)
  have hT : (⟨h, g, d, t, os⟩ : Shared).TypeIs (.ref C) "type" := ⟨_, hC, rfl⟩
  refine wpAny_call (codeAny_of_tree ?_)
  show wpAny _ _ (callAny (.ref C) _) _ _ _
  repeat (any_goals (first | assumption | with_reducible refine wpAny_loadPart_at hC ?_ | wp_step))
  refine ⟨rfl, ?_⟩
  exact codeAny_call_builtin_at (Code.quiet_builtin _ (by decide +kernel)) entry_typeCall (wpAny_check_type_call_sub hC (type_call_initT (hrest := hrest) F T hC hn hi hfI hfc fun h' e hm => hq h' e hm))
end
end Mine

end
section
set_option maxRecDepth 100000
set_option autoImplicit false
open PySem PySem.W PySem.Calls PyProof.Rows PyProof.V PySem.Spec
open Builtin Builtin.ObjectAttr
namespace Mine
noncomputable abbrev bmE : List Value := [.type "Exception", .type "BaseException", .type "object"]
/-- what is known of the program's exception -/
structure ExnIs (φ : Fix) where
  keep : keepIn φ.K (.ref φ.CP) = true
  nm : Str
  q : Str
  N : Addr
  bs : List Value
  CE : Addr
  sn : List Str
  sub : List Value
  ab : Bool
  col : Option Bool
  dd : Option Addr
  k0 : Option Value
  k1 : Option Value
  k2 : Option Value
  k3 : Option Value
  k5 : Option Value
  cls : φ.K.lookup φ.CP = some (excClassObj nm q φ.CP N bs (.ref CE :: bmE) true sn sub ab col dd k0 k1 k2 k3 k5 "Exception.__new__")
  ns : nsOkIn φ.K N = true
  fI : Addr
  here : nsIn φ.K N "__init__" = some (some (.ref fI))
  tail : tailIn φ.K bmE (.ref CE :: bmE) = true
  set : findIn φ.K (.ref φ.CP) "__setattr__" = some (some (.builtin "object.__setattr__"))
  take : takerIn φ.K φ.CP "ball" = some none
  -- its __init__
  name : Str
  qual : Str
  params : Arguments
  scope : Scope
  dV : Value
  kV : Value
  doc : Value
  pm : Value
  cdv : Value
  ct : Value
  an : Option Addr
  od : Option Addr
  osl : Array (Option Value)
  p1 : Pos
  p2 : Pos
  p3 : Pos
  p4 : Pos
  fn : φ.K.lookup fI = some ⟨.type "function", od, .func (fnOf name qual params [.Assign [.Attribute (.Name "self" p1) "ball" p2] (.Name "ball" p3) p4] scope dV kV doc pm an cdv ct), osl⟩
  code : codeIn φ.K cdv qual = true
  bind : ∀ (s : Shared) (a b : Value), BindsTo s (fnOf name qual params [.Assign [.Attribute (.Name "self" p1) "ball" p2] (.Name "ball" p3) p4] scope dV kV doc pm an cdv ct) ⟨[a, b], []⟩ [("self", a), ("ball", b)]
  self : scope.names.lookup ("self" : Str) = some .local
  ball : scope.names.lookup ("ball" : Str) = some .local
  nocell : ∀ x ∈ scope.names, x.2 ≠ .cell
  kind : scope.kind = .function
  co : scope.isCoroutine = false
  gen : scope.isGenerator = false

section
variable {φ : Fix} {A : Around} {E : Value → Shared → Prop} {s : Shared} {R : Result → Shared → Prop}
noncomputable abbrev exc0 (CP t : Addr) : Obj := { cls := .ref CP, data := .fields #[.ref t, .none, .none, .none, .bool false, .none] }
theorem osa_exn (xi : ExnIs φ) (X : φ.K.In s.heap) {e t : Addr} (he : s.heap.get? e = some (exc0 φ.CP t)) {tk : Tok} {v : Value}
    (h : ∀ h' k, h'.get? e = some (excObj φ.CP t s.heap.objs.size) → h'.get? s.heap.objs.size = some (dictOf [⟨PyData.keyHash φ.w.params "ball", .str "ball" k, v⟩] 1) → (∀ b o, b ≠ e → s.heap.get? b = some o → h'.get? b = some o) →
      R (.ok (.ret .none)) { s with heap := h', toks := s.toks + 1 }) :
    codeAny (model φ.prog φ.w) A (.call (.builtin "object.__setattr__") ⟨[.ref e, .str "ball" tk, v], []⟩) R s := by
  have SF := PySem.F.store_Exception
  obtain ⟨cd, hc, hmro, hdict⟩ : ∃ cd, clsIn φ.K φ.CP = some cd ∧ cd.mro = .ref φ.CP :: .ref xi.CE :: bmE ∧ cd.hasDict = true := ⟨_, by unfold clsIn; rw [xi.cls], rfl, rfl⟩
  have L1 : Looks (model φ.prog φ.w) s.heap (typeOf (.ref e)) (.ref φ.CP) := (Looks.ld he).andThen .now
  have sub : Looks (model φ.prog φ.w) s.heap (isInstance (.ref e) (.type "object")) true := L1.andThen (looks_mroIn X (by unfold mroIn; rw [hc, Option.bind_some, hmro]; rfl))
  refine codeAny_call_builtin SF.slot.plain SF.entry (@check_slot (model φ.prog φ.w) _ _ s "object.__setattr__" "object" "__setattr__" (.ref e) [.str "ball" tk, v] [] _ SF.kind SF.split sub (SF.args (.ref e) (.str "ball" tk) v) ?_)
  obtain ⟨attr, ha, hr⟩ := Option.bind_eq_some_iff.mp xi.take
  have hm : Looks (model φ.prog φ.w) s.heap (mroOf (.ref φ.CP)) cd.mro := (looks_clsIn X hc).andThen .now
  have L3 : Looks (model φ.prog φ.w) s.heap (storeTaker? attr) none := by
    cases attr with
    | none => exact .now
    | some a =>
      obtain ⟨b, hb, hb2⟩ := Option.map_eq_some_iff.mp hr
      refine (looks_takesIn X hb).andThen ?_
      cases b
      · exact .now
      · cases hb2
  rw [osa_eq, refuse_eq]
  refine wpAny_bind (wpAny_bind (L1.here (wpAny_bind (hm.here ?_))))
  rw [hmro, refuseLoop_ref, refuseLoop_ref, SF.passes]
  refine wpAny_pure (wpAny_bind (L1.here (wpAny_bind ((looks_findIn X ha).here (wpAny_bind (L3.here ?_))))))
  dsimp only
  have hx₁ : (s.heap.push { cls := .type "dict", data := .dict #[] }).get? e = some (exc0 φ.CP t) := Heap.get?_push_of_some _ he
  have hes : e ≠ s.heap.objs.size := Nat.ne_of_lt (Heap.lt_size he)
  refine wpAny_bind (wpAny_pure (wpAny_bind (wpAny_bind (wpAny_loadPart he (wpAny_bind ((looks_clsIn X hc).here ?_))))))
  rw [hdict]
  refine wpAny_bind (wpAny_alloc (wpAny_bind (wpAny_update hx₁ ?_)))
  have D : ((s.heap.push { cls := .type "dict", data := .dict #[] }).update e fun o => { o with dict := some s.heap.objs.size }).get? s.heap.objs.size = some (dictOf [] 0) :=
    (Heap.get?_update_ne _ _ _ _ hes.symm).trans (Heap.get?_push_at rfl rfl)
  have D1 : ((s.heap.push { cls := .type "dict", data := .dict #[] }).update e fun o => { o with dict := some s.heap.objs.size }).get? e = some (excObj φ.CP t s.heap.objs.size) := Heap.get?_update_self _ hx₁ rfl
  refine wpAny_pure (a := some s.heap.objs.size) (wpAny_bind (wpAny_pure (wpAny_bind ?_)))
  unfold nsSet
  refine wpAny_bind (wpAny_bind (wpAny_askSetting (wpAny_pure (wpAny_bind (wpAny_mkText (wpAny_bind (wpAny_loadPart D ?_)))))))
  dsimp only
  rw [aRefKeyMayBeTheName_at]
  have c : (!([] : List DictEntry).toArray.any (fun x => x.key.isStr ("ball" : Str)) && ([] : List DictEntry).toArray.any (fun x => x.refKey)) = false := by simp
  rw [c]
  refine wpAny_updatePart D ?_
  have D2 := Heap.get?_update_self (Obj.putName "ball" (PyData.keyHash φ.w.params "ball") (.str "ball" s.toks) v) D (by rw [putName_dict]; rfl)
  rw [putName_dict] at D2
  refine wpAny_bind (wpAny_lookBehind D2 (pastItsLine_dict (by show ([⟨_, _, _⟩] : List DictEntry).toArray.size ≤ sizeLine + 1; rw [sizeLine_eq]; simp)) ?_)
  refine wpAny_pure (h _ s.toks ?_ D2 fun b o hb ho => ?_)
  · exact (Heap.get?_update_other _ _ hes.symm).trans D1
  · have hbd : b ≠ s.heap.objs.size := Nat.ne_of_lt (Heap.lt_size ho)
    exact (Heap.get?_update_other _ _ hbd.symm).trans ((Heap.get?_update_ne _ _ _ _ hb).trans (Heap.get?_push_of_some _ ho))
end
end Mine

end
section
set_option maxRecDepth 100000
set_option autoImplicit false
open PySem PySem.W PySem.Calls PyProof.Rows PyProof.V PySem.Spec
namespace Mine
theorem ns_some_of {K : Frag} {h : Heap} {N : Addr} {mg : Str → Option Value} {n : Str} {v : Value} (X : K.In h) (G : h.Ns N mg) (e : nsIn K N n = some (some v)) : mg n = some v := by
  obtain ⟨o, es, ep, ho, hd, _, hf⟩ := G
  unfold nsIn at e
  split at e
  · rename_i c d es' n' sl q
    have := X _ _ q
    rw [ho] at this
    cases this
    cases hd
    split at e
    · rename_i en he
      rw [← hf]
      unfold nsFind findBy
      rw [← Array.find?_toList, he]
      cases e
      rfl
    · split at e <;> cases e
  · cases e
section
variable {φ : Fix} {tb : Tabs} {n : Nat} {cl : Nat → List V → Hp → Rs V}
theorem exn_init (xi : ExnIs φ) {c : Ctx} {mf : Str → Option Value} {α : List (List Addr)} {T M : Led} {Λ : Hp} {s : Shared} {e t : Addr} {v : Value} {d : Dat} {Q : Value → Shared → Prop} {X : Value → Shared → Prop}
    (ok : c.Ok φ) (room : c.dp < recursionLimit) (S₀ : StM φ c α ((t, { cls := .type "tuple", data := .seq [v].toArray }) :: T) M Λ mf s.heap) (he₀ : s.heap.get? e = some (exc0 φ.CP t)) (ae : Aside c α e) (hT : ∀ p ∈ T, p.1 ≠ e) (hd : DatIn T v d)
    (ha : After φ c α T mf s Q X (.ok (.exn d) Λ)) :
    codeAny (model φ.prog φ.w) c.A (.call (.ref xi.fI) ⟨[.ref e, v], []⟩) (fun r s' => match r with | .ok (.ret r) => r = .none ∧ Q (.ref e) s' | .ok _ => False | .error x => X x s') s := by
  have S := S₀.lay he₀ ae
  have KX := ok.inK.keeps S.fr.keep
  refine callX_plain (cl := []) ok.below S.fr S.nw (Top.nolimit ok.top) rfl ok.frame ok.kind (KX _ _ xi.fn) rfl (codeRec_of KX xi.code) room (xi.bind s (.ref e) v) (fun y hy => ?_) (fun g L' h₁ FG F' N' B' st hlt => ?_) xi.nocell xi.co xi.gen xi.kind
  · simp at hy
    rcases hy with rfl | rfl
    · exact xi.self
    · exact xi.ball
  · have KX' : φ.K.In h₁ := (ok.inK.keeps st).keeps F'.keep
    have he : h₁.get? e = some (exc0 φ.CP t) := (N' _ (List.mem_append_right _ (.head _))).1
    refine wpAny_execs_cons (plainObj_wpAny_Assign_Attribute (nameX_L F' (v := v) rfl (nameX_L F' (v := .ref e) rfl ?_ xi.kind xi.self (by decide)) xi.kind xi.ball (by decide)))
    refine set_plain (od := none) KX' ⟨he, rfl, rfl, trivial⟩ xi.set (osa_exn xi KX' he fun h₂ k h1 h2 h3 => wpAny_execs_nil ?_)
    dsimp only at h1 h2 h3
    have hnew : h₁.get? h₁.objs.size = none := Heap.get?_none_of_le (Nat.le_refl _)
    have hge : g.get? e = none := (N' _ (List.mem_append_right _ (.head _))).2.2
    have hLe : L' ≠ e := (N' _ (List.mem_append_right _ (.head _))).2.1.symm
    obtain ⟨oL, esL, epL, hL, hLr⟩ := F'.ns
    have F'' : Fr g L' h₂ (fun y => [(("self" : Str), Value.ref e), (("ball" : Str), v)].reverse.lookup y) :=
      ⟨⟨oL, esL, epL, h3 _ _ hLe hL, hLr⟩, fun b o q => h3 _ _ (fun z => by rw [z, hge] at q; cases q) (F'.keep _ _ q), F'.above⟩
    have N'' : News g L' h₂ ((h₁.objs.size, dictOf [⟨PyData.keyHash φ.w.params "ball", .str "ball" k, v⟩] 1) :: (e, excObj φ.CP t h₁.objs.size) :: (M ++ ((t, { cls := .type "tuple", data := .seq [v].toArray }) :: T))) := by
      intro p hp
      rcases List.mem_cons.mp hp with rfl | hp
      · refine ⟨h2, fun q => ?_, ?_⟩
        · exact Nat.ne_of_gt (Heap.lt_size hL) q
        · cases q : g.get? h₁.objs.size with
          | none => rfl
          | some o => have := F'.keep _ _ q; rw [hnew] at this; cases this
      · rcases List.mem_cons.mp hp with rfl | hp
        · exact ⟨h1, hLe.symm, hge⟩
        · have hin : p ∈ M ++ ((e, exc0 φ.CP t) :: (t, { cls := .type "tuple", data := .seq [v].toArray }) :: T) := by
            rcases List.mem_append.mp hp with hm | hm
            · exact List.mem_append_left _ hm
            · exact List.mem_append_right _ (.tail _ hm)
          have hN := N' p hin
          refine ⟨h3 _ _ (fun q => ?_) hN.1, hN.2⟩
          rcases List.mem_append.mp hp with hm | hm
          · exact ae.cell (q ▸ S₀.inM hm)
          · rcases List.mem_cons.mp hm with rfl | hm
            · have := hN.1
              dsimp only at q this
              rw [q, he] at this
              cases this
            · exact hT _ hm q
    refine leaveK_ F'' N'' fun F₀ N₀ => ⟨rfl, ?_⟩
    refine ha (.ref e) α ((h₁.objs.size, dictOf [⟨PyData.keyHash φ.w.params "ball", .str "ball" k, v⟩] 1) :: (e, excObj φ.CP t h₁.objs.size) :: (t, { cls := .type "tuple", data := .seq [v].toArray }) :: T) h₂ _ (.refl _)
      (fun p hp => .tail _ (.tail _ (.tail _ hp))) ⟨M, F₀, newsSub N₀ fun p hp => ?_, S₀.adr, fun i r cell hr hc => (S₀.cells i r cell hr hc).mono (.refl _) (fun p hp => .tail _ (.tail _ hp)) fun _ q _ => q, S₀.len, S₀.nd, fun p hp => ?_⟩
      (.exn ⟨h₁.objs.size, t, v, _, _, .tail _ (.head _), .head _, rfl, hd.mono fun p hp => .tail _ (.tail _ (.tail _ hp))⟩)
    · rcases List.mem_append.mp hp with hm | hm
      · exact .tail _ (.tail _ (List.mem_append_left _ hm))
      · rcases List.mem_cons.mp hm with rfl | hm
        · exact .head _
        · rcases List.mem_cons.mp hm with rfl | hm
          · exact .tail _ (.head _)
          · exact .tail _ (.tail _ (List.mem_append_right _ hm))
    · rcases List.mem_cons.mp hp with rfl | hp
      · intro q
        rw [← S₀.adr] at q
        obtain ⟨p, hp, e'⟩ := List.mem_map.mp q
        exact absurd (Heap.lt_size (N' p (List.mem_append_left _ hp)).1) (by rw [e']; exact Nat.lt_irrefl _)
      · rcases List.mem_cons.mp hp with rfl | hp
        · exact ae.cell
        · exact S₀.ap p hp

theorem snd_exn (xi : ExnIs φ) {sc : Scope} {ns : List Str} {p q : Pos} {x : Str} {pa : Expr} {a : E} (sa : SoundE φ tb n cl sc ns pa a) (g : GlIs φ sc x (.ref φ.CP)) (ta : TrE φ sc ns pa a) :
    SoundE φ tb n cl sc ns (.Call (.Name x q) [pa] [] p) (.exn a) := by
  intro c env mf m ρ α T Λ s Q X _ ec st ha
  simp only [q0, q1, q2, q3, q4, q5, q6, q7, q8, q9, q10, q11, q12, q13, q14, q15, q16, q17, q18, q19, q20, q21, q22, q23, q24, q25, q26, q27, q28, q29, q30, q31, q32, q33, q34, q35, q36, q37, q38, q39, q40, q41, q42] at ha
  refine PyProof.Rows.Call_Name rfl (ec.global st g (callWith_K ec.ok.inK xi.keep ?_ (tr_star ta env []) rfl))
  rw [tr_star ta, backTo_cons]
  refine spliced_cons (one sa ta ec st ha fun x Λ₁ v α₁ T₁ h₁ tk₁ p₁ t₁ st₁ hv ec₁ ha₁ => spliced_nil ?_)
  obtain ⟨M, S⟩ := id st₁
  have KX := ec₁.ok.inK.keeps S.fr.keep
  refine ⟨KX, ?_⟩
  unfold vExn at ha₁
  split at ha₁
  · rename_i d
    replace hv := hv.to_dat; cases hv with
    | dat hd =>
      have hn : h₁.Ns xi.N _ := .of_isNs (isNs_of_in KX xi.ns)
      refine call_initT PySem.F.excBase_Exception (tail_of_in KX xi.tail) (KX _ _ xi.cls) hn (ns_some_of KX hn xi.here) (KX _ _ xi.fn) rfl (fun h' e hm => ?_) (by show ([] ++ [v] : List Value).length ≤ sizeLine; rw [sizeLine_eq]; simp)
      obtain ⟨t, he, htn, ht⟩ := hm.there
      rw [under_make]
      have fresh : ∀ {b : Addr}, h₁.get? b = none → (∃ o, h'.get? b = some o) → Aside c α₁ b ∧ ∀ p ∈ T₁, p.1 ≠ b := by
        intro b hb hb'
        refine ⟨⟨fun q => ?_, ?_, fun q => ?_⟩, fun p hp q => ?_⟩
        · obtain ⟨oL, _, _, hL, _⟩ := S.fr.ns
          rw [q, hL] at hb; cases hb
        · cases q : c.h₀.get? b with
          | none => rfl
          | some o => rw [S.fr.keep _ _ q] at hb; cases hb
        · rw [← S.adr] at q
          obtain ⟨p, hp, rfl⟩ := List.mem_map.mp q
          rw [S.getM hp] at hb; cases hb
        · rw [← q, S.getT hp] at hb; cases hb
      obtain ⟨ae, eT⟩ := fresh hm.new ⟨_, he⟩
      obtain ⟨at', tT⟩ := fresh htn ⟨_, ht⟩
      have S' := (S.step hm.keeps).lay ht at'
      refine wpAny_call (exn_init (c := c.at' _ _) (s := { s with heap := h', toks := tk₁ }) (Q := Q) (X := X) xi ec₁.ok.re ?_ (T := T₁) (M := M) (Λ := Λ₁) (α := α₁) (mf := mf) (t := t) (d := d) ⟨S'.fr, S'.nw, S'.adr, S'.cells, S'.len, S'.nd, S'.ap⟩ he ⟨ae.loc, ae.new, ae.cell⟩ eT hd ?_)
      · have hw : (Code.builtin "type.__call__" ⟨.ref φ.CP :: ([] ++ [v]), []⟩).weight = 1 := by rfl
        show c.dp + _ < recursionLimit
        rw [hw]
        have := ec₁.room; omega
      · exact fun v' α' T' h₂ tk p t st' hv' => ha₁ v' α' T' h₂ tk p t (St.re.mpr st') hv'
  · exact ha₁.elim
end
end Mine

end
section
set_option maxRecDepth 100000
set_option autoImplicit false
open PySem PySem.W PySem.Calls PyProof.Rows PyProof.V PySem.Spec
namespace Mine
/-! comprehensions -/
theorem closure_of {env : PySem.Env} {scope : Scope} (hf : ∀ y ∈ scope.names, y.2 = .free → ∃ a, env.cells.lookup y.1 = some a) :
    ∃ cl, closureFor scope env = pure cl ∧ ∀ z a, (∃ y ∈ scope.names, y.1 = z ∧ y.2 = .free) → env.cells.lookup z = some a → cl.lookup z = some a := by
  simp only [closureFor]
  have key : ∀ (l : List (Str × NameKind)) (cs : List (Str × Addr)), (∀ y ∈ l, y.2 = .free → ∃ a, env.cells.lookup y.1 = some a) →
      ∃ cl, (forIn l cs fun (x : Str × NameKind) (r : List (Str × Addr)) => (if x.2 == .free then do let a ← cellOf env x.1; pure (ForInStep.yield ((x.1, a) :: r)) else pure (ForInStep.yield r) : Sem (ForInStep (List (Str × Addr))))) = pure cl ∧
        ∀ z a, env.cells.lookup z = some a → ((∃ y ∈ l, y.1 = z ∧ y.2 = .free) ∨ cs.lookup z = some a) → cl.lookup z = some a := by
    intro l
    induction l with
    | nil => intro cs _; exact ⟨cs, rfl, fun z a _ h => h.elim (fun ⟨_, h, _⟩ => by cases h) id⟩
    | cons y l ih =>
      intro cs h
      obtain ⟨n, k⟩ := y
      rw [List.forIn_cons]
      by_cases hk : k = .free
      · subst hk
        obtain ⟨a, ha⟩ := h _ (.head _) rfl
        obtain ⟨cl, h1, h2⟩ := ih ((n, a) :: cs) fun y hy => h y (.tail _ hy)
        refine ⟨cl, ?_, fun z b hz hh => h2 z b hz ?_⟩
        · have e : cellOf env n = pure a := by unfold cellOf; dsimp only at ha; rw [ha]
          simp only [beq_self_eq_true, if_true, e]
          exact h1
        · by_cases hzn : z = n
          · subst hzn
            right
            rw [List.lookup_cons, beq_self_eq_true]
            exact ha.symm.trans hz
          · have hb : (z == n) = false := by simpa using hzn
            rcases hh with ⟨y, hy, e1, e2⟩ | hh
            · rcases List.mem_cons.mp hy with rfl | hy
              · exact absurd e1.symm hzn
              · exact .inl ⟨y, hy, e1, e2⟩
            · right; rw [List.lookup_cons, hb]; exact hh
      · obtain ⟨cl, h1, h2⟩ := ih cs fun y hy => h y (.tail _ hy)
        refine ⟨cl, ?_, fun z b hz hh => h2 z b hz ?_⟩
        · have hb : (k == NameKind.free) = false := by simpa using hk
          simp only [hb, Bool.false_eq_true, if_false]
          exact h1
        · rcases hh with ⟨y, hy, e1, e2⟩ | hh
          · rcases List.mem_cons.mp hy with rfl | hy
            · exact absurd e2 hk
            · exact .inl ⟨y, hy, e1, e2⟩
          · exact .inr hh
  obtain ⟨cl, h1, h2⟩ := key scope.names [] hf
  refine ⟨cl, ?_, fun z a hz ha => h2 z a ha (.inl hz)⟩
  exact congrArg (fun m : Sem (List (Str × Addr)) => m >>= fun s => pure s) h1
end Mine

end
section
set_option maxRecDepth 100000
set_option autoImplicit false
open PySem PySem.W PySem.Calls PyProof.Rows PyProof.V PySem.Spec
namespace Mine
theorem lookup_mem {l : List (Str × NameKind)} {x : Str} {k : NameKind} (h : l.lookup x = some k) : (x, k) ∈ l := by
  induction l with
  | nil => cases h
  | cons y l ih =>
    obtain ⟨n, q⟩ := y
    rw [List.lookup_cons] at h
    cases hb : x == n with
    | true =>
      rw [hb] at h
      cases h
      rw [beq_iff_eq.mp hb]
      exact .head _
    | false =>
      rw [hb] at h
      exact .tail _ (ih h)
theorem lookup_mapk (g : Str → NameKind → NameKind) (x : Str) (l : List (Str × NameKind)) : (l.map fun p => (p.1, g p.1 p.2)).lookup x = (l.lookup x).map (g x) := by
  induction l with
  | nil => rfl
  | cons y l ih =>
    obtain ⟨n, k⟩ := y
    rw [List.map_cons, List.lookup_cons, List.lookup_cons, ih]
    cases hb : x == n with
    | true => rw [beq_iff_eq.mp hb]; rfl
    | false => rfl
theorem lookup_relabelS (sc' sc : Scope) (x : Str) : (relabelS sc' sc).names.lookup x = (sc'.names.lookup x).map fun k => if (k == .free && sc.kind == .function && sc.names.lookup x == some .cell) then .cell else k := by
  have e : (relabelS sc' sc).names = sc'.names.map fun p => (p.1, (fun (z : Str) (k : NameKind) => if (k == .free && sc.kind == .function && sc.names.lookup z == some .cell) then NameKind.cell else k) p.1 p.2) := by
    unfold relabelS
    dsimp only
    refine List.map_congr_left fun p _ => ?_
    obtain ⟨n, k⟩ := p
    dsimp only
    split <;> rfl
  rw [e]
  exact lookup_mapk (fun (z : Str) (k : NameKind) => if (k == .free && sc.kind == .function && sc.names.lookup z == some .cell) then NameKind.cell else k) x _

section
variable {φ : Fix} {tb : Tabs} {n : Nat} {cl : Nat → List V → Hp → Rs V}
theorem EC.comp {c : Ctx} {env : PySem.Env} {sc sc' : Scope} {ns : List Str} {mf m : Str → Option Value} {ρ : Env} {α α' : List (List Addr)} {T T' : Led} {x : Str} {i : Nat} {cls : List (Str × Addr)} {C : Addr} {oC : Obj} {mC : Str → Option Value} {k : Int} {t : Tok}
    (ec : EC φ n c env sc ns mf m ρ α T) (cs : CompSc sc sc' ns x i) (hx : ns[i]? = some x) (hcl : ∀ z a, (∃ y ∈ sc'.names, y.1 = z ∧ y.2 = .free) → env.cells.lookup z = some a → cls.lookup z = some a)
    (hC : (C, oC) ∈ T') (hns : isNsObj oC mC) (hv : mC x = some (.int k t)) (p : Pre α α') (s : Sub T T') : EC φ n c (compEnvC sc' cls C env) (relabelS sc' sc) ns mf mC (ρ.set i (.dat (.int k))) α' T' where
  ok := ec.ok
  scope := by
    show relabel sc' env = _
    rw [← ec.scope]; rfl
  kind := cs.kind
  gl := ec.gl
  bi := ec.bi
  loc := .inr ⟨oC, hC, hns⟩
  slots := fun j y V hj hh hV hb => by
    have hk : ∀ z, (compEnvC sc' cls C env).kindOf z = (relabelS sc' sc).names.lookup z := fun z => by
      show (relabel sc' env).names.lookup z = _
      rw [← ec.scope]; rfl
    unfold hasVar at hh
    rw [lookup_relabelS] at hh
    cases hl : sc'.names.lookup y with
    | none => rw [hl] at hh; cases hh
    | some kd =>
      rw [hl] at hh
      cases kd with
      | «local» =>
        have := cs.only j y hj hl
        subst this
        rw [hx] at hj
        cases hj
        have hlt : j < ρ.length := by
          by_cases hq : j < ρ.length
          · exact hq
          · rw [List.getElem?_eq_none (by rw [List.length_set]; omega)] at hV; cases hV
        rw [List.getElem?_set_self hlt] at hV
        cases hV
        exact ⟨_, .dat (.int k t), .inl ⟨by rw [hk, lookup_relabelS, hl]; rfl, hv⟩⟩
      | free =>
        have hm := lookup_mem hl
        have hcell := cs.free _ hm rfl
        have hji : j ≠ i := fun q => by
          subst q
          rw [hx] at hj
          cases hj
          rw [cs.here] at hl; cases hl
        rw [List.getElem?_set_ne (Ne.symm hji)] at hV
        obtain ⟨v, hvv, h⟩ := ec.slots j y V hj (by unfold hasVar; rw [hcell]) hV hb
        have hke : env.kindOf y = some .cell := ec.kindOf hcell
        rcases h with ⟨h1, _⟩ | ⟨a, o, h1, h2, h3, h4⟩
        · rw [hke] at h1; cases h1
        · refine ⟨v, hvv.mono p s, .inr ⟨a, o, .inl ?_, hcl y a ⟨_, hm, rfl, rfl⟩ h2, s _ h3, h4⟩⟩
          rw [hk, lookup_relabelS, hl]
          have hsk : sc.kind = .function := cs.sck
          simp [hsk, hcell]
      | cell => exact absurd rfl (cs.nocell _ (lookup_mem hl))
      | _ => simp at hh
  cells := fun y hy => by
    have hk : (compEnvC sc' cls C env).kindOf y = (relabelS sc' sc).names.lookup y := by
      show (relabel sc' env).names.lookup y = _
      rw [← ec.scope]; rfl
    rw [hk, lookup_relabelS] at hy
    cases hl : sc'.names.lookup y with
    | none => rw [hl] at hy; cases hy
    | some kd =>
      have hm := lookup_mem hl
      by_cases hf : kd = .free
      · subst hf
        have hcell := cs.free _ hm rfl
        obtain ⟨a, ha⟩ := ec.cells y (ec.kindOf hcell)
        exact ⟨a, hcl y a ⟨_, hm, rfl, rfl⟩ ha⟩
      · rw [hl] at hy
        have : (kd == NameKind.free) = false := by simpa using hf
        simp only [Option.map_some, this, Bool.false_and, Bool.false_eq_true, if_false] at hy
        cases hy
        exact absurd rfl (cs.nocell _ hm)
  room := ec.room
  unit := ec.unit

noncomputable def AfterU (φ : Fix) (c : Ctx) (α : List (List Addr)) (T : Led) (mf : Str → Option Value) (s : Shared) (K : Shared → Prop) : Rs Unit → Prop
  | .ok _ Λ => ∀ α' T' h' tk, Pre α α' → Sub T T' → St φ c α' T' Λ mf h' → K { s with heap := h', toks := tk }
  | _ => False
theorem append_call {c : Ctx} {mf : Str → Option Value} {α : List (List Addr)} {T : Led} {Λ : Hp} {s : Shared} {j : Nat} {a : Addr} {r : List Addr} {w : Value} {y : V} {K : Shared → Prop} {X : Value → Shared → Prop} {A : Around}
    (st : St φ c α T Λ mf s.heap) (hr : α[j]? = some (a :: r)) (hw : VIn φ α T w y) (ha : AfterU φ c α T mf s K (addTo j y Λ)) : wpAny (model φ.prog φ.w) A (call (.builtin "list.append") [.ref a, w]) (fun _ s' => K s') X s := by
  obtain ⟨M, S⟩ := id st
  unfold addTo vAppend at ha
  split at ha
  · rename_i n2 d heq
    cases heq
    split at ha
    · rename_i l hl
      split at ha
      · rename_i hlen
        cases (S.at hr hl).to_dl with
        | @dl _ vs k _ hm hd =>
          replace hw := hw.to_dat; cases hw with
          | dat hw =>
            have hlv := hd.length
            refine wpAny_list_append_plain ⟨_, S.getM hm⟩ (fun h' hp hs => ?_) (by rw [List.size_toArray, sizeLine_eq]; omega)
            obtain ⟨k', hk'⟩ := hp
            have hN := S.nw _ (List.mem_append_left _ hm)
            have e : vs.toArray.push w = (vs ++ [w]).toArray := by simp
            rw [e] at hk'
            exact ha α T h' _ (.refl _) (.refl _) ⟨_, S.change (o' := listOf (vs ++ [w]).toArray k') hr (.head _) hm (S.fr.change hs hN.2.1 hN.2.2) (S.nw.replace hs hk') (.dl (swapAt_here hm) (hd.append (.one hw)))⟩
      · exact ha.elim
    · exact ha.elim
  · exact ha.elim

/-- range(n), and its iterator -/
noncomputable abbrev rngObj (a left : Int) : Obj := { cls := .type "range_iterator", data := .fields #[rawInt a, rawInt left, rawInt 1] }
theorem range_iter {b : E} {pb : Expr} {sc : Scope} {ns : List Str} (sb : SoundE φ tb n cl sc ns pb b) {y : Str} {q r : Pos} {c : Ctx} {env : PySem.Env} {mf m : Str → Option Value} {ρ : Env} {α : List (List Addr)} {T : Led} {Λ : Hp} {s : Shared} {Q X : Value → Shared → Prop}
    {Q' : Value → Shared → Prop} {f : Nat → Hp → Rs V} (g : BiIs φ sc y (.type "range")) (tb' : TrE φ sc ns pb b) (ec : EC φ n c env sc ns mf m ρ α T) (st : St φ c α T Λ mf s.heap)
    (ha : After φ c α T mf s Q X ((evE tb cl ρ b Λ).bind fun v Λ => (lift (rangeOf v) Λ).bind f))
    (k : ∀ (N : Nat) Λ I α' T' h' tk, N ≤ 1000000 → Pre α α' → Sub T T' → St φ c α' T' Λ mf h' → IsRangeIter h' I 0 N 1 → Aside c α' I → (∀ p ∈ T', p.1 ≠ I) → After φ c α T mf s Q X (f N Λ) → Q' (.ref I) { s with heap := h', toks := tk }) :
    wpAny (model φ.prog φ.w) c.A (eval (.Call (.Name y q) [pb] [] r) env) (fun xv s₁ => wpAny (model φ.prog φ.w) c.A (pyIter xv) Q' X s₁) X s := by
  refine PySem.Call_name1 (tr_star tb' env []) (ec.builtin st g (PySem.callWith_type1 ?_))
  refine sb tb' ec st (ha.first fun x Λ₁ v α₁ T₁ h₁ tk₁ he p₁ t₁ st₁ hv ha₁ => ?_)
  clear he
  unfold rangeOf at ha₁
  split at ha₁
  · rename_i i
    split at ha₁
    · rename_i hi
      replace hv := hv.to_dat; cases hv with
      | dat hv =>
        replace hv := DatIn'.inv hv; cases hv
        refine call_range_1 (wpAny_pyIter_range (IsRange.new _ _ _ _ _ _ _) (small_one (by omega) (by omega) (by omega) (by omega)) ?_)
        obtain ⟨M, S⟩ := st₁
        dsimp only
        generalize hH : h₁.push { cls := .type "range", data := .fields #[.int 0 tk₁, .int i _, .int 1 (tk₁ + 1)] } = H
        have S₁ : StM φ c α₁ T₁ M Λ₁ mf H := S.step fun b o e => by rw [← hH]; exact Heap.get?_push_of_some _ e
        have hsz : Builtin.Range.rangeSize 0 i 1 = ((i.toNat : Nat) : Int) := by
          rw [rangeSize_one]; split <;> omega
        rw [hsz]
        have S₂ : StM φ c α₁ T₁ M Λ₁ mf (H.push { cls := .type "range_iterator", data := .fields #[rawInt 0, rawInt ((i.toNat : Nat) : Int), rawInt 1] }) := S₁.step fun b o e => Heap.get?_push_of_some _ e
        exact k i.toNat Λ₁ _ α₁ T₁ _ _ (by omega) p₁ t₁ ⟨M, S₂⟩ (Heap.get?_push_size _ rfl) (S₁.aside (Nat.le_refl _)) (fun p hp e => Nat.lt_irrefl _ (e ▸ Heap.lt_size (S₁.getT hp))) ha₁
    · exact ha₁.elim
  · exact ha₁.elim
end
end Mine

end
section
set_option maxRecDepth 100000
set_option autoImplicit false
open PySem PySem.W PySem.Calls PyProof.Rows PyProof.V PySem.Spec
namespace Mine
section
variable {φ : Fix} {c : Ctx} {α : List (List Addr)} {T M : Led} {Λ : Hp} {mf : Str → Option Value} {h : Heap} {as : List Addr}
theorem dropL_none (hn : ∀ p ∈ T, p.1 ∉ as) : dropL as T = T := by
  unfold dropL
  exact List.filter_eq_self.mpr fun p hp => by simpa using hn p hp
theorem StM.keepBut (S : StM φ c α T M Λ mf h) {h' : Heap} (ha : ∀ a ∈ as, Aside c α a) (hn : ∀ p ∈ T, p.1 ∉ as) (k : ∀ b o, b ∉ as → h.get? b = some o → h'.get? b = some o) : StM φ c α T M Λ mf h' := by
  have := S.drop (as := as) (fun p hp q => absurd q (hn p hp)) ha k
  rwa [dropL_none hn] at this
theorem inert_ns {a : Addr} {o : Obj} {m : Str → Option Value} (hn : h.Ns a m) (ho : h.get? a = some o) (hb : m "ball" = none) : Inert φ o := by
  obtain ⟨o', es, ep, ho', hd, hk, hf⟩ := hn
  rw [ho] at ho'
  cases ho'
  refine ⟨fun vs k e => (by rw [hd] at e; cases e), fun t dd e => (by subst e; cases hd), fun es' n v e => ?_⟩
  subst e
  cases hd
  intro q
  have := hf "ball"
  rw [hb] at this
  unfold nsFind findBy at this
  unfold getL at q
  rw [← Array.find?_toList] at this
  split at q
  · rename_i en he
    rw [he] at this
    cases this
  · split at q <;> cases q
theorem isNs_of {a : Addr} {o : Obj} {m : Str → Option Value} (hn : h.Ns a m) (ho : h.get? a = some o) : isNsObj o m := by
  obtain ⟨o', es, ep, ho', hd, hk, hf⟩ := hn
  rw [ho] at ho'
  cases ho'
  exact ⟨es, ep, hd, fun h a e => ⟨o, es, ep, e, hd, hk, hf⟩⟩
end

section
variable {φ : Fix} {tb : Tabs} {n : Nat} {cl : Nat → List V → Hp → Rs V}
theorem inert_rng {φ : Fix} (a l : Int) : Inert φ (rngObj a l) := Inert.fields (c := "range_iterator") rfl rfl
structure CompInv (φ : Fix) (c : Ctx) (mf : Str → Option Value) (α₀ : List (List Addr)) (T₀ : Led) (f : Nat → Hp → Rs Unit) (N : Nat) (Λf : Hp) (I C : Addr) (k : Nat) (Λ : Hp) (α : List (List Addr)) (T : Led) (h : Heap) (mC : Str → Option Value) : Prop where
  le : k ≤ N
  p : Pre α₀ α
  s : Sub T₀ T
  st : St φ c α T Λ mf h
  it : IsRangeIter h I (0 + (k : Nat) * 1) ((N : Int) - (k : Nat)) 1
  ai : Aside c α I
  ti : ∀ p ∈ T, p.1 ≠ I
  ns : h.Ns C mC
  ball : mC "ball" = none
  ac : Aside c α C
  tc : ∀ p ∈ T, p.1 ≠ C
  rest : compLoop f (N - k) k Λ = .ok () Λf
theorem comp_core {c : Ctx} {env : PySem.Env} {sc sc' : Scope} {ns : List Str} {mf m : Str → Option Value} {ρ : Env} {α : List (List Addr)} {T : Led} {Λ Λf : Hp} {s : Shared} {x : Str} {i : Nat} {cls : List (Str × Addr)} {px p : Pos} {it a : Expr} {ifs : List Expr}
    {D C I : Addr} {N : Nat} {f : Nat → Hp → Rs Unit} {R : Result → Shared → Prop} (ec : EC φ n c env sc ns mf m ρ α T) (cs : CompSc sc sc' ns x i) (hx : ns[i]? = some x)
    (hcl : ∀ z a, (∃ y ∈ sc'.names, y.1 = z ∧ y.2 = .free) → env.cells.lookup z = some a → cls.lookup z = some a)
    (hIC : I ≠ C) (inv : CompInv φ c mf α T f N Λf I C 0 Λ α T s.heap (fun _ => none))
    (turn : ∀ (k : Nat) (Λ' Λ'' : Hp) (α' : List (List Addr)) (T' : Led) (mC : Str → Option Value) (s₂ : Shared) (K : Shared → Prop) (X : Value → Shared → Prop), f k Λ' = .ok () Λ'' → Pre α α' → EC φ n c (compEnvC sc' cls C env) (relabelS sc' sc) ns mf mC (ρ.set i (.dat (.int k))) α' T' → St φ c α' T' Λ' mf s₂.heap →
      AfterU φ c α' T' mf s₂ K (f k Λ') →
      wpAny (model φ.prog φ.w) c.A (forIn ifs true fun q r => if r = true then do let ok ← PySem.isTrue q (compEnvC sc' cls C env) (eval q (compEnvC sc' cls C env)); pure (ForInStep.yield ok) else pure (ForInStep.yield r))
        (fun ok s₃ => if ok = true then wpAny (model φ.prog φ.w) c.A (eval a (compEnvC sc' cls C env)) (fun x s₄ => wpAny (model φ.prog φ.w) c.A (call (.builtin "list.append") [.ref D, x]) (fun _ s₅ => K s₅) X s₄) X s₃ else K s₃) X s₂)
    (hR : ∀ α' T' h' tk mC, Pre α α' → Sub T T' → St φ c α' T' Λf mf h' → h'.Ns C mC → Aside c α' C → (∀ p ∈ T', p.1 ≠ C) → R (.ok .next) { s with heap := h', toks := tk }) :
    codeAny (model φ.prog φ.w) c.A (.compLoop (.ListComp a [⟨.Name x px, it, ifs, 0⟩] sc' p) 0 (.ref I) (.ref D) (compEnvC sc' cls C env)) R s := by
  refine codeAny_compLoop_tests (fun q s' => ∃ k Λ' α' T' h' tk mC, s' = { s with heap := h', toks := tk } ∧ q = N + 1 - k ∧ CompInv φ c mf α T f N Λf I C k Λ' α' T' h' mC) ?_ (N + 1) ⟨0, Λ, α, T, s.heap, s.toks, _, rfl, rfl, inv⟩
  rintro q s' ⟨k, Λ', α', T', h', tk, mC, rfl, rfl, J⟩
  obtain ⟨M, S⟩ := id J.st
  have W := Walks.range (prog := φ.prog) (w := φ.w) (A := c.A) rfl I 0 1 N
  by_cases hlt : k < N
  · refine W.item k _ _ _ hlt J.it fun v h₁ tk₁ hv hst₁ hk₁ => ?_
    obtain ⟨t, rfl⟩ := hv
    have S₁ : StM φ c α' T' M Λ' mf h₁ := S.keepBut (as := [I]) (fun a q => by rw [List.mem_singleton.mp q]; exact J.ai) (fun p hp q => J.ti p hp (List.mem_singleton.mp q)) hk₁
    have hn₁ : h₁.Ns C mC := J.ns.at' fun o e => hk₁ _ o (by simpa using hIC.symm) e
    have hkx : (compEnvC sc' cls C env).kindOf x = some .local := lookup_relabel_local cs.here
    refine wpAny_assign_Name (wpAny_storeName_local hkx hn₁ (fun h₂ hn₂ hs₂ => ?_) (by show (sc'.kind == .class || (sc'.kind == .module && _)) = false; rw [cs.kind]; rfl))
    have S₂ : StM φ c α' T' M Λ' mf h₂ := S₁.keepBut (as := [C]) (fun a q => by rw [List.mem_singleton.mp q]; exact J.ac) (fun p hp q => J.tc p hp (List.mem_singleton.mp q)) fun b o nb e => hs₂.extBut b o (fun q => nb (List.mem_singleton.mpr q)) e
    have hI₂ : h₂.get? I = some (rngObj (0 + ((k + 1 : Nat) : Int) * 1) ((N : Int) - ((k + 1 : Nat) : Int))) := hs₂.extBut _ _ hIC hst₁
    obtain ⟨oC, hoC⟩ : ∃ o, h₂.get? C = some o := by obtain ⟨o, _, _, ho, _⟩ := hn₂; exact ⟨o, ho⟩
    have hbn : (fun y => if y = x then some (Value.int (0 + (k : Nat) * 1) t) else mC y) "ball" = none := by
      have : ("ball" : Str) ≠ x := fun q => cs.ball q.symm
      simp only [this, if_false]
      exact J.ball
    have iC : Inert φ oC := inert_ns hn₂ hoC hbn
    have nC : isNsObj oC _ := isNs_of hn₂ hoC
    have S₃ := (S₂.lay hI₂ J.ai).lay hoC J.ac
    have hsub : Sub T' ((C, oC) :: (I, rngObj (0 + ((k + 1 : Nat) : Int) * 1) ((N : Int) - ((k + 1 : Nat) : Int))) :: T') := fun p hp => .tail _ (.tail _ hp)
    have ec₃ := ec.comp cs hx hcl (T' := (C, oC) :: (I, rngObj (0 + ((k + 1 : Nat) : Int) * 1) ((N : Int) - ((k + 1 : Nat) : Int))) :: T') (k := k) (t := t) (.head _) nC (by simp) J.p (J.s.trans hsub)
    have hrest := J.rest
    have hNk : N - k = (N - (k + 1)) + 1 := by omega
    rw [hNk] at hrest
    unfold compLoop at hrest
    cases hf : f k Λ' with
    | err d => rw [hf] at hrest; cases hrest
    | bad => rw [hf] at hrest; cases hrest
    | ok u Λ'' =>
      rw [hf] at hrest
      refine turn k Λ' Λ'' α' _ _ _ _ _ hf J.p ec₃ ⟨M, S₃⟩ ?_
      rw [hf]
      intro α₄ T₄ h₄ tk₄ p₄ t₄ st₄
      obtain ⟨M₄, S₄⟩ := st₄
      have mC₄ := t₄ _ (.head _)
      have mI₄ := t₄ _ (.tail _ (.head _))
      have S₅ := S₄.drop (as := [C, I]) (h' := h₄) (S₄.inert fun a q => by
        simp at q
        rcases q with rfl | rfl
        · exact ⟨_, mC₄, iC⟩
        · exact ⟨_, mI₄, inert_rng _ _⟩) (fun a q => by
        simp at q
        rcases q with rfl | rfl
        · exact S₄.asideT mC₄
        · exact S₄.asideT mI₄) (fun b o _ e => e)
      refine ⟨N + 1 - (k + 1), by omega, k + 1, Λ'', α₄, dropL [C, I] T₄, h₄, tk₄, (fun y => if y = x then some (Value.int (0 + (k : Nat) * 1) t) else mC y), rfl, rfl, ⟨hlt, J.p.trans p₄, fun p hp => ?_, ⟨M₄, S₅⟩, S₄.getT mI₄, S₄.asideT mI₄, fun p hp q => dropL_not hp (by simp [q]), ?_, hbn, S₄.asideT mC₄, fun p hp q => dropL_not hp (by simp [q]), hrest⟩⟩
      · have hp' := J.s _ hp
        exact dropL_mem (t₄ _ (hsub _ hp')) (by simpa using ⟨J.tc _ hp', J.ti _ hp'⟩)
      · obtain ⟨es, ep, hd, hh⟩ := nC
        exact hh _ _ (S₄.getT mC₄)
  · have hk : k = N := by have := J.le; omega
    subst hk
    refine W.done _ _ _ J.it fun h₁ tk₁ hk₁ => ?_
    have S₁ : StM φ c α' T' M Λ' mf h₁ := S.keepBut (as := [I]) (fun a q => by rw [List.mem_singleton.mp q]; exact J.ai) (fun p hp q => J.ti p hp (List.mem_singleton.mp q)) hk₁
    have hrest := J.rest
    rw [Nat.sub_self] at hrest
    cases hrest
    exact hR α' T' h₁ tk₁ mC J.p J.s ⟨M, S₁⟩ (J.ns.at' fun o e => hk₁ _ o (by simpa using hIC.symm) e) J.ac J.tc
end
end Mine

end
section
set_option maxRecDepth 100000
set_option autoImplicit false
open PySem PySem.W PySem.Calls PyProof.Rows PyProof.V PySem.Spec
namespace Mine
theorem compLoop_calm (f : Nat → Hp → Rs Unit) : ∀ (N k : Nat) (Λ : Hp) (d : Dat), compLoop f N k Λ ≠ .err d := by
  intro N
  induction N with
  | zero => intro k Λ d h; cases h
  | succ N ih =>
    intro k Λ d h
    unfold compLoop at h
    cases hf : f k Λ with
    | ok u Λ' => rw [hf] at h; exact ih _ _ _ h
    | err d => rw [hf] at h; cases h
    | bad => rw [hf] at h; cases h
section
variable {φ : Fix} {tb : Tabs} {n : Nat} {cl : Nat → List V → Hp → Rs V}
theorem comp_block {c : Ctx} {env : PySem.Env} {sc sc' : Scope} {ns : List Str} {mf m : Str → Option Value} {ρ : Env} {α : List (List Addr)} {T : Led} {Λ : Hp} {s : Shared} {x y : Str} {i : Nat} {px p q r : Pos} {pa pb : Expr} {b : E} {ifs : List Expr}
    {f : Hp → Nat → Hp → Rs Unit} {Q X : Value → Shared → Prop} (sb : SoundE φ tb n cl sc ns pb b) (g : BiIs φ sc y (.type "range")) (tb' : TrE φ sc ns pb b)
    (ec : EC φ n c env sc ns mf m ρ α T) (st : St φ c α T Λ mf s.heap) (cs : CompSc sc sc' ns x i) (hx : ns[i]? = some x)
    (ha : After φ c α T mf s Q X ((evE tb cl ρ b Λ).bind fun v Λ => (lift (rangeOf v) Λ).bind fun k Λ => (compLoop (f Λ) k 0 (Λ ++ [.dl []])).bind fun _ Λ' => .ok (.ref Λ.length) Λ'))
    (turn : ∀ (cls : List (Str × Addr)) (C D : Addr) (Λ : Hp) (k : Nat) (Λ' Λ'' : Hp) (α' : List (List Addr)) (T' : Led) (mC : Str → Option Value) (s₂ : Shared) (K : Shared → Prop) (X : Value → Shared → Prop), f Λ k Λ' = .ok () Λ'' → EC φ n c (compEnvC sc' cls C env) (relabelS sc' sc) ns mf mC (ρ.set i (.dat (.int k))) α' T' → St φ c α' T' Λ' mf s₂.heap → α'[Λ.length]? = some [D] →
      AfterU φ c α' T' mf s₂ K (f Λ k Λ') →
      wpAny (model φ.prog φ.w) c.A (forIn ifs true fun q r => if r = true then do let ok ← PySem.isTrue q (compEnvC sc' cls C env) (eval q (compEnvC sc' cls C env)); pure (ForInStep.yield ok) else pure (ForInStep.yield r))
        (fun ok s₃ => if ok = true then wpAny (model φ.prog φ.w) c.A (eval pa (compEnvC sc' cls C env)) (fun x s₄ => wpAny (model φ.prog φ.w) c.A (call (.builtin "list.append") [.ref D, x]) (fun _ s₅ => K s₅) X s₄) X s₃ else K s₃) X s₂) :
    wpAny (model φ.prog φ.w) c.A (eval (.ListComp pa [⟨.Name x px, .Call (.Name y q) [pb] [] r, ifs, 0⟩] sc' p) env) Q X s := by
  obtain ⟨cls, hcls, hcl⟩ := closure_of (env := env) (scope := sc') fun y hy hf => ec.cells _ (ec.kindOf (cs.free y hy hf))
  rw [eval_ListComp]
  refine wpAny_comprehension_free (use := none) rfl (fun _ => rfl) hcls cs.kind cs.names ?_
  refine range_iter sb g tb' ec st ha fun N Λ₁ I α₁ T₁ h₁ tk₁ hN p₁ t₁ st₁ hI aI tI ha₁ => ?_
  obtain ⟨M, S⟩ := id st₁
  refine wpAny_newObj_type ?_ (by show ([] : List Value).toArray.size ≤ sizeLine; rw [sizeLine_eq]; simp)
  have e2 : Fr c.h₀ c.L (h₁.push { cls := .type "list", data := .seq ([] : List Value).toArray }) mf := S.fr.push _
  have S₂ : StM φ c (α₁ ++ [[h₁.objs.size]]) T₁ (M ++ [(h₁.objs.size, { cls := .type "list", data := .seq ([] : List Value).toArray })]) (Λ₁ ++ [.dl []]) mf (h₁.push { cls := .type "list", data := .seq ([] : List Value).toArray }) := by
    refine S.cell e2 (S.nw.push S.fr { cls := .type "list", data := .seq ([] : List Value).toArray } rfl) rfl (by simp) (fun a ha' => ?_) (.dl (n := 0) (vs := []) (.head _) .nil)
    rw [List.mem_singleton.mp ha']
    exact ⟨S.fresh (Nat.le_refl _), fun p hp q => Nat.lt_irrefl _ (q ▸ Heap.lt_size (S.getT hp))⟩
  have hIl : I < h₁.objs.size := Heap.lt_size hI
  have hID : I ∉ (α₁ ++ [[h₁.objs.size]]).flatten := by
    rw [List.flatten_append]
    intro q
    rcases List.mem_append.mp q with q | q
    · exact aI.cell q
    · simp at q
      exact Nat.ne_of_lt hIl q
  refine wpAny_newFunctionEnv cs.nocell (by intro y hy; simp at hy) (fun h₃ hns hsb => ?_) cs.kind
  generalize hH : h₁.push { cls := .type "list", data := .seq ([] : List Value).toArray } = H at hns hsb S₂
  have hHs : H.objs.size = h₁.objs.size + 1 := by rw [← hH, Heap.size_push]
  have aC := S₂.aside (Nat.le_refl H.objs.size)
  have tC : ∀ p ∈ T₁, p.1 ≠ H.objs.size := fun p hp q => Nat.lt_irrefl _ (q ▸ Heap.lt_size (S₂.getT hp))
  have k₃ : ∀ b o, H.get? b = some o → h₃.get? b = some o := fun b o e => hsb.extBut b o (Nat.ne_of_lt (Heap.lt_size e)) (Heap.get?_push_of_some _ e)
  have S₃ := S₂.step k₃
  have hIC : I ≠ H.objs.size := Nat.ne_of_lt (by rw [hHs]; exact Nat.lt_succ_of_lt hIl)
  have hI₃ : IsRangeIter h₃ I 0 N 1 := k₃ _ _ (by rw [← hH]; exact Heap.get?_push_of_some _ hI)
  cases hr : compLoop (f Λ₁) N 0 (Λ₁ ++ [.dl []]) with
  | err d => exact absurd hr (compLoop_calm _ _ _ _ _)
  | bad => rw [hr] at ha₁; exact ha₁.elim
  | ok u Λf =>
    rw [hr, Rs.bind_ok] at ha₁
    have pre₂ : Pre α₁ (α₁ ++ [[h₁.objs.size]]) := ⟨_, rfl⟩
    have hD : (α₁ ++ [[h₁.objs.size]])[Λ₁.length]? = some [h₁.objs.size] := by
      rw [← S.len, List.getElem?_append_right (Nat.le_refl _)]
      simp
    have loop : codeAny (model φ.prog φ.w) c.A (.compLoop (.ListComp pa [⟨.Name x px, .Call (.Name y q) [pb] [] r, ifs, 0⟩] sc' p) 0 (.ref I) (.ref h₁.objs.size) (compEnvC sc' cls H.objs.size env))
        (compPost (model φ.prog φ.w) c.A X none Q (.ref h₁.objs.size) H.objs.size) { s with heap := h₃, toks := tk₁ + ([] : List (Str × Value)).length } := by
      refine comp_core (Λ := Λ₁ ++ [.dl []]) (Λf := Λf) (f := f Λ₁) (N := N) (α := α₁ ++ [[h₁.objs.size]]) (T := T₁) (ec.mono (p₁.trans pre₂) t₁) cs hx hcl hIC
        ⟨Nat.zero_le _, .refl _, .refl _, ⟨_, S₃⟩, by simpa using hI₃, ⟨aI.loc, aI.new, hID⟩, tI, hns, rfl, aC, tC, hr⟩
        (fun k Λ' Λ'' α' T' mC s₂ K X hf pp ec' st' hu => turn cls _ _ Λ₁ k Λ' Λ'' α' T' mC s₂ K X hf ec' st' (pp.get hD) hu)
        fun α' T' h' tk mC pp tt st' hn' ac' tc' => ?_
      refine ⟨mC, hn', fun h'' hs'' => ?_⟩
      obtain ⟨M', S'⟩ := st'
      have S'' : StM φ c α' T' M' Λf mf h'' := S'.keepBut (as := [H.objs.size]) (fun a q => by rw [List.mem_singleton.mp q]; exact ac') (fun p hp q => tc' p hp (List.mem_singleton.mp q)) fun b o nb e => hs''.extBut b o (fun q => nb (List.mem_singleton.mpr q)) e
      exact ha₁ _ α' T' h'' tk ((p₁.trans pre₂).trans pp) (t₁.trans tt) ⟨M', S''⟩ (.ref (pp.get hD))
    exact codeAny_compStart_list loop ((Walks.range (prog := φ.prog) (w := φ.w) (A := c.A) rfl I 0 1 N).self 0 _ _ _ (by simpa using hI₃) loop)
end
end Mine

end
section
set_option maxRecDepth 100000
set_option autoImplicit false
open PySem PySem.W PySem.Calls PyProof.Rows PyProof.V PySem.Spec
namespace Mine
section
variable {φ : Fix} {tb : Tabs} {n : Nat} {cl : Nat → List V → Hp → Rs V}
theorem intsD_at {T : Led} : ∀ {vs : List Value} {ds : List Dat} {is : List Int}, DatAll T vs ds → intsD ds = some is → vs.length = is.length ∧ ∀ (i : Nat) (v : Value), vs[i]? = some v → ∃ t, v = Value.int (is.getD i 0) t := by
  intro vs ds is h
  induction vs generalizing ds is with
  | nil =>
    intro e
    cases h
    cases e
    exact ⟨rfl, fun i v q => by simp at q⟩
  | cons u vs ih =>
    intro e
    cases h with
    | @cons _ _ d ds h1 h2 =>
      unfold intsD at e
      split at e
      · rename_i heq; cases heq
      · rename_i j r heq
        cases heq
        cases hq : intsD ds with
        | none => rw [hq] at e; cases e
        | some js =>
          rw [hq] at e
          cases e
          cases h1
          obtain ⟨e1, e2⟩ := ih h2 hq
          refine ⟨by simp [e1], fun i v q => ?_⟩
          cases i with
          | zero => simp at q; subst q; exact ⟨_, rfl⟩
          | succ i => simpa using e2 i v (by simpa using q)
      · cases e
theorem preSum_getD (is : List Int) : preSum (fun i => is.getD i 0) is.length = is.sum := by
  have key : ∀ k, k ≤ is.length → preSum (fun i => is.getD i 0) k = (is.take k).sum := by
    intro k
    induction k with
    | zero => intro _; rfl
    | succ k ih =>
      intro hk
      show preSum (fun i => is.getD i 0) k + is.getD k 0 = _
      rw [ih (by omega), List.take_add_one, List.sum_append, List.getElem?_eq_getElem (by omega)]
      simp [List.getD_eq_getElem?_getD, List.getElem?_eq_getElem (show k < is.length by omega)]
  rw [key _ (Nat.le_refl _), List.take_length]
theorem snd_sumOf {sc : Scope} {ns : List Str} {p q : Pos} {x : Str} {pa : Expr} {a : E} (sa : SoundE φ tb n cl sc ns pa a) (g : BiIs φ sc x (.builtin "sum")) (ta : TrE φ sc ns pa a) : SoundE φ tb n cl sc ns (.Call (.Name x q) [pa] [] p) (.sumOf a) := by
  intro c env mf m ρ α T Λ s Q X _ ec st ha
  simp only [q0, q1, q2, q3, q4, q5, q6, q7, q8, q9, q10, q11, q12, q13, q14, q15, q16, q17, q18, q19, q20, q21, q22, q23, q24, q25, q26, q27, q28, q29, q30, q31, q32, q33, q34, q35, q36, q37, q38, q39, q40, q41, q42] at ha
  refine call_bi sa g ta ec st ha fun x Λ v α₁ T₁ h₁ tk₁ p₁ t₁ st₁ hv ec₁ ha₁ => ?_
  unfold vSum at ha₁
  split at ha₁
  · rename_i nn
    split at ha₁
    · rename_i l hl
      replace hv := hv.to_ref; cases hv with
      | @ref _ ad r hr =>
        obtain ⟨M, S⟩ := id st₁
        cases (S.at hr hl).to_dl with
        | @dl _ vs k _ hm hd =>
          cases hi : intsD l with
          | none => rw [hi] at ha₁; exact ha₁.elim
          | some is =>
            rw [hi] at ha₁
            obtain ⟨e1, e2⟩ := intsD_at hd hi
            refine call_sum_walkG (wpAny_pyIter_list ⟨_, S.getM hm, rfl, _, rfl⟩ ?_)
            have hne : ad ≠ h₁.objs.size := Nat.ne_of_lt (Heap.lt_size (S.getM hm))
            refine ⟨h₁.objs.size, _, _, _, _, _, fun i => is.getD i 0, rfl, Walks.list rfl h₁.objs.size ad hne vs.toArray, ⟨⟨_, Heap.get?_push_size _ rfl, rfl, rfl⟩, ⟨_, Heap.get?_push_of_some _ (S.getM hm), rfl, _, rfl⟩⟩, fun b hb => ?_, fun i v hP => e2 i v (by simpa using hP), fun h' tk t' hk => ?_⟩
            · rw [Heap.size_push]
              simp at hb
              rcases hb with rfl | rfl
              · exact Nat.lt_succ_self _
              · exact Nat.lt_succ_of_lt (Heap.lt_size (S.getM hm))
            · have hsz : vs.toArray.size = is.length := by rw [List.size_toArray, e1]
              rw [hsz, preSum_getD]
              have S₂ : StM φ c α₁ T₁ M _ mf h' := S.step fun b o e => hk b o (by simpa using Nat.ne_of_lt (Heap.lt_size e)) (Heap.get?_push_of_some _ e)
              exact ha₁ _ α₁ T₁ h' tk (.refl _) (.refl _) ⟨M, S₂⟩ (.dat (.int _ t'))
    · exact ha₁.elim
  · exact ha₁.elim
theorem elt_append {pa : Expr} {a : E} {sc : Scope} {ns : List Str} (sa : SoundE φ tb n cl sc ns pa a) {c : Ctx} {env : PySem.Env} {mf m : Str → Option Value} {ρ : Env} {α : List (List Addr)} {T : Led} {Λ Λ'' : Hp} {s : Shared} {j : Nat} {D : Addr} {K : Shared → Prop} {X : Value → Shared → Prop}
    (ta : TrE φ sc ns pa a) (ec : EC φ n c env sc ns mf m ρ α T) (st : St φ c α T Λ mf s.heap) (hD : α[j]? = some [D]) (hok : (evE tb cl ρ a Λ).bind (addTo j) = .ok () Λ'') (hu : AfterU φ c α T mf s K ((evE tb cl ρ a Λ).bind (addTo j))) :
    wpAny (model φ.prog φ.w) c.A (eval pa env) (fun x s₄ => wpAny (model φ.prog φ.w) c.A (call (.builtin "list.append") [.ref D, x]) (fun _ s₅ => K s₅) X s₄) X s := by
  refine sa ta ec st ?_
  cases hr : evE tb cl ρ a Λ with
  | ok V Λ₁ =>
    rw [hr] at hu hok
    intro v α₁ T₁ h₁ tk₁ p₁ t₁ st₁ hv
    refine append_call st₁ (p₁.get hD) hv ?_
    rw [Rs.bind_ok] at hu hok
    rw [hok] at hu ⊢
    exact fun α₂ T₂ h₂ tk₂ p₂ t₂ st₂ => hu α₂ T₂ h₂ tk₂ (p₁.trans p₂) (t₁.trans t₂) st₂
  | err d => rw [hr] at hok; cases hok
  | bad => rw [hr] at hok; cases hok
theorem snd_lcomp {sc sc' : Scope} {ns : List Str} {p px q r : Pos} {x y : Str} {i : Nat} {pa pb : Expr} {a b : E} (sa : SoundE φ tb n cl (relabelS sc' sc) ns pa a) (sb : SoundE φ tb n cl sc ns pb b) (hx : ns[i]? = some x) (cs : CompSc sc sc' ns x i) (g : BiIs φ sc y (.type "range"))
    (ta : TrE φ (relabelS sc' sc) ns pa a) (tb' : TrE φ sc ns pb b) : SoundE φ tb n cl sc ns (.ListComp pa [⟨.Name x px, .Call (.Name y q) [pb] [] r, [], 0⟩] sc' p) (.lcomp i a b) := by
  intro c env mf m ρ α T Λ s Q X _ ec st ha
  simp only [q0, q1, q2, q3, q4, q5, q6, q7, q8, q9, q10, q11, q12, q13, q14, q15, q16, q17, q18, q19, q20, q21, q22, q23, q24, q25, q26, q27, q28, q29, q30, q31, q32, q33, q34, q35, q36, q37, q38, q39, q40, q41, q42] at ha
  refine comp_block (f := fun Λ (k : Nat) Λ' => (evE tb cl (ρ.set i (.dat (.int k))) a Λ').bind fun d Λ' => addTo Λ.length d Λ') sb g tb' ec st cs hx ha fun cls C D Λ₁ k Λ' Λ'' α' T' mC s₂ K X hf ec' st' hD hu => ?_
  refine wpAny_pure ?_
  simp only [if_true]
  exact elt_append sa ta ec' st' hD hf hu
theorem snd_lcompIf {sc sc' : Scope} {ns : List Str} {p px q r : Pos} {x y : Str} {i : Nat} {pa pb pt : Expr} {a b t : E} (sa : SoundE φ tb n cl (relabelS sc' sc) ns pa a) (stt : SoundT φ tb n cl (relabelS sc' sc) ns pt t) (sb : SoundE φ tb n cl sc ns pb b) (hx : ns[i]? = some x) (cs : CompSc sc sc' ns x i) (g : BiIs φ sc y (.type "range"))
    (ta : TrE φ (relabelS sc' sc) ns pa a) (tt : TrE φ (relabelS sc' sc) ns pt t) (tb' : TrE φ sc ns pb b) : SoundE φ tb n cl sc ns (.ListComp pa [⟨.Name x px, .Call (.Name y q) [pb] [] r, [pt], 0⟩] sc' p) (.lcompIf i a t b) := by
  intro c env mf m ρ α T Λ s Q X _ ec st ha
  simp only [q0, q1, q2, q3, q4, q5, q6, q7, q8, q9, q10, q11, q12, q13, q14, q15, q16, q17, q18, q19, q20, q21, q22, q23, q24, q25, q26, q27, q28, q29, q30, q31, q32, q33, q34, q35, q36, q37, q38, q39, q40, q41, q42] at ha
  refine comp_block (f := fun Λ (k : Nat) Λ' => (evE tb cl (ρ.set i (.dat (.int k))) t Λ').bind fun b Λ' => (lift (vTruth Λ' b) Λ').bind fun b Λ' => if b then (evE tb cl (ρ.set i (.dat (.int k))) a Λ').bind fun d Λ' => addTo Λ.length d Λ' else .ok () Λ') sb g tb' ec st cs hx ha fun cls C D Λ₁ k Λ' Λ'' α' T' mC s₂ K X hf ec' st' hD hu => ?_
  rw [List.forIn_cons]
  simp only [if_true]
  have e : ((evE tb cl (ρ.set i (.dat (.int k))) t Λ').bind fun b Λ' => (lift (vTruth Λ' b) Λ').bind fun b Λ' => if b then (evE tb cl (ρ.set i (.dat (.int k))) a Λ').bind fun d Λ' => addTo Λ₁.length d Λ' else .ok () Λ') =
      (truthOf (evE tb cl (ρ.set i (.dat (.int k))) t Λ')).bind fun b Λ' => if b then (evE tb cl (ρ.set i (.dat (.int k))) a Λ').bind fun d Λ' => addTo Λ₁.length d Λ' else .ok () Λ' := by
    simp only [truthOf, bind_assoc]
  rw [e] at hf hu
  refine wpAny_bind (wpAny_bind (stt tt ec' st' ?_))
  cases hr : truthOf (evE tb cl (ρ.set i (.dat (.int k))) t Λ') with
  | err d => rw [hr] at hf; cases hf
  | bad => rw [hr] at hf; cases hf
  | ok bb Λ₂ =>
    rw [hr, Rs.bind_ok] at hf hu
    intro α₃ T₃ h₃ tk₃ p₃ t₃ st₃
    refine wpAny_pure (wpAny_pure ?_)
    cases bb with
    | false =>
      simp only [Bool.false_eq_true, if_false] at hu ⊢
      exact hu α₃ T₃ h₃ tk₃ p₃ t₃ st₃
    | true =>
      simp only [if_true] at hu hf ⊢
      refine elt_append sa ta (ec'.mono p₃ t₃) st₃ (p₃.get hD) hf ?_
      rw [hf] at hu ⊢
      exact fun α₄ T₄ h₄ tk₄ p₄ t₄ st₄ => hu α₄ T₄ h₄ tk₄ (p₃.trans p₄) (t₃.trans t₄) st₄
end
end Mine

end
section
set_option maxRecDepth 100000
set_option autoImplicit false
set_option genInjectivity false
set_option genSizeOf false
open PySem PySem.W PySem.Calls PyProof.Rows
namespace Mine
noncomputable section
/-! the translation, checked by computing: each answer brings its proof -/
noncomputable def chk (b : Bool) : Option (PLift (b = true)) := match b with
  | true => some ⟨rfl⟩
  | false => none
noncomputable def dConst : (e : Expr) → Option {c : Const // ∃ k p, e = .Constant c k p}
  | .Constant c k p => some ⟨c, k, p, rfl⟩
  | _ => none
noncomputable def dName : (e : Expr) → Option {x : Str // ∃ p, e = .Name x p}
  | .Name x p => some ⟨x, p, rfl⟩
  | _ => none
structure Bin (e : Expr) where
  a : Expr
  o : Operator
  b : Expr
  p : Pos
  is : e = .BinOp a o b p
noncomputable def dBin : (e : Expr) → Option (Bin e)
  | .BinOp a o b p => some ⟨a, o, b, p, rfl⟩
  | _ => none
noncomputable def dNeg : (e : Expr) → Option {a : Expr // ∃ p, e = .UnaryOp .USub a p}
  | .UnaryOp .USub a p => some ⟨a, p, rfl⟩
  | _ => none
noncomputable def dNot : (e : Expr) → Option {a : Expr // ∃ p, e = .UnaryOp .Not a p}
  | .UnaryOp .Not a p => some ⟨a, p, rfl⟩
  | _ => none
structure Cm (e : Expr) where
  a : Expr
  o : CmpOp
  b : Expr
  p : Pos
  is : e = .Compare a [o] [b] p
noncomputable def one? {α : Type} : (l : List α) → Option {a : α // l = [a]}
  | [a] => some ⟨a, rfl⟩
  | _ => none
noncomputable def dCmp : (e : Expr) → Option (Cm e)
  | .Compare a os bs p => (one? os).bind fun o => (one? bs).bind fun b => some ⟨a, o.1, b.1, p, by rw [← o.2, ← b.2]⟩
  | _ => none
noncomputable def dAnd : (e : Expr) → Option {x : List Expr × Pos // e = .BoolOp .And x.1 x.2}
  | .BoolOp .And vs p => some ⟨(vs, p), rfl⟩
  | _ => none
noncomputable def dOr : (e : Expr) → Option {x : List Expr × Pos // e = .BoolOp .Or x.1 x.2}
  | .BoolOp .Or vs p => some ⟨(vs, p), rfl⟩
  | _ => none
structure Tri (e : Expr) where
  t : Expr
  a : Expr
  b : Expr
  p : Pos
  is : e = .IfExp t a b p
noncomputable def dIf : (e : Expr) → Option (Tri e)
  | .IfExp t a b p => some ⟨t, a, b, p, rfl⟩
  | _ => none
/-- a call without keywords -/
structure Cal (e : Expr) where
  f : Expr
  as : List Expr
  p : Pos
  is : e = .Call f as [] p
noncomputable def dCall : (e : Expr) → Option (Cal e)
  | .Call f as [] p => some ⟨f, as, p, rfl⟩
  | _ => none
structure Atr (e : Expr) where
  o : Expr
  x : Str
  q : Pos
  is : e = .Attribute o x q
noncomputable def dAttr : (e : Expr) → Option (Atr e)
  | .Attribute o x q => some ⟨o, x, q, rfl⟩
  | _ => none
/-- .. of a name -/
structure CalN (e : Expr) where
  x : Str
  as : List Expr
  is : ∃ q p, e = .Call (.Name x q) as [] p
noncomputable def dCallN (e : Expr) : Option (CalN e) := (dCall e).bind fun c => (dName c.f).bind fun n => some ⟨n.1, c.as, let ⟨q, h⟩ := n.2; ⟨q, c.p, h ▸ c.is⟩⟩
/-- .. of a method -/
structure CalM (e : Expr) where
  o : Expr
  x : Str
  q : Pos
  as : List Expr
  p : Pos
  is : e = .Call (.Attribute o x q) as [] p
noncomputable def dCallM (e : Expr) : Option (CalM e) := (dCall e).bind fun c => (dAttr c.f).bind fun n => some ⟨n.o, n.x, n.q, c.as, c.p, n.is ▸ c.is⟩
noncomputable def dSub : (e : Expr) → Option {x : Expr × Expr // ∃ p, e = .Subscript x.1 x.2 p}
  | .Subscript a i p => some ⟨(a, i), p, rfl⟩
  | _ => none
noncomputable def dTup : (e : Expr) → Option {as : List Expr // ∃ k p, e = .Tuple as k p}
  | .Tuple as k p => some ⟨as, k, p, rfl⟩
  | _ => none
noncomputable def dList : (e : Expr) → Option {as : List Expr // ∃ p, e = .List as p}
  | .List as p => some ⟨as, p, rfl⟩
  | _ => none
noncomputable def dDict : (e : Expr) → Option {x : List (Option Expr) × List Expr // ∃ p, e = .Dict x.1 x.2 p}
  | .Dict ks vs p => some ⟨(ks, vs), p, rfl⟩
  | _ => none
structure Cmp (e : Expr) where
  a : Expr
  x : Str
  y : Str
  b : Expr
  fs : List Expr
  sc : Scope
  is : ∃ px q r p, e = .ListComp a [⟨.Name x px, .Call (.Name y q) [b] [] r, fs, 0⟩] sc p
noncomputable def dGen : (g : Comprehension) → Option {x : Expr × Expr × List Expr // g = ⟨x.1, x.2.1, x.2.2, 0⟩}
  | ⟨t, i, fs, 0⟩ => some ⟨(t, i, fs), rfl⟩
  | _ => none
noncomputable def dLC : (e : Expr) → Option {x : Expr × List Comprehension × Scope // ∃ p, e = .ListComp x.1 x.2.1 x.2.2 p}
  | .ListComp a gs sc p => some ⟨(a, gs, sc), p, rfl⟩
  | _ => none
theorem comp_is {e a t i b : Expr} {gs : List Comprehension} {g : Comprehension} {sc : Scope} {x y : Str} {fs as : List Expr} (h : ∃ p, e = .ListComp a gs sc p) (h1 : gs = [g]) (h2 : g = ⟨t, i, fs, 0⟩) (h3 : ∃ p, t = .Name x p) (h4 : ∃ q p, i = .Call (.Name y q) as [] p) (h5 : as = [b]) :
    ∃ px q r p, e = .ListComp a [⟨.Name x px, .Call (.Name y q) [b] [] r, fs, 0⟩] sc p := by
  obtain ⟨p, rfl⟩ := h
  subst h1 h2 h5
  obtain ⟨px, rfl⟩ := h3
  obtain ⟨q, r, rfl⟩ := h4
  exact ⟨px, q, r, p, rfl⟩
noncomputable def dComp (e : Expr) : Option (Cmp e) := (dLC e).bind fun l => (one? l.1.2.1).bind fun g => (dGen g.1).bind fun x => (dName x.1.1).bind fun n => (dCallN x.1.2.1).bind fun c => (one? c.as).bind fun b =>
  some ⟨l.1.1, n.1, c.x, b.1, x.1.2.2, l.1.2.2, comp_is l.2 g.2 x.2 n.2 c.is b.2⟩

/-! constants -/
noncomputable def dStr (e : Expr) : Option {x : Str // ∃ k p, e = .Constant (.str x) k p} := (dConst e).bind fun c => match c with
  | ⟨.str x, h⟩ => some ⟨x, h⟩
  | _ => none
noncomputable def dInt (e : Expr) : Option {x : Int // ∃ k p, e = .Constant (.int x) k p} := (dConst e).bind fun c => match c with
  | ⟨.int x, h⟩ => some ⟨x, h⟩
  | _ => none
theorem cs_cons {e : Expr} {x : Str} {r : List Expr} {l : List Str} (h : ∃ k p, e = .Constant (.str x) k p) (hl : ConstStrs r l) : ConstStrs (e :: r) (x :: l) := by obtain ⟨k, p, rfl⟩ := h; exact .cons hl
theorem ks_cons {e : Expr} {x : Str} {r : List (Option Expr)} {l : List Str} (h : ∃ k p, e = .Constant (.str x) k p) (hl : KeyStrs r l) : KeyStrs (some e :: r) (x :: l) := by obtain ⟨k, p, rfl⟩ := h; exact .cons hl
theorem ci_pos {e : Expr} {x : Int} {r : List Expr} {l : List Int} (h : ∃ k p, e = .Constant (.int x) k p) (hl : ConstInts r l) : ConstInts (e :: r) (x :: l) := by obtain ⟨k, p, rfl⟩ := h; exact .pos hl
theorem ci_neg {e : Expr} {x : Int} {r : List Expr} {l : List Int} (h : ∃ k p q, e = .UnaryOp .USub (.Constant (.int x) k p) q) (hl : ConstInts r l) : ConstInts (e :: r) (-x :: l) := by obtain ⟨k, p, q, rfl⟩ := h; exact .neg hl
theorem neg_is {e a : Expr} {i : Int} (h : ∃ p, e = .UnaryOp .USub a p) (h1 : ∃ k p, a = .Constant (.int i) k p) : ∃ k p q, e = .UnaryOp .USub (.Constant (.int i) k p) q := by
  obtain ⟨q, rfl⟩ := h
  obtain ⟨k, p, rfl⟩ := h1
  exact ⟨k, p, q, rfl⟩
noncomputable def dStrs : (es : List Expr) → Option {l : List Str // ConstStrs es l}
  | [] => some ⟨[], .nil⟩
  | e :: r => (dStr e).bind fun x => (dStrs r).bind fun l => some ⟨x.1 :: l.1, cs_cons x.2 l.2⟩
noncomputable def dKeys : (es : List (Option Expr)) → Option {l : List Str // KeyStrs es l}
  | [] => some ⟨[], .nil⟩
  | some e :: r => (dStr e).bind fun x => (dKeys r).bind fun l => some ⟨x.1 :: l.1, ks_cons x.2 l.2⟩
  | none :: _ => none
noncomputable def dNegI (e : Expr) : Option {i : Int // ∃ k p q, e = .UnaryOp .USub (.Constant (.int i) k p) q} := (dNeg e).bind fun u => (dInt u.1).bind fun i =>
  some ⟨i.1, neg_is u.2 i.2⟩
noncomputable def dInts : (es : List Expr) → Option {l : List Int // ConstInts es l}
  | [] => some ⟨[], .nil⟩
  | e :: r => (dInts r).bind fun l => match dInt e with
    | some i => some ⟨i.1 :: l.1, ci_pos i.2 l.2⟩
    | none => (dNegI e).bind fun i => some ⟨-i.1 :: l.1, ci_neg i.2 l.2⟩
noncomputable def opOf : (b : Bop) → {o : Operator // BopIs o b}
  | .add => ⟨_, .add⟩ | .sub => ⟨_, .sub⟩ | .mul => ⟨_, .mul⟩ | .fdiv => ⟨_, .fdiv⟩ | .mod => ⟨_, .mod⟩ | .pow => ⟨_, .pow⟩
  | .shl => ⟨_, .shl⟩ | .shr => ⟨_, .shr⟩ | .band => ⟨_, .band⟩ | .bor => ⟨_, .bor⟩ | .bxor => ⟨_, .bxor⟩
noncomputable def cpOf : (b : Cop) → {o : CmpOp // CopIs o b}
  | .eq => ⟨_, .eq⟩ | .ne => ⟨_, .ne⟩ | .lt => ⟨_, .lt⟩ | .le => ⟨_, .le⟩ | .gt => ⟨_, .gt⟩ | .ge => ⟨_, .ge⟩
noncomputable def inOf : (b : Bool) → {o : CmpOp // InIs o b}
  | false => ⟨_, .yes⟩
  | true => ⟨_, .no⟩
end
end Mine

end
section
set_option maxRecDepth 100000
set_option autoImplicit false
set_option genInjectivity false
set_option genSizeOf false
open PySem PySem.W PySem.Calls PyProof.Rows
namespace Mine
noncomputable section
/-! names, in the known part of the heap -/
noncomputable abbrev cCS : Addr := 154
noncomputable abbrev cCP : Addr := 51
/-- where each function stands -/
noncomputable def addrL : List Nat := [60, 67, 81, 88, 95, 102, 109, 116, 123, 165, 172, 179, 186, 193, 200, 207, 214, 221, 230, 237, 244, 251, 258, 265, 272, 279, 286, 293, 300, 307, 314, 321, 328, 335, 342, 351, 358, 363, 370, 377, 384, 391, 398, 403, 410, 417]
noncomputable def addrOf (f : Nat) : Addr := (addrL[f]?).getD 0
section
variable (K : Frag)
noncomputable def ckGl (sc : Scope) (x : Str) (v : Value) : Bool := sc.names.lookup x == some .globalImplicit && nsIn K mainGlobals x == some (some v) && !(x == ("__debug__" : Str))
noncomputable def ckGlAny (sc : Scope) (x : Str) : Bool := sc.names.lookup x == some .globalImplicit && (nsIn K mainGlobals x).any Option.isSome && !(x == ("__debug__" : Str))
noncomputable def ckBi (sc : Scope) (x : Str) (v : Value) : Bool := sc.names.lookup x == some .globalImplicit && nsIn K mainGlobals x == some none && bootBuiltins x == some v && !(x == ("__name__" : Str)) && !(x == ("__debug__" : Str))
noncomputable def ckMeth (name : Str) (a : Addr) : Bool := plainGet K cCS name && findIn K (.ref cCS) name == some (some (.ref a)) && isFn K (.ref a) && keepIn K (.ref a) &&
  !(name == attName 0) && !(name == attName 1) && !(name == attName 2) && !(name == attName 3)
noncomputable def ckAtt (name : Str) (x : Att) : Bool := name == attName x.ix && plainGet K cCS name && hasDictIn K cCS && findIn K (.ref cCS) name == some none && findIn K (.ref cCS) "__setattr__" == some (some (.builtin "object.__setattr__")) && plainOver K cCS && takerIn K cCS name == some none
end
noncomputable def ckComp (sc sc' : Scope) (ns : List Str) (x : Str) (i : Nat) : Bool :=
  sc'.kind == .function && sc'.names.all (fun y => !(y.2 == .cell)) && sc'.names.all (fun y => !(y.2 == .local) || sc'.names.lookup y.1 == some .local) && sc'.names.lookup x == some .local &&
  sc'.names.all (fun y => !(y.2 == .free) || sc.names.lookup y.1 == some .cell) && decide (sc'.names.map (·.1)).Nodup && (List.range ns.length).all (fun j => j == i || !((ns[j]?).bind (fun y => sc'.names.lookup y) == some .local)) && !(x == ("ball" : Str)) && sc.kind == .function
theorem ckComp_ok {sc sc' : Scope} {ns : List Str} {x : Str} {i : Nat} (h : ckComp sc sc' ns x i = true) : CompSc sc sc' ns x i := by
  simp only [ckComp, Bool.and_eq_true, beq_iff_eq, Bool.not_eq_true', beq_eq_false_iff_ne, List.all_eq_true, Bool.or_eq_true, decide_eq_true_eq] at h
  obtain ⟨⟨⟨⟨⟨⟨⟨⟨h1, h2⟩, h3⟩, h4⟩, h5⟩, h6⟩, h7⟩, h8⟩, h9⟩ := h
  refine ⟨h1, h2, fun y hy e => (h3 y hy).resolve_left fun q => q e, h4, fun y hy e => (h5 y hy).resolve_left fun q => q e, h6, fun j y hj hl => ?_, h8, h9⟩
  refine (h7 j (List.mem_range.mpr (List.getElem?_eq_some_iff.mp hj).1)).resolve_right fun q => q ?_
  rw [hj]; exact hl
/-- what the proof leans on -/
structure Ax (φ : Fix) (tb : Tabs) (n : Nat) (cl : Nat → List V → Hp → Rs V) (K : Frag) where
  k : φ.K = K
  cs : φ.CS = cCS
  cp : φ.CP = cCP
  ad : φ.addr = addrOf
  ok : TabsOk φ tb
  sC : SoundC φ n cl
  ci : SymIs φ tb.init
  xi : ExnIs φ
section
variable {φ : Fix} {tb : Tabs} {n : Nat} {cl : Nat → List V → Hp → Rs V} {K : Frag}
theorem Ax.gl (A : Ax φ tb n cl K) {sc : Scope} {x : Str} {v : Value} (h : ckGl K sc x v = true) : GlIs φ sc x v := by
  rw [← A.k] at h
  simp only [ckGl, Bool.and_eq_true, beq_iff_eq, Bool.not_eq_true'] at h
  exact ⟨h.1.1, h.1.2, h.2⟩
theorem Ax.glAny (A : Ax φ tb n cl K) {sc : Scope} {x : Str} (h : ckGlAny K sc x = true) : ∃ v, GlIs φ sc x v := by
  rw [← A.k] at h
  simp only [ckGlAny, Bool.and_eq_true, beq_iff_eq, Bool.not_eq_true'] at h
  obtain ⟨o, ho, hs⟩ := any_some h.1.2
  obtain ⟨v, rfl⟩ := Option.isSome_iff_exists.mp hs
  exact ⟨v, h.1.1, ho, h.2⟩
theorem Ax.bi (A : Ax φ tb n cl K) {sc : Scope} {x : Str} {v : Value} (h : ckBi K sc x v = true) : BiIs φ sc x v := by
  rw [← A.k] at h
  simp only [ckBi, Bool.and_eq_true, beq_iff_eq, Bool.not_eq_true'] at h
  exact ⟨h.1.1.1.1, h.1.1.1.2, h.1.1.2, beq_eq_false_iff_ne.mp h.1.2, h.2⟩
theorem Ax.meth (A : Ax φ tb n cl K) {x : Str} {f : Nat} (h : ckMeth K x (addrOf f) = true) : MethIs φ x f := by
  rw [← A.k, ← A.ad] at h
  simp only [ckMeth, Bool.and_eq_true, beq_iff_eq, Bool.not_eq_true', beq_eq_false_iff_ne] at h
  rw [← A.cs] at h
  obtain ⟨⟨⟨⟨⟨⟨⟨h1, h2⟩, h3⟩, h4⟩, h5⟩, h6⟩, h7⟩, h8⟩ := h
  exact ⟨h1, h2, h3, h4, fun k => match k with | 0 => Ne.symm h5 | 1 => Ne.symm h6 | 2 => Ne.symm h7 | _ + 3 => Ne.symm h8⟩
theorem Ax.att (A : Ax φ tb n cl K) {name : Str} {x : Att} (h : ckAtt K name x = true) : AttIs φ name x := by
  rw [← A.k] at h
  simp only [ckAtt, Bool.and_eq_true, beq_iff_eq] at h
  rw [← A.cs] at h
  obtain ⟨⟨⟨⟨⟨⟨h1, h2⟩, h3⟩, h4⟩, h5⟩, h6⟩, h7⟩ := h
  exact ⟨h1, h2, h3, h4, h5, h6, h7⟩
theorem plainT {pe : Expr} {e : E} {sc : Scope} {ns : List Str} (se : SoundE φ tb n cl sc ns pe e) (hp : ∀ env, PySem.isTrue pe env (eval pe env) = (do let v ← eval pe env; standAt pe.pos; holding [v] (truthy v))) : SoundE φ tb n cl sc ns pe e ∧ SoundT φ tb n cl sc ns pe e :=
  ⟨se, fun t ec st ha => sndT_plain se t ec st ha (hp _)⟩
end
section
variable (K : Frag)
/-- a checked expression: its soundness -/
noncomputable def Good (sc : Scope) (ns : List Str) (pe : Expr) (e : E) : Prop := plainStar pe = true ∧ ∀ {φ : Fix} {tb : Tabs} {n : Nat} {cl : Nat → List V → Hp → Rs V}, Ax φ tb n cl K → SoundE φ tb n cl sc ns pe e ∧ SoundT φ tb n cl sc ns pe e
noncomputable def GoodEs (sc : Scope) (ns : List Str) (as : List Expr) (es : Es) : Prop := ∀ {φ : Fix} {tb : Tabs} {n : Nat} {cl : Nat → List V → Hp → Rs V}, Ax φ tb n cl K → TrEs φ sc ns as es ∧ EachS φ tb n cl sc ns as es
end
section
variable {K : Frag} {sc : Scope} {ns : List Str} {pe : Expr} {a b t i k : E} {pa pb pt pi pk : Expr} {as : List Expr} {es : Es} {x y : Str}
theorem g_none (h : ∃ k p, pe = .Constant .none k p) : Good K sc ns pe .none := by
  obtain ⟨_, _, rfl⟩ := h; exact ⟨rfl, fun _ => plainT snd_none fun _ => rfl⟩
theorem g_bool {v : Bool} (h : ∃ k p, pe = .Constant (.bool v) k p) : Good K sc ns pe (.bool v) := by
  obtain ⟨_, _, rfl⟩ := h; exact ⟨rfl, fun _ => plainT snd_bool fun _ => rfl⟩
theorem g_int {v : Int} (h : ∃ k p, pe = .Constant (.int v) k p) : Good K sc ns pe (.int v) := by
  obtain ⟨_, _, rfl⟩ := h; exact ⟨rfl, fun _ => plainT snd_int fun _ => rfl⟩
theorem g_str {v : Str} (h : ∃ k p, pe = .Constant (.str v) k p) : Good K sc ns pe (.str v) := by
  obtain ⟨_, _, rfl⟩ := h; exact ⟨rfl, fun _ => plainT snd_str fun _ => rfl⟩
theorem g_var {j : Nat} (h : ∃ p, pe = .Name x p) (c : (ns[j]? == some x && hasVar sc x && !(x == ("__debug__" : Str)) && !(x == ("__classdict__" : Str))) = true) : Good K sc ns pe (.var j) := by
  obtain ⟨_, rfl⟩ := h
  simp only [Bool.and_eq_true, beq_iff_eq, Bool.not_eq_true'] at c
  exact ⟨rfl, fun _ => plainT (snd_var c.1.1.1 c.1.1.2 c.1.2 c.2) fun _ => rfl⟩
theorem g_glob (h : ∃ p, pe = .Name x p) (c : ckGlAny K sc x = true) : Good K sc ns pe (.glob x) := by
  obtain ⟨_, rfl⟩ := h
  exact ⟨rfl, fun A => let ⟨_, g⟩ := A.glAny c; plainT (snd_glob A.ok g) fun _ => rfl⟩
theorem g_gs (h : ∃ p, pe = .Name x p) (c : ckGlAny K sc x = true) : Good K sc ns pe (.gs x) := by
  obtain ⟨_, rfl⟩ := h
  exact ⟨rfl, fun A => let ⟨_, g⟩ := A.glAny c; plainT (snd_gs A.ok g) fun _ => rfl⟩
theorem g_bin {o : Bop} {op : Operator} (ho : BopIs op o) (h : ∃ p, pe = .BinOp pa op pb p) (ga : Good K sc ns pa a) (gb : Good K sc ns pb b) : Good K sc ns pe (.bin o a b) := by
  obtain ⟨_, rfl⟩ := h; exact ⟨rfl, fun A => plainT (snd_bin (ga.2 A).1 (gb.2 A).1 ho ga.1 gb.1) fun _ => rfl⟩
theorem g_neg (h : ∃ p, pe = .UnaryOp .USub pa p) (ga : Good K sc ns pa a) : Good K sc ns pe (.neg a) := by
  obtain ⟨_, rfl⟩ := h; exact ⟨rfl, fun A => plainT (snd_neg (ga.2 A).1 ga.1) fun _ => rfl⟩
theorem g_not (h : ∃ p, pe = .UnaryOp .Not pa p) (ga : Good K sc ns pa a) : Good K sc ns pe (.not a) := by
  obtain ⟨_, rfl⟩ := h; exact ⟨rfl, fun A => ⟨snd_not (ga.2 A).1 ga.1, sndT_not (ga.2 A).2 ga.1⟩⟩
theorem g_cmp {o : Cop} {op : CmpOp} (ho : CopIs op o) (h : ∃ p, pe = .Compare pa [op] [pb] p) (ga : Good K sc ns pa a) (gb : Good K sc ns pb b) : Good K sc ns pe (.cmp o a b) := by
  obtain ⟨_, rfl⟩ := h; exact ⟨rfl, fun A => ⟨sndE_cmp (ga.2 A).1 (gb.2 A).1 ho ga.1 gb.1, sndT_cmp' (ga.2 A).1 (gb.2 A).1 ho ga.1 gb.1⟩⟩
theorem g_and {p : Pos} (ga : Good K sc ns pa a) (gb : Good K sc ns pb b) : Good K sc ns (.BoolOp .And [pa, pb] p) (.and a b) :=
  ⟨rfl, fun A => ⟨snd_and (ga.2 A).1 (gb.2 A).1 ga.1 gb.1, sndT_and (ga.2 A).2 (gb.2 A).2 ga.1 gb.1⟩⟩
theorem g_or {p : Pos} (ga : Good K sc ns pa a) (gb : Good K sc ns pb b) : Good K sc ns (.BoolOp .Or [pa, pb] p) (.or a b) :=
  ⟨rfl, fun A => ⟨snd_or_or2 (ga.2 A).1 (gb.2 A).1 ga.1 gb.1, sndT_or_or2 (ga.2 A).2 (gb.2 A).2 ga.1 gb.1⟩⟩
theorem g_orC {p : Pos} {pc : Expr} {r : List Expr} (ga : Good K sc ns pa a) (gb : Good K sc ns (.BoolOp .Or (pb :: pc :: r) p) b) : Good K sc ns (.BoolOp .Or (pa :: pb :: pc :: r) p) (.or a b) :=
  ⟨rfl, fun A => ⟨snd_or_orC (ga.2 A).1 (gb.2 A).1 ga.1 gb.1, sndT_or_orC (ga.2 A).2 (gb.2 A).2 ga.1 gb.1⟩⟩
theorem g_ite (h : ∃ p, pe = .IfExp pt pa pb p) (gt : Good K sc ns pt t) (ga : Good K sc ns pa a) (gb : Good K sc ns pb b) : Good K sc ns pe (.ite t a b) := by
  obtain ⟨_, rfl⟩ := h; exact ⟨rfl, fun A => ⟨snd_ite (gt.2 A).2 (ga.2 A).1 (gb.2 A).1 gt.1 ga.1 gb.1, sndT_ite (gt.2 A).2 (ga.2 A).2 (gb.2 A).2 gt.1 ga.1 gb.1⟩⟩
theorem g_call {f : Nat} (h : ∃ q p, pe = .Call (.Name x q) as [] p) (c : (ckGl K sc x (.ref (addrOf f)) && keepIn K (.ref (addrOf f))) = true) (gs : GoodEs K sc ns as es) : Good K sc ns pe (.call f es) := by
  obtain ⟨_, _, rfl⟩ := h
  obtain ⟨c1, c2⟩ := Bool.and_eq_true_iff.mp c
  exact ⟨rfl, fun A => plainT (snd_call A.sC (gs A).2.sound (by rw [A.ad]; exact A.gl c1) (by rw [A.ad, A.k]; exact c2) (gs A).1) fun _ => rfl⟩
theorem g_meth {f : Nat} {q p : Pos} (h : pe = .Call (.Attribute pa x q) as [] p) (c : (ckMeth K x (addrOf f) && plainBase pa && oneLine q p && decide (as.length < 9) && !as.isEmpty) = true) (ga : Good K sc ns pa a) (gs : GoodEs K sc ns as es) : Good K sc ns pe (.meth f a es) := by
  subst h
  simp only [Bool.and_eq_true, decide_eq_true_eq, Bool.not_eq_true', List.isEmpty_eq_false_iff] at c
  exact ⟨rfl, fun A => plainT (snd_meth A.sC (ga.2 A).1 (gs A).2.sound (A.meth c.1.1.1.1) c.1.1.1.2 c.1.1.2 c.1.2 ga.1 c.2 (gs A).1) fun _ => rfl⟩
theorem g_exn (h : ∃ q p, pe = .Call (.Name x q) as [] p) (e : as = [pa]) (c : ckGl K sc x (.ref cCP) = true) (ga : Good K sc ns pa a) : Good K sc ns pe (.exn a) := by
  obtain ⟨_, _, rfl⟩ := h
  subst e
  exact ⟨rfl, fun A => plainT (snd_exn A.xi (ga.2 A).1 (by rw [A.cp]; exact A.gl c) ga.1) fun _ => rfl⟩
theorem g_newSym (h : ∃ q p, pe = .Call (.Name x q) as [] p) (e : as = []) (c : ckGl K sc x (.ref cCS) = true) : Good K sc ns pe .newSym := by
  obtain ⟨_, _, rfl⟩ := h
  subst e
  exact ⟨rfl, fun A => plainT (snd_newSym A.ci A.sC (by rw [A.cs]; exact A.gl c)) fun _ => rfl⟩
theorem g_len (h : ∃ q p, pe = .Call (.Name x q) as [] p) (e : as = [pa]) (c : ckBi K sc x (.builtin "len") = true) (ga : Good K sc ns pa a) : Good K sc ns pe (.len a) := by
  obtain ⟨_, _, rfl⟩ := h
  subst e
  exact ⟨rfl, fun A => plainT (snd_len (ga.2 A).1 (A.bi c) ga.1) fun _ => rfl⟩
theorem g_abs (h : ∃ q p, pe = .Call (.Name x q) as [] p) (e : as = [pa]) (c : ckBi K sc x (.builtin "abs") = true) (ga : Good K sc ns pa a) : Good K sc ns pe (.abs a) := by
  obtain ⟨_, _, rfl⟩ := h
  subst e
  exact ⟨rfl, fun A => plainT (snd_abs (ga.2 A).1 (A.bi c) ga.1) fun _ => rfl⟩
theorem g_sumOf (h : ∃ q p, pe = .Call (.Name x q) as [] p) (e : as = [pa]) (c : ckBi K sc x (.builtin "sum") = true) (ga : Good K sc ns pa a) : Good K sc ns pe (.sumOf a) := by
  obtain ⟨_, _, rfl⟩ := h
  subst e
  exact ⟨rfl, fun A => plainT (snd_sumOf (ga.2 A).1 (A.bi c) ga.1) fun _ => rfl⟩
theorem g_tupOf (h : ∃ q p, pe = .Call (.Name x q) as [] p) (e : as = [pa]) (c : ckBi K sc x (.type "tuple") = true) (ga : Good K sc ns pa a) : Good K sc ns pe (.tupOf a) := by
  obtain ⟨_, _, rfl⟩ := h
  subst e
  exact ⟨rfl, fun A => plainT (snd_tupOf (ga.2 A).1 (A.bi c) ga.1) fun _ => rfl⟩
theorem g_isStr (h : ∃ q p, pe = .Call (.Name x q) as [] p) (e : as = [pa, pb]) (hy : ∃ p, pb = .Name y p) (c : (ckBi K sc x (.builtin "isinstance") && ckBi K sc y (.type "str")) = true) (ga : Good K sc ns pa a) : Good K sc ns pe (.isStr a) := by
  obtain ⟨_, _, rfl⟩ := h
  obtain ⟨_, rfl⟩ := hy
  subst e
  obtain ⟨c1, c2⟩ := Bool.and_eq_true_iff.mp c
  exact ⟨rfl, fun A => plainT (snd_isStr (ga.2 A).1 (A.bi c1) (A.bi c2) ga.1) fun _ => rfl⟩
theorem g_isBool (h : ∃ q p, pe = .Call (.Name x q) as [] p) (e : as = [pa, pb]) (hy : ∃ p, pb = .Name y p) (c : (ckBi K sc x (.builtin "isinstance") && ckBi K sc y (.type "bool")) = true) (ga : Good K sc ns pa a) : Good K sc ns pe (.isBool a) := by
  obtain ⟨_, _, rfl⟩ := h
  obtain ⟨_, rfl⟩ := hy
  subst e
  obtain ⟨c1, c2⟩ := Bool.and_eq_true_iff.mp c
  exact ⟨rfl, fun A => plainT (snd_isBool (ga.2 A).1 (A.bi c1) (A.bi c2) ga.1) fun _ => rfl⟩
theorem g_idx (h : ∃ p, pe = .Subscript pa pi p) (c : plainIx pi = true) (ga : Good K sc ns pa a) (gi : Good K sc ns pi i) : Good K sc ns pe (.idx a i) := by
  obtain ⟨_, rfl⟩ := h; exact ⟨rfl, fun A => plainT (snd_idx (ga.2 A).1 (gi.2 A).1 c ga.1 gi.1) fun _ => rfl⟩
theorem g_attr {q : Pos} {z : Att} (h : pe = .Attribute pa x q) (c : (ckAtt K x z && plainBase pa) = true) (ga : Good K sc ns pa a) : Good K sc ns pe (.attr a z) := by
  subst h
  obtain ⟨c1, c2⟩ := Bool.and_eq_true_iff.mp c
  exact ⟨rfl, fun A => plainT (snd_attr (ga.2 A).1 (A.att c1) c2 ga.1) fun _ => rfl⟩
theorem g_tuple (h : ∃ k p, pe = .Tuple as k p) (gs : GoodEs K sc ns as es) : Good K sc ns pe (.tuple es) := by
  obtain ⟨_, _, rfl⟩ := h; exact ⟨rfl, fun A => plainT (snd_tuple (gs A).2.sound (gs A).1) fun _ => rfl⟩
theorem g_list (h : ∃ p, pe = .List as p) (gs : GoodEs K sc ns as es) : Good K sc ns pe (.list es) := by
  obtain ⟨_, rfl⟩ := h; exact ⟨rfl, fun A => plainT (snd_list (gs A).2.sound (gs A).1) fun _ => rfl⟩
theorem g_dict0 {ks : List (Option Expr)} (h : ∃ p, pe = .Dict ks as p) (c : (ks.isEmpty && as.isEmpty) = true) : Good K sc ns pe .dict0 := by
  obtain ⟨_, rfl⟩ := h
  simp only [Bool.and_eq_true, List.isEmpty_iff] at c
  obtain ⟨rfl, rfl⟩ := c
  exact ⟨rfl, fun _ => plainT snd_dict0 fun _ => rfl⟩
theorem g_pickd {ks : List (Option Expr)} {l : List Str} (h : ∃ p, pe = .Subscript pa pk p) (h2 : ∃ p, pa = .Dict ks as p) (hk : KeyStrs ks l) (c : (decide l.Nodup && !l.isEmpty && decide (l.length ≤ 15) && decide (as.length = l.length) && plainIx pk) = true) (gs : GoodEs K sc ns as es) (gk : Good K sc ns pk k) : Good K sc ns pe (.pickd l es k) := by
  obtain ⟨_, rfl⟩ := h
  obtain ⟨_, rfl⟩ := h2
  simp only [Bool.and_eq_true, decide_eq_true_eq, Bool.not_eq_true', List.isEmpty_eq_false_iff] at c
  exact ⟨rfl, fun A => plainT (snd_pickd (gs A).2 (gk.2 A).1 hk c.1.1.1.1 c.1.1.1.2 c.1.1.2 c.1.2 c.2 (gs A).1 gk.1) fun _ => rfl⟩
theorem g_sort2 {pl : Expr} {ls : List Expr} (h : ∃ p, pe = .Subscript pl pi p) (h2 : ∃ q p, pl = .Call (.Name x q) as [] p) (e : as = [pt]) (h3 : ∃ p, pt = .List ls p) (e2 : ls = [pa, pb]) (c : (ckBi K sc x (.builtin "sorted") && plainIx pi) = true) (ga : Good K sc ns pa a) (gb : Good K sc ns pb b) (gi : Good K sc ns pi i) : Good K sc ns pe (.sort2 a b i) := by
  obtain ⟨_, rfl⟩ := h
  obtain ⟨_, _, rfl⟩ := h2
  obtain ⟨_, rfl⟩ := h3
  subst e e2
  obtain ⟨c1, c2⟩ := Bool.and_eq_true_iff.mp c
  exact ⟨rfl, fun A => plainT (snd_sort2 (ga.2 A).1 (gb.2 A).1 (gi.2 A).1 (A.bi c1) c2 ga.1 gb.1 gi.1) fun _ => rfl⟩
theorem g_menu {l : List Str} (h : ∃ p, pe = .Subscript pa pi p) (h2 : ∃ p, pa = .List as p) (hc : ConstStrs as l) (c : (decide (l.length < 1000) && plainIx pi) = true) (gi : Good K sc ns pi i) : Good K sc ns pe (.menu l i) := by
  obtain ⟨_, rfl⟩ := h
  obtain ⟨_, rfl⟩ := h2
  obtain ⟨c1, c2⟩ := Bool.and_eq_true_iff.mp c
  exact ⟨rfl, fun A => plainT (snd_menu (gi.2 A).1 hc (of_decide_eq_true c1) c2 gi.1) fun _ => rfl⟩
theorem g_inInts {l : List Int} {op : CmpOp} {v : Bool} (ho : InIs op v) (h : ∃ p, pe = .Compare pa [op] [pb] p) (h2 : ∃ p, pb = .List as p) (hc : ConstInts as l) (c : decide (l.length < 1000) = true) (ga : Good K sc ns pa a) : Good K sc ns pe (.inInts v a l) := by
  obtain ⟨_, rfl⟩ := h
  obtain ⟨_, rfl⟩ := h2
  exact ⟨rfl, fun A => ⟨snd_inInts (ga.2 A).1 ho hc (of_decide_eq_true c) ga.1, sndT_inInts (ga.2 A).1 ho hc (of_decide_eq_true c) ga.1⟩⟩
theorem g_inStrsL {l : List Str} {op : CmpOp} {v : Bool} (ho : InIs op v) (h : ∃ p, pe = .Compare pa [op] [pb] p) (h2 : ∃ p, pb = .List as p) (hc : ConstStrs as l) (c : decide (l.length < 1000) = true) (ga : Good K sc ns pa a) : Good K sc ns pe (.inStrs v a l) := by
  obtain ⟨_, rfl⟩ := h
  obtain ⟨_, rfl⟩ := h2
  exact ⟨rfl, fun A => ⟨snd_inStrs_inStrsL (ga.2 A).1 ho hc (of_decide_eq_true c) ga.1, sndT_inStrs_inStrsL (ga.2 A).1 ho hc (of_decide_eq_true c) ga.1⟩⟩
theorem g_inStrsT {l : List Str} {op : CmpOp} {v : Bool} (ho : InIs op v) (h : ∃ p, pe = .Compare pa [op] [pb] p) (h2 : ∃ k p, pb = .Tuple as k p) (hc : ConstStrs as l) (c : decide (l.length < 1000) = true) (ga : Good K sc ns pa a) : Good K sc ns pe (.inStrs v a l) := by
  obtain ⟨_, rfl⟩ := h
  obtain ⟨_, _, rfl⟩ := h2
  exact ⟨rfl, fun A => ⟨snd_inStrs_inStrsT (ga.2 A).1 ho hc (of_decide_eq_true c) ga.1, sndT_inStrs_inStrsT (ga.2 A).1 ho hc (of_decide_eq_true c) ga.1⟩⟩
theorem g_inV {op : CmpOp} {v : Bool} (ho : InIs op v) (h : ∃ p, pe = .Compare pa [op] [pb] p) (c : behindInMarks op pb = false) (ga : Good K sc ns pa a) (gb : Good K sc ns pb b) : Good K sc ns pe (.inV v a b) := by
  obtain ⟨_, rfl⟩ := h
  exact ⟨rfl, fun A => ⟨snd_inV (ga.2 A).1 (gb.2 A).1 ho c ga.1 gb.1, sndT_inV (ga.2 A).1 (gb.2 A).1 ho c ga.1 gb.1⟩⟩
theorem g_isNil {op : CmpOp} (h : ∃ p, pe = .Compare pa [op] [pb] p) (e : op = .Eq) (h2 : ∃ p, pb = .List as p) (e2 : as = []) (ga : Good K sc ns pa a) : Good K sc ns pe (.isNil a) := by
  obtain ⟨_, rfl⟩ := h
  obtain ⟨_, rfl⟩ := h2
  subst e e2
  exact ⟨rfl, fun A => ⟨snd_isNil (ga.2 A).1 ga.1, sndT_isNil (ga.2 A).1 ga.1⟩⟩
theorem g_eqTold {op : CmpOp} (h : ∃ p, pe = .Compare pa [op] [pb] p) (e : op = .Eq) (ga : Good K sc ns pa a) (gb : Good K sc ns pb b) : Good K sc ns pe (.eqTold a b) := by
  obtain ⟨_, rfl⟩ := h
  subst e
  exact ⟨rfl, fun A => ⟨snd_eqTold (ga.2 A).1 (gb.2 A).1 ga.1 gb.1, sndT_eqTold (ga.2 A).1 (gb.2 A).1 ga.1 gb.1⟩⟩
theorem g_append {q p : Pos} (h : pe = .Call (.Attribute pa x q) as [] p) (e : as = [pb]) (c : (x == ("append" : Str) && plainBase pa && oneLine q p) = true) (ga : Good K sc ns pa a) (gb : Good K sc ns pb b) : Good K sc ns pe (.append a b) := by
  simp only [Bool.and_eq_true, beq_iff_eq] at c
  obtain ⟨⟨rfl, c1⟩, c2⟩ := c
  subst h e
  exact ⟨rfl, fun A => plainT (snd_append (ga.2 A).1 (gb.2 A).1 c1 c2 ga.1 gb.1) fun _ => rfl⟩
theorem g_pop {q p : Pos} (h : pe = .Call (.Attribute pa x q) as [] p) (e : as = []) (c : (x == ("pop" : Str) && plainBase pa && oneLine q p) = true) (ga : Good K sc ns pa a) : Good K sc ns pe (.pop a) := by
  simp only [Bool.and_eq_true, beq_iff_eq] at c
  obtain ⟨⟨rfl, c1⟩, c2⟩ := c
  subst h e
  exact ⟨rfl, fun A => plainT (snd_pop (ga.2 A).1 c1 c2 ga.1) fun _ => rfl⟩
theorem g_bitlen {q p : Pos} (h : pe = .Call (.Attribute pa x q) as [] p) (e : as = []) (c : (x == ("bit_length" : Str) && plainBase pa && oneLine q p) = true) (ga : Good K sc ns pa a) : Good K sc ns pe (.bitlen a) := by
  simp only [Bool.and_eq_true, beq_iff_eq] at c
  obtain ⟨⟨rfl, c1⟩, c2⟩ := c
  subst h e
  exact ⟨rfl, fun A => plainT (snd_bitlen (ga.2 A).1 c1 c2 ga.1) fun _ => rfl⟩
theorem g_dget {q p : Pos} {j d : Int} (h : pe = .Call (.Attribute pa x q) as [] p) (e : as = [pb, pi]) (h2 : ∃ k p q, pi = .UnaryOp .USub (.Constant (.int j) k p) q) (c : (x == ("get" : Str) && plainBase pa && oneLine q p && decide (d = -j)) = true) (ga : Good K sc ns pa a) (gb : Good K sc ns pb b) : Good K sc ns pe (.dget a b d) := by
  simp only [Bool.and_eq_true, beq_iff_eq, decide_eq_true_eq] at c
  obtain ⟨⟨⟨rfl, c1⟩, c2⟩, rfl⟩ := c
  obtain ⟨_, _, _, rfl⟩ := h2
  subst h e
  exact ⟨rfl, fun A => plainT (snd_dget (ga.2 A).1 (gb.2 A).1 c1 c2 ga.1 gb.1) fun _ => rfl⟩
theorem g_lcomp {sc' : Scope} {fs : List Expr} {j : Nat} (h : ∃ px q r p, pe = .ListComp pa [⟨.Name x px, .Call (.Name y q) [pb] [] r, fs, 0⟩] sc' p) (e : fs = []) (c : (ns[j]? == some x && ckComp sc sc' ns x j && ckBi K sc y (.type "range")) = true) (ga : Good K (relabelS sc' sc) ns pa a) (gb : Good K sc ns pb b) : Good K sc ns pe (.lcomp j a b) := by
  simp only [Bool.and_eq_true, beq_iff_eq] at c
  obtain ⟨_, _, _, _, rfl⟩ := h
  subst e
  exact ⟨rfl, fun A => plainT (snd_lcomp (ga.2 A).1 (gb.2 A).1 c.1.1 (ckComp_ok c.1.2) (A.bi c.2) ga.1 gb.1) fun _ => rfl⟩
theorem g_lcompIf {sc' : Scope} {fs : List Expr} {j : Nat} (h : ∃ px q r p, pe = .ListComp pa [⟨.Name x px, .Call (.Name y q) [pb] [] r, fs, 0⟩] sc' p) (e : fs = [pt]) (c : (ns[j]? == some x && ckComp sc sc' ns x j && ckBi K sc y (.type "range")) = true) (ga : Good K (relabelS sc' sc) ns pa a) (gt : Good K (relabelS sc' sc) ns pt t) (gb : Good K sc ns pb b) : Good K sc ns pe (.lcompIf j a t b) := by
  simp only [Bool.and_eq_true, beq_iff_eq] at c
  obtain ⟨_, _, _, _, rfl⟩ := h
  subst e
  exact ⟨rfl, fun A => plainT (snd_lcompIf (ga.2 A).1 (gt.2 A).2 (gb.2 A).1 c.1.1 (ckComp_ok c.1.2) (A.bi c.2) ga.1 gt.1 gb.1) fun _ => rfl⟩
theorem gs_nil : GoodEs K sc ns [] .nil := fun _ => ⟨TrEs.nil, .nil⟩
theorem gs_cons (ga : Good K sc ns pa a) (gs : GoodEs K sc ns as es) : GoodEs K sc ns (pa :: as) (.cons a es) := fun A => ⟨TrEs.cons ga.1 (gs A).1, .cons (ga.2 A).1 (gs A).2⟩
end
end
end Mine

end
section
set_option maxRecDepth 100000
set_option autoImplicit false
set_option genInjectivity false
set_option genSizeOf false
open PySem PySem.W PySem.Calls PyProof.Rows
namespace Mine
noncomputable section
noncomputable def nil? {α : Type} : (l : List α) → Option (PLift (l = []))
  | [] => some ⟨rfl⟩
  | _ => none
noncomputable def two? {α : Type} : (l : List α) → Option {x : α × α // l = [x.1, x.2]}
  | [a, b] => some ⟨(a, b), rfl⟩
  | _ => none
noncomputable abbrev Ans (K : Frag) (sc : Scope) (ns : List Str) (pe : Expr) (e : E) : Type := Option (PLift (Good K sc ns pe e))
noncomputable def orTail {K : Frag} {sc : Scope} {ns : List Str} {a b : E} (p : Pos) (ca : (pe : Expr) → Ans K sc ns pe a) (cb : (pe : Expr) → Ans K sc ns pe b) : (vs : List Expr) → Ans K sc ns (.BoolOp .Or vs p) (.or a b)
  | [x, y] => (ca x).bind fun g => (cb y).bind fun g' => some ⟨g_or g.down g'.down⟩
  | x :: y :: z :: r => (ca x).bind fun g => (cb (.BoolOp .Or (y :: z :: r) p)).bind fun g' => some ⟨g_orC g.down g'.down⟩
  | _ => none
section
variable (K : Frag)
mutual
noncomputable def ckE : (e : E) → (sc : Scope) → (ns : List Str) → (pe : Expr) → Option (PLift (Good K sc ns pe e))
  | .none, _, _, pe => (dConst pe).bind fun c => match c with
    | ⟨.none, h⟩ => some ⟨g_none h⟩
    | _ => none
  | .bool v, _, _, pe => (dConst pe).bind fun c => match c with
    | ⟨.bool u, h⟩ => (chk (u == v)).bind fun q => some ⟨g_bool (beq_iff_eq.mp q.down ▸ h)⟩
    | _ => none
  | .int v, _, _, pe => (dInt pe).bind fun u => (chk (decide (u.1 = v))).bind fun q => some ⟨g_int (of_decide_eq_true q.down ▸ u.2)⟩
  | .str v, _, _, pe => (dStr pe).bind fun u => (chk (u.1 == v)).bind fun q => some ⟨g_str (beq_iff_eq.mp q.down ▸ u.2)⟩
  | .var j, _, _, pe => (dName pe).bind fun x => (chk _).bind fun q => some ⟨g_var x.2 q.down⟩
  | .glob v, _, _, pe => (dName pe).bind fun u => (chk (u.1 == v)).bind fun q => (chk _).bind fun c => some ⟨g_glob (beq_iff_eq.mp q.down ▸ u.2) c.down⟩
  | .gs v, _, _, pe => (dName pe).bind fun u => (chk (u.1 == v)).bind fun q => (chk _).bind fun c => some ⟨g_gs (beq_iff_eq.mp q.down ▸ u.2) c.down⟩
  | .bin o a b, sc, ns, pe => (dBin pe).bind fun x => (chk (decide (x.o = (opOf o).1))).bind fun q => (ckE a sc ns x.a).bind fun g => (ckE b sc ns x.b).bind fun g' => some ⟨g_bin (of_decide_eq_true q.down ▸ (opOf o).2) ⟨x.p, x.is⟩ g.down g'.down⟩
  | .neg a, sc, ns, pe => (dNeg pe).bind fun x => (ckE a sc ns x.1).bind fun g => some ⟨g_neg x.2 g.down⟩
  | .not a, sc, ns, pe => (dNot pe).bind fun x => (ckE a sc ns x.1).bind fun g => some ⟨g_not x.2 g.down⟩
  | .cmp o a b, sc, ns, pe => (dCmp pe).bind fun x => (chk (decide (x.o = (cpOf o).1))).bind fun q => (ckE a sc ns x.a).bind fun g => (ckE b sc ns x.b).bind fun g' => some ⟨g_cmp (of_decide_eq_true q.down ▸ (cpOf o).2) ⟨x.p, x.is⟩ g.down g'.down⟩
  | .and a b, sc, ns, pe => (dAnd pe).bind fun x => (two? x.1.1).bind fun l => (ckE a sc ns l.1.1).bind fun g => (ckE b sc ns l.1.2).bind fun g' => some ⟨by rw [x.2, l.2]; exact g_and g.down g'.down⟩
  | .or a b, sc, ns, pe => (dOr pe).bind fun x => (orTail x.1.2 (ckE a sc ns) (ckE b sc ns) x.1.1).bind fun g => some ⟨by rw [x.2]; exact g.down⟩
  | .ite t a b, sc, ns, pe => (dIf pe).bind fun x => (ckE t sc ns x.t).bind fun g0 => (ckE a sc ns x.a).bind fun g => (ckE b sc ns x.b).bind fun g' => some ⟨g_ite ⟨x.p, x.is⟩ g0.down g.down g'.down⟩
  | .call _ es, sc, ns, pe => (dCallN pe).bind fun x => (chk _).bind fun q => (ckEs es sc ns x.as).bind fun g => some ⟨g_call x.is q.down g.down⟩
  | .meth _ a es, sc, ns, pe => (dCallM pe).bind fun x => (chk _).bind fun q => (ckE a sc ns x.o).bind fun g => (ckEs es sc ns x.as).bind fun g' => some ⟨g_meth x.is q.down g.down g'.down⟩
  | .exn a, sc, ns, pe => (dCallN pe).bind fun x => (one? x.as).bind fun y => (chk _).bind fun q => (ckE a sc ns y.1).bind fun g => some ⟨g_exn x.is y.2 q.down g.down⟩
  | .newSym, _, _, pe => (dCallN pe).bind fun x => (nil? x.as).bind fun y => (chk _).bind fun q => some ⟨g_newSym x.is y.down q.down⟩
  | .len a, sc, ns, pe => (dCallN pe).bind fun x => (one? x.as).bind fun y => (chk _).bind fun q => (ckE a sc ns y.1).bind fun g => some ⟨g_len x.is y.2 q.down g.down⟩
  | .abs a, sc, ns, pe => (dCallN pe).bind fun x => (one? x.as).bind fun y => (chk _).bind fun q => (ckE a sc ns y.1).bind fun g => some ⟨g_abs x.is y.2 q.down g.down⟩
  | .sumOf a, sc, ns, pe => (dCallN pe).bind fun x => (one? x.as).bind fun y => (chk _).bind fun q => (ckE a sc ns y.1).bind fun g => some ⟨g_sumOf x.is y.2 q.down g.down⟩
  | .tupOf a, sc, ns, pe => (dCallN pe).bind fun x => (one? x.as).bind fun y => (chk _).bind fun q => (ckE a sc ns y.1).bind fun g => some ⟨g_tupOf x.is y.2 q.down g.down⟩
  | .isStr a, sc, ns, pe => (dCallN pe).bind fun x => (two? x.as).bind fun y => (dName y.1.2).bind fun z => (chk _).bind fun q => (ckE a sc ns y.1.1).bind fun g => some ⟨g_isStr x.is y.2 z.2 q.down g.down⟩
  | .isBool a, sc, ns, pe => (dCallN pe).bind fun x => (two? x.as).bind fun y => (dName y.1.2).bind fun z => (chk _).bind fun q => (ckE a sc ns y.1.1).bind fun g => some ⟨g_isBool x.is y.2 z.2 q.down g.down⟩
  | .idx a i, sc, ns, pe => (dSub pe).bind fun x => (chk _).bind fun q => (ckE a sc ns x.1.1).bind fun g => (ckE i sc ns x.1.2).bind fun g' => some ⟨g_idx x.2 q.down g.down g'.down⟩
  | .attr a _, sc, ns, pe => (dAttr pe).bind fun x => (chk _).bind fun q => (ckE a sc ns x.o).bind fun g => some ⟨g_attr x.is q.down g.down⟩
  | .tuple es, sc, ns, pe => (dTup pe).bind fun x => (ckEs es sc ns x.1).bind fun g => some ⟨g_tuple x.2 g.down⟩
  | .list es, sc, ns, pe => (dList pe).bind fun x => (ckEs es sc ns x.1).bind fun g => some ⟨g_list x.2 g.down⟩
  | .dict0, _, _, pe => (dDict pe).bind fun x => (chk _).bind fun q => some ⟨g_dict0 x.2 q.down⟩
  | .pickd ks es k, sc, ns, pe => (dSub pe).bind fun x => (dDict x.1.1).bind fun d => (dKeys d.1.1).bind fun l => (chk (decide (l.1 = ks))).bind fun r => (chk _).bind fun q => (ckEs es sc ns d.1.2).bind fun g => (ckE k sc ns x.1.2).bind fun g' => some ⟨g_pickd x.2 d.2 (of_decide_eq_true r.down ▸ l.2) q.down g.down g'.down⟩
  | .sort2 a b i, sc, ns, pe => (dSub pe).bind fun x => (dCallN x.1.1).bind fun c => (one? c.as).bind fun y => (dList y.1).bind fun l => (two? l.1).bind fun z => (chk _).bind fun q => (ckE a sc ns z.1.1).bind fun g => (ckE b sc ns z.1.2).bind fun g' => (ckE i sc ns x.1.2).bind fun g'' => some ⟨g_sort2 x.2 c.is y.2 l.2 z.2 q.down g.down g'.down g''.down⟩
  | .menu ls i, sc, ns, pe => (dSub pe).bind fun x => (dList x.1.1).bind fun y => (dStrs y.1).bind fun l => (chk (decide (l.1 = ls))).bind fun r => (chk _).bind fun q => (ckE i sc ns x.1.2).bind fun g => some ⟨g_menu x.2 y.2 (of_decide_eq_true r.down ▸ l.2) q.down g.down⟩
  | .inInts v a ls, sc, ns, pe => (dCmp pe).bind fun x => (chk (decide (x.o = (inOf v).1))).bind fun o => (dList x.b).bind fun y => (dInts y.1).bind fun l => (chk (decide (l.1 = ls))).bind fun r => (chk _).bind fun q => (ckE a sc ns x.a).bind fun g => some ⟨g_inInts (of_decide_eq_true o.down ▸ (inOf v).2) ⟨x.p, x.is⟩ y.2 (of_decide_eq_true r.down ▸ l.2) q.down g.down⟩
  | .inStrs v a ls, sc, ns, pe => (dCmp pe).bind fun x => (chk (decide (x.o = (inOf v).1))).bind fun o => (ckE a sc ns x.a).bind fun g => match dList x.b with
    | some y => (dStrs y.1).bind fun l => (chk (decide (l.1 = ls))).bind fun r => (chk _).bind fun q => some ⟨g_inStrsL (of_decide_eq_true o.down ▸ (inOf v).2) ⟨x.p, x.is⟩ y.2 (of_decide_eq_true r.down ▸ l.2) q.down g.down⟩
    | none => (dTup x.b).bind fun y => (dStrs y.1).bind fun l => (chk (decide (l.1 = ls))).bind fun r => (chk _).bind fun q => some ⟨g_inStrsT (of_decide_eq_true o.down ▸ (inOf v).2) ⟨x.p, x.is⟩ y.2 (of_decide_eq_true r.down ▸ l.2) q.down g.down⟩
  | .inV v a b, sc, ns, pe => (dCmp pe).bind fun x => (chk (decide (x.o = (inOf v).1))).bind fun o => (chk (!behindInMarks x.o x.b)).bind fun q => (ckE a sc ns x.a).bind fun g => (ckE b sc ns x.b).bind fun g' => some ⟨g_inV (of_decide_eq_true o.down ▸ (inOf v).2) ⟨x.p, x.is⟩ (by simpa using q.down) g.down g'.down⟩
  | .isNil a, sc, ns, pe => (dCmp pe).bind fun x => (chk (decide (x.o = .Eq))).bind fun o => (dList x.b).bind fun y => (nil? y.1).bind fun z => (ckE a sc ns x.a).bind fun g => some ⟨g_isNil ⟨x.p, x.is⟩ (of_decide_eq_true o.down) y.2 z.down g.down⟩
  | .eqTold a b, sc, ns, pe => (dCmp pe).bind fun x => (chk (decide (x.o = .Eq))).bind fun o => (ckE a sc ns x.a).bind fun g => (ckE b sc ns x.b).bind fun g' => some ⟨g_eqTold ⟨x.p, x.is⟩ (of_decide_eq_true o.down) g.down g'.down⟩
  | .append a b, sc, ns, pe => (dCallM pe).bind fun x => (one? x.as).bind fun y => (chk _).bind fun q => (ckE a sc ns x.o).bind fun g => (ckE b sc ns y.1).bind fun g' => some ⟨g_append x.is y.2 q.down g.down g'.down⟩
  | .pop a, sc, ns, pe => (dCallM pe).bind fun x => (nil? x.as).bind fun y => (chk _).bind fun q => (ckE a sc ns x.o).bind fun g => some ⟨g_pop x.is y.down q.down g.down⟩
  | .bitlen a, sc, ns, pe => (dCallM pe).bind fun x => (nil? x.as).bind fun y => (chk _).bind fun q => (ckE a sc ns x.o).bind fun g => some ⟨g_bitlen x.is y.down q.down g.down⟩
  | .dget a b _, sc, ns, pe => (dCallM pe).bind fun x => (two? x.as).bind fun y => (dNegI y.1.2).bind fun j => (chk _).bind fun q => (ckE a sc ns x.o).bind fun g => (ckE b sc ns y.1.1).bind fun g' => some ⟨g_dget x.is y.2 j.2 q.down g.down g'.down⟩
  | .lcomp _ a b, sc, ns, pe => (dComp pe).bind fun x => (nil? x.fs).bind fun y => (chk _).bind fun q => (ckE a (relabelS x.sc sc) ns x.a).bind fun g => (ckE b sc ns x.b).bind fun g' => some ⟨g_lcomp x.is y.down q.down g.down g'.down⟩
  | .lcompIf _ a t b, sc, ns, pe => (dComp pe).bind fun x => (one? x.fs).bind fun y => (chk _).bind fun q => (ckE a (relabelS x.sc sc) ns x.a).bind fun g => (ckE t (relabelS x.sc sc) ns y.1).bind fun gt => (ckE b sc ns x.b).bind fun g' => some ⟨g_lcompIf x.is y.2 q.down g.down gt.down g'.down⟩
noncomputable def ckEs : (es : Es) → (sc : Scope) → (ns : List Str) → (as : List Expr) → Option (PLift (GoodEs K sc ns as es))
  | .nil, _, _, as => (nil? as).bind fun q => some ⟨by rw [q.down]; exact gs_nil⟩
  | .cons e es, sc, ns, as => match as with
    | a :: r => (ckE e sc ns a).bind fun g => (ckEs es sc ns r).bind fun g' => some ⟨gs_cons g.down g'.down⟩
    | [] => none
end
end
end
end Mine

end
section
set_option maxRecDepth 100000
set_option autoImplicit false
open PySem PySem.W PySem.Calls PyProof.Rows PyProof.V PySem.Spec
namespace Mine
/-! statements -/
section
variable {M : Model} {A : Around} {E : Value → Shared → Prop} {s : Shared}
theorem flight_to {base : Heap} {l : List PySem.Env} {e : Addr} {cls fl : Value} {dd : Option Addr} {Q : Unit → Shared → Prop} {to : Option Addr}
    (hkb : base.StaysIn s.heap) (hl : s.heap.FunFrames base l) (ht : ExcAt base s.heap e cls dd fl)
    (h : ∀ h', Noted base l e cls dd (to.elim Value.none fun f => rawInt f) s.heap h' → Q () { s with heap := h' }) :
    wpAny M A (setFlight (.ref e) to) Q E s := by
  obtain ⟨oe, vs, T, oT, ts, he, hcls, hd, h1, hnT, hTe, hT, hdT, h3⟩ := ht
  have hsz3 : 3 < ts.size := (Array.getElem?_eq_some_iff.mp h3).1
  have other : ∀ b, b ≠ T → (s.heap.update T (Obj.mapFields (·.setIfInBounds 3 (to.elim Value.none fun f => rawInt f)))).get? b = s.heap.get? b :=
    fun b hb => Heap.get?_update_other _ _ (Ne.symm hb)
  have noRecord : ∀ b o, s.heap.get? b = some o → (∀ vs, o.data ≠ .fields vs) → b ≠ T := fun b o hb hnf q => by
    rw [q, hT] at hb; injection hb with hb; subst hb; exact hnf ts hdT
  unfold setFlight
  refine wpAny_bind (wpAny_field he hd h1 ?_)
  rw [if_pos (show (Value.ref T != Value.none) = true from by simp)]
  refine wpAny_setField hT hdT hsz3 (h _ ⟨fun b o hbo => (other b fun q => by rw [q, hnT] at hbo; cases hbo).trans (hkb b o hbo),
    hl.of_keeps fun b o hb hnf => ⟨o, (other b (noRecord b o hb hnf)).trans hb, rfl⟩, ?_, fun b o hb hnf => ⟨o.slots, (other b (noRecord b o hb hnf)).trans hb⟩⟩)
  exact ⟨oe, vs, T, _, _, (other e (Ne.symm hTe)).trans he, hcls, hd, h1, hnT, hTe, Heap.get?_update_self _ hT (Obj.isFreed_of_fields (Obj.data_mapFields hdT _)), Obj.data_mapFields hdT _, by simp [hsz3]⟩
theorem FlownAt.flight {φ : Fix} {c : Ctx} {mf : Str → Option Value} {a : Addr} {d : Dat} {B : Heap} {T : Led} {dd : Addr} {fl : Value} {to : Option Addr} {Q : Unit → Shared → Prop} (F : FlownAt φ c mf a d s.heap B T dd) (x : ExcAt B s.heap a (.ref φ.CP) (some dd) fl) (ht : to = none ∨ to = some c.L)
    (h : ∀ h', FlownAt φ c mf a d h' B T dd → ExcAt B h' a (.ref φ.CP) (some dd) (to.elim Value.none fun f => rawInt f) → s.heap.UpToSlots h' → Q () { s with heap := h' }) : wpAny M A (setFlight (.ref a) to) Q E s :=
  flight_to F.stays F.frames x fun h' ⟨n1, n2, n3, n4⟩ => h h' ⟨F.up.trans n4, n4.ns F.ns, F.base, n1, F.new, n2, F.inT, F.ball, n3.state (by rcases ht with rfl | rfl <;> simp)⟩ n3 n4
theorem flown_passes {φ : Fix} {c : Ctx} {mf : Str → Option Value} {e : Value} {d : Dat} {X : Value → Shared → Prop} {T₀ : Led} (F : Flown φ c mf T₀ e d s.heap) (hf : c.fenv.frame = some c.L) (hfr : A.frames = some (c.fenv :: c.outer))
    (h : ∀ h' mf', Flown φ c mf' T₀ e d h' → X e { s with heap := h' }) : notedBy M A c.fenv (cameBackBy M A c.fenv X) e s := by
  obtain ⟨a, B, T, dd, rfl, hN, F⟩ := F
  refine F.noted hf hfr fun h₁ F₁ x₁ => ?_
  obtain ⟨oe, vs, Tb, oT, ts, he, hcls, hd, h1, hnT, hTe, hT, hdT, h3⟩ := id x₁
  show wpAny M A _ _ _ _
  refine wpAny_bind (wpAny_field he hd h1 ?_)
  rw [if_neg (show ¬ ((Value.ref Tb == Value.none) = true) from by simp), hf]
  refine F₁.flight x₁ (.inr rfl) fun h₂ F₂ _ _ => ?_
  exact h h₂ mf ⟨a, B, T, dd, rfl, hN, F₂⟩
end

structure SE (φ : Fix) (n : Nat) (c : Ctx) (sc : Scope) (ns : List Str) (mf : Str → Option Value) (ρ : Env) (α : List (List Addr)) (T : Led) : Prop where
  ec : EC φ n c c.fenv sc ns mf mf ρ α T
  loc : c.fenv.locals = c.L
  nd : ns.Nodup
  inter : interactive c.fenv = false
theorem SE.mono {φ : Fix} {n : Nat} {c : Ctx} {sc : Scope} {ns : List Str} {mf : Str → Option Value} {ρ : Env} {α α' : List (List Addr)} {T T' : Led} (e : SE φ n c sc ns mf ρ α T) (p : Pre α α') (s : Sub T T') : SE φ n c sc ns mf ρ α' T' := ⟨e.ec.mono p s, e.loc, e.nd, e.inter⟩
noncomputable def AfterS (φ : Fix) (n : Nat) (c : Ctx) (sc : Scope) (ns : List Str) (α : List (List Addr)) (T : Led) (s : Shared) (Q : Flow → Shared → Prop) (X : Value → Shared → Prop) : RS → Prop
  | .next ρ Λ => ∀ α' T' mf' h' tk, Pre α α' → Sub T T' → St φ c α' T' Λ mf' h' → SE φ n c sc ns mf' ρ α' T' → Q .next { s with heap := h', toks := tk }
  | .ret V Λ => ∀ v α' T' mf' h' tk, Pre α α' → Sub T T' → St φ c α' T' Λ mf' h' → VIn φ α' T' v V → Q (.ret v) { s with heap := h', toks := tk }
  | .err d => ∀ e mf' h' tk, Flown φ c mf' T e d h' → X e { s with heap := h', toks := tk }
  | .bad => False
noncomputable def SoundS (φ : Fix) (tb : Tabs) (n : Nat) (cl : Nat → List V → Hp → Rs V) (sc : Scope) (ns : List Str) (st : Stmt) (t : S) : Prop := ∀ {c : Ctx} {mf : Str → Option Value} {ρ : Env} {α : List (List Addr)} {T : Led} {Λ : Hp} {s : Shared} {Q : Flow → Shared → Prop} {X : Value → Shared → Prop},
  SE φ n c sc ns mf ρ α T → St φ c α T Λ mf s.heap → AfterS φ n c sc ns α T s Q X (exS tb cl t ρ Λ) → wpAny (model φ.prog φ.w) c.A (exec st c.fenv) Q X s
noncomputable def SoundSs (φ : Fix) (tb : Tabs) (n : Nat) (cl : Nat → List V → Hp → Rs V) (sc : Scope) (ns : List Str) (st : List Stmt) (t : Ss) : Prop := ∀ {c : Ctx} {mf : Str → Option Value} {ρ : Env} {α : List (List Addr)} {T : Led} {Λ : Hp} {s : Shared} {Q : Flow → Shared → Prop} {X : Value → Shared → Prop},
  SE φ n c sc ns mf ρ α T → St φ c α T Λ mf s.heap → AfterS φ n c sc ns α T s Q X (exSs tb cl t ρ Λ) → wpAny (model φ.prog φ.w) c.A (execs st c.fenv) Q X s
end Mine

end
section
set_option maxRecDepth 100000
set_option autoImplicit false
open PySem PySem.W PySem.Calls PyProof.Rows PyProof.V PySem.Spec
namespace Mine
section
variable {φ : Fix} {n : Nat} {c : Ctx} {sc : Scope} {ns : List Str} {α : List (List Addr)} {T : Led} {s : Shared} {Q : Flow → Shared → Prop} {X : Value → Shared → Prop} {mf : Str → Option Value}
theorem AfterS.grow {r : RS} (h : AfterS φ n c sc ns α T s Q X r) {α' : List (List Addr)} {T' : Led} {h' : Heap} {tk : Nat} (p : Pre α α') (t : Sub T T') : AfterS φ n c sc ns α' T' { s with heap := h', toks := tk } Q X r := by
  cases r with
  | next ρ Λ => exact fun α₂ T₂ mf' h₂ tk₂ p₂ t₂ => h α₂ T₂ mf' h₂ tk₂ (p.trans p₂) (t.trans t₂)
  | ret V Λ => exact fun v α₂ T₂ mf' h₂ tk₂ p₂ t₂ => h v α₂ T₂ mf' h₂ tk₂ (p.trans p₂) (t.trans t₂)
  | err d => exact fun e mf' h₂ tk₂ F => h e mf' h₂ tk₂ (F.weak t)
  | bad => exact h
theorem AfterS.firstE {r : Rs V} {f : V → Hp → RS} (h : AfterS φ n c sc ns α T s Q X (r.then f)) {Q' : Value → Shared → Prop}
    (k : ∀ V Λ v α' T' h' tk, Pre α α' → Sub T T' → St φ c α' T' Λ mf h' → VIn φ α' T' v V → AfterS φ n c sc ns α' T' { s with heap := h', toks := tk } Q X (f V Λ) → Q' v { s with heap := h', toks := tk }) : After φ c α T mf s Q' X r := by
  cases r with
  | ok V Λ => exact fun v α' T' h' tk p t S hv => k V Λ v α' T' h' tk p t S hv (AfterS.grow (r := f V Λ) h p t)
  | err d => exact fun e h' tk F => h e _ h' tk F
  | bad => exact h
theorem AfterS.firstT {r : Rs Bool} {f : Bool → Hp → RS} (h : AfterS φ n c sc ns α T s Q X (r.then f)) {Q' : Bool → Shared → Prop}
    (k : ∀ b Λ α' T' h' tk, Pre α α' → Sub T T' → St φ c α' T' Λ mf h' → AfterS φ n c sc ns α' T' { s with heap := h', toks := tk } Q X (f b Λ) → Q' b { s with heap := h', toks := tk }) : AfterT φ c α T mf s Q' X r := by
  cases r with
  | ok V Λ => exact fun α' T' h' tk p t S => k V Λ α' T' h' tk p t S (AfterS.grow (r := f V Λ) h p t)
  | err d => exact fun e h' tk F => h e _ h' tk F
  | bad => exact h

/-- a name is bound -/
theorem store_own {ρ : Env} {Λ : Hp} {i : Nat} {x : Str} {v : Value} {V : V} {K : Unit → Shared → Prop} {E : Value → Shared → Prop} {A : Around} {M : Model} (se : SE φ n c sc ns mf ρ α T) (st : St φ c α T Λ mf s.heap) (hx : ns[i]? = some x) (hl : sc.names.lookup x = some .local) (hv : VIn φ α T v V)
    (k : ∀ mf' h', St φ c α T Λ mf' h' → SE φ n c sc ns mf' (ρ.set i V) α T → K () { s with heap := h', toks := s.toks + 1 }) : wpAny M A (storeName c.fenv x v) K E s := by
  obtain ⟨Mm, S⟩ := st
  have hk : c.fenv.kindOf x = some .local := se.ec.kindOf hl
  refine wpAny_storeName_local (m := mf) hk (by rw [se.loc]; exact S.fr.ns) (fun h' hn hs => ?_) (by rw [se.ec.scope, se.ec.kind]; rfl)
  rw [se.loc] at hn hs
  refine k _ h' ⟨Mm, S.fr.set hn hs, S.nw.set hs, S.adr, S.cells, S.len, S.nd, S.ap⟩ ⟨⟨se.ec.ok, se.ec.scope, se.ec.kind, se.ec.gl, se.ec.bi, .inl ⟨se.loc, rfl⟩, fun j y W hj h0 hW hb => ?_, se.ec.cells, se.ec.room, se.ec.unit⟩, se.loc, se.nd, se.inter⟩
  by_cases e : j = i
  · subst e
    rw [hx] at hj
    cases hj
    have hlt : j < ρ.length := by
      by_cases hq : j < ρ.length
      · exact hq
      · rw [List.getElem?_eq_none (by rw [List.length_set]; omega)] at hW; cases hW
    rw [List.getElem?_set_self hlt] at hW
    cases hW
    exact ⟨v, hv, .inl ⟨hk, by simp⟩⟩
  · rw [List.getElem?_set_ne (Ne.symm e)] at hW
    obtain ⟨u, hu, h⟩ := se.ec.slots j y W hj h0 hW hb
    refine ⟨u, hu, h.imp (fun ⟨h1, h2⟩ => ⟨h1, ?_⟩) id⟩
    have hne : y ≠ x := fun q => by
      subst q
      exact e ((List.getElem?_inj (List.getElem?_eq_some_iff.mp hj).1 se.nd).mp (hj.trans hx.symm))
    simp only [hne, if_false]
    exact h2
variable {tb : Tabs} {cl : Nat → List V → Hp → Rs V}
theorem stm_ret {p : Pos} {pe : Expr} {e : E} (se : SoundE φ tb n cl sc ns pe e) (te : TrE φ sc ns pe e) : SoundS φ tb n cl sc ns (.Return (some pe) p) (.ret e) := by
  intro c mf ρ α T Λ s Q X ss st ha
  simp only [r0, r1, r2, r3, r4, r5, r6, r7, r8, r9, r10, r11, r12, r13] at ha
  exact wpAny_Return_some (se te ss.ec st (ha.firstE fun V Λ' v α₁ T₁ h₁ tk₁ p₁ t₁ st₁ hv ha₁ => ha₁ v α₁ T₁ _ h₁ tk₁ (.refl _) (.refl _) st₁ hv))
theorem stm_expr {p : Pos} {pe : Expr} {e : E} (se : SoundE φ tb n cl sc ns pe e) (hs : ∀ env, swapsWith pe none p.line env = pure false) (te : TrE φ sc ns pe e) : SoundS φ tb n cl sc ns (.Expr pe p) (.expr e) := by
  intro c mf ρ α T Λ s Q X ss st ha
  simp only [r0, r1, r2, r3, r4, r5, r6, r7, r8, r9, r10, r11, r12, r13] at ha
  exact wpAny_Expr_any (se te ss.ec st (ha.firstE fun V Λ' v α₁ T₁ h₁ tk₁ p₁ t₁ st₁ hv ha₁ => ha₁ α₁ T₁ _ h₁ tk₁ (.refl _) (.refl _) st₁ (ss.mono p₁ t₁))) ss.inter (hs _)
theorem stm_assign {x : Str} {i : Nat} {p q : Pos} {pe : Expr} {e : E} (se : SoundE φ tb n cl sc ns pe e) (hx : ns[i]? = some x) (hl : sc.names.lookup x = some .local) (hs : ∀ env, swapsWith pe (some (.Name x p)) q.line env = pure false) (te : TrE φ sc ns pe e) :
    SoundS φ tb n cl sc ns (.Assign [.Name x p] pe q) (.assign i e) := by
  intro c mf ρ α T Λ s Q X ss st ha
  simp only [r0, r1, r2, r3, r4, r5, r6, r7, r8, r9, r10, r11, r12, r13] at ha
  refine wpAny_Assign_Name (se te ss.ec st (ha.firstE fun V Λ' v α₁ T₁ h₁ tk₁ p₁ t₁ st₁ hv ha₁ => ?_)) (hs _)
  unfold put at ha₁
  split at ha₁
  · exact store_own (ss.mono p₁ t₁) st₁ hx hl hv fun mf' h' st' ss' => ha₁ α₁ T₁ mf' h' _ (.refl _) (.refl _) st' ss'
  · exact ha₁.elim
theorem stm_ite {p : Pos} {pt : Expr} {t : E} {pa pb : List Stmt} {a b : Ss} (stt : SoundT φ tb n cl sc ns pt t) (sa : SoundSs φ tb n cl sc ns pa a) (sb : SoundSs φ tb n cl sc ns pb b) (tt : TrE φ sc ns pt t) : SoundS φ tb n cl sc ns (.If pt pa pb p) (.ite t a b) := by
  intro c mf ρ α T Λ s Q X ss st ha
  have e : exS tb cl (.ite t a b) ρ Λ = (truthOf (evE tb cl ρ t Λ)).then fun q Λ => if q then exSs tb cl a ρ Λ else exSs tb cl b ρ Λ := by
    simp only [r0, r1, r2, r3, r4, r5, r6, r7, r8, r9, r10, r11, r12, r13, truthOf]
    cases evE tb cl ρ t Λ <;> rfl
  rw [e] at ha
  refine wpAny_If (stt tt ss.ec st (ha.firstT fun q Λ₁ α₁ T₁ h₁ tk₁ p₁ t₁ st₁ ha₁ => ?_))
  cases q with
  | true => exact sa (ss.mono p₁ t₁) st₁ ha₁
  | false => exact sb (ss.mono p₁ t₁) st₁ ha₁
theorem stms_nil : SoundSs φ tb n cl sc ns [] .nil := by
  intro c mf ρ α T Λ s Q X ss st ha
  exact wpAny_execs_nil (ha α T mf s.heap s.toks (.refl _) (.refl _) st ss)
theorem stms_cons {st : Stmt} {sts : List Stmt} {t : S} {ts : Ss} (s1 : SoundS φ tb n cl sc ns st t) (s2 : SoundSs φ tb n cl sc ns sts ts) : SoundSs φ tb n cl sc ns (st :: sts) (.cons t ts) := by
  intro c mf ρ α T Λ s Q X ss st ha
  simp only [rs0, rs1] at ha
  refine wpAny_execs_cons (s1 ss st ?_)
  cases hr : exS tb cl t ρ Λ with
  | next ρ₁ Λ₁ =>
    rw [hr] at ha
    exact fun α₁ T₁ mf₁ h₁ tk₁ p₁ t₁ st₁ ss₁ => s2 ss₁ st₁ (AfterS.grow (r := exSs tb cl ts ρ₁ Λ₁) ha p₁ t₁)
  | ret V Λ₁ => rw [hr] at ha; exact ha
  | err d => rw [hr] at ha; exact ha
  | bad => rw [hr] at ha; exact ha.elim
end
end Mine

end
section
set_option maxRecDepth 100000
set_option autoImplicit false
open PySem PySem.W PySem.Calls PyProof.Rows PyProof.V PySem.Spec
namespace Mine
section
variable {M : Model} {A : Around} {E : Value → Shared → Prop} {env : PySem.Env}
variable {nm q : Str} {C N : Addr} {bs bm : List Value} {hdct : Bool} {sn : List Str} {sub : List Value} {ab : Bool} {col : Option Bool} {dd : Option Addr} {k0 k1 k2 k3 k5 : Option Value} {newId : String}
theorem raiseStmt_own {s : Shared} {x : Sem Value} {Q : Flow → Shared → Prop} (hbase : bm.contains (.type "BaseException") = true) (hh : A.handled = none)
    (h : wpAny M A x (fun v s₁ => ∃ e t dx, v = .ref e ∧ s₁.heap.get? C = some (excClassObj nm q C N bs bm hdct sn sub ab col dd k0 k1 k2 k3 k5 newId) ∧
      s₁.heap.get? e = some (excObj C t dx) ∧ E (.ref e) s₁) E s) :
    wpAny M A (raiseStmt env (some x) none) Q E s := by
  have hcB : (Value.ref C :: bm).contains (.type "BaseException") = true := by rw [List.contains_cons, hbase, Bool.or_true]
  unfold raiseStmt
  refine wpAny_bind (wpAny_mono h (fun v s₁ h₁ => ?_) fun _ _ x => x)
  obtain ⟨e, t, dx, rfl, hC, he, hE⟩ := h₁
  obtain ⟨hp, g, d, tk, os⟩ := s₁
  replace he : hp.get? e = some { cls := .ref C, dict := some dx, data := .fields #[.ref t, .none, .none, .none, .bool false, .none] } := he
  repeat (first | with_reducible refine wpAny_loadPart_at he ?_ | with_reducible refine wpAny_loadPart_at hC ?_ | (with_reducible refine wpAny_isSubtype_exc hC ?_; rw [hcB]) | wp_step)
  exact wpAny_raiseNew_none hh hE
end
section
variable {φ : Fix} {n : Nat} {sc : Scope} {ns : List Str} {tb : Tabs} {cl : Nat → List V → Hp → Rs V}
theorem flown_of {c : Ctx} {α : List (List Addr)} {T M : Led} {Λ : Hp} {mf : Str → Option Value} {h : Heap} {a : Addr} {d : Dat} (ok : c.Ok φ) (S : StM φ c α T M Λ mf h) (x : ExnAt φ T a d) : Flown φ c mf T (.ref a) d h := by
  obtain ⟨dd, t, v, es, n, m1, m2, hb, hd⟩ := x
  have hbase : ∀ {b : Addr}, c.h₀.get? b = none → c.base.get? b = none := fun {b} q => by
    cases e : c.base.get? b with
    | none => rfl
    | some o => rw [ok.below.stays _ _ e] at q; cases q
  have K' := pushX ok.below S.fr ok.frame ok.kind
  have hin : ∀ env ∈ (c.fenv :: c.outer), ∀ b, env.frame = some b → b ∈ a :: (c.fenv :: c.outer).filterMap (·.frame) := fun env he b hb => .tail _ (List.mem_filterMap.mpr ⟨env, he, hb⟩)
  have hnT : ∀ {p : Addr × Obj}, p ∈ T → p.1 ∉ (c.fenv :: c.outer).filterMap (·.frame) := fun {p} hp hm => by
    obtain ⟨env, he, hf⟩ := List.mem_filterMap.mp hm
    have hN := S.newsT p hp
    rcases List.mem_cons.mp he with rfl | he
    · rw [ok.frame] at hf
      exact hN.2.1 (Option.some.inj hf).symm
    · obtain ⟨o, ho, _⟩ := (ok.below.frames.mem (List.mem_filterMap.mpr ⟨env, he, hf⟩)).2
      rw [hN.2.2] at ho; cases ho
  have hdr : ∀ p ∈ T, p.1 ∈ [a] → Inert φ p.2 ∨ p.2 = excObj φ.CP t dd := fun p hp q => .inr (by
    rw [List.mem_singleton] at q
    exact S.same hp (by rw [q]; exact m1))
  have hda : dd ≠ a := fun q => by
    have e1 := S.getT m1
    have e2 := S.getT m2
    dsimp only at e1 e2
    rw [q, e1] at e2
    cases e2
  refine ⟨a, hideAll h (a :: (c.fenv :: c.outer).filterMap (·.frame)), dropL [a] T, dd, rfl, fun p hp hq => dropL_mem hp fun q => ?_, ⟨Heap.UpToSlots.of_keeps S.fr.keep, S.fr.ns, fun b o q => hideAll_get _ (K'.stays b o q) fun hm => ?_, fun b o q => of_hideAll _ q, hideAll_none _ (.head _), funFrames_hide K'.frames hin, fun p hp => ?_,
    ⟨v, es, n, dropL_mem m2 (by simpa using hda), hb, datDrop (fun p hp q vs k e => ?_) hd⟩, .fresh (S.getT m1)⟩⟩
  · rw [List.mem_singleton] at q
    have := S.same hp (show (p.1, excObj φ.CP t dd) ∈ T by rw [q]; exact m1)
    exact hq _ (congrArg Obj.data this)
  · rcases List.mem_cons.mp hm with rfl | hm
    · rw [hbase (S.newsT _ m1).2.2] at q; cases q
    · rw [(K'.frames.mem hm).1] at q; cases q
  · have hp' := dropL_sub _ _ _ hp
    refine ⟨hideAll_get _ (S.getT hp') fun hm => ?_, hbase (S.newsT p hp').2.2⟩
    rcases List.mem_cons.mp hm with q | hm
    · exact dropL_not hp (by rw [q]; exact .head _)
    · exact hnT hp' hm
  · rw [List.mem_singleton] at q
    have := S.same hp (show (p.1, excObj φ.CP t dd) ∈ T by rw [q]; exact m1)
    rw [this] at e
    cases e
theorem stm_raise (xi : ExnIs φ) {p : Pos} {pe : Expr} {e : E} (se : SoundE φ tb n cl sc ns pe e) (te : TrE φ sc ns pe e) : SoundS φ tb n cl sc ns (.Raise (some pe) none p) (.raise e) := by
  intro c mf ρ α T Λ s Q X ss st ha
  simp only [r0, r1, r2, r3, r4, r5, r6, r7, r8, r9, r10, r11, r12, r13] at ha
  show wpAny _ _ (do standAt p; raiseStmt c.fenv (some (do let v ← eval pe c.fenv; standAt p; pure v)) none) _ _ _
  refine wpAny_bind (wpAny_standAt (raiseStmt_own (C := φ.CP) (nm := xi.nm) (q := xi.q) (N := xi.N) (bs := xi.bs) (bm := .ref xi.CE :: bmE) (hdct := true) (sn := xi.sn) (sub := xi.sub) (ab := xi.ab) (col := xi.col) (dd := xi.dd) (k0 := xi.k0) (k1 := xi.k1) (k2 := xi.k2) (k3 := xi.k3) (k5 := xi.k5) (newId := "Exception.__new__") rfl rfl (wpAny_bind (se te ss.ec st (ha.firstE fun V Λ' v α₁ T₁ h₁ tk₁ p₁ t₁ st₁ hv ha₁ => wpAny_bind (wpAny_standAt (wpAny_pure ?_)))))))
  unfold vRaise at ha₁
  split at ha₁
  · rename_i d
    cases hv with
    | exn hx =>
      obtain ⟨M, S⟩ := id st₁
      have KX := ss.ec.ok.inK.keeps S.fr.keep
      obtain ⟨dd, t, _, _, _, m1, _⟩ := id hx
      exact ⟨_, t, dd, rfl, KX _ _ xi.cls, S.getT m1, ha₁ _ _ h₁ tk₁ (flown_of ss.ec.ok S hx)⟩
  · exact ha₁.elim
end
end Mine

end
section
set_option maxRecDepth 100000
set_option autoImplicit false
open PySem PySem.W PySem.Calls PyProof.Rows PyProof.V PySem.Spec
namespace Mine
section
variable {φ : Fix} {n : Nat} {sc : Scope} {ns : List Str} {tb : Tabs} {cl : Nat → List V → Hp → Rs V}
theorem Atts.snoc {α : List (List Addr)} {T : Led} {k : Nat} {es : List DictEntry} {l : List V} (h : Atts φ α T k es l) {v : Value} {x : V} {t : Tok} (hv : VIn φ α T v x) :
    Atts φ α T k (es ++ [⟨PyData.keyHash φ.w.params (attName (k + l.length)), .str (attName (k + l.length)) t, v⟩]) (l ++ [x]) := by
  induction h with
  | nil k => exact .cons hv (.nil _)
  | @cons k t' v' x' es xs hv' r ih =>
    have e : k + (x' :: xs).length = k + 1 + xs.length := by simp only [List.length_cons]; omega
    rw [e]
    exact .cons hv' ih
theorem Atts.fresh {α : List (List Addr)} {T : Led} {k : Nat} {es : List DictEntry} {l : List V} (h : Atts φ α T k es l) {j : Nat} (hj : j < 4) (hk : k + l.length ≤ j) :
    getL (attName j) es = some none ∧ ∀ hsh key v, putL (attName j) hsh key v es = es ++ [⟨hsh, key, v⟩] := by
  induction h with
  | nil k => exact ⟨rfl, fun _ _ _ => rfl⟩
  | @cons k t' v' x' es xs hv' r ih =>
    simp only [List.length_cons] at hk
    obtain ⟨i1, i2⟩ := ih (by omega)
    have e : (Value.str (attName k) t').isStr (attName j) = false := by
      simp only [Value.isStr]
      rw [attName_inj (by omega) hj]
      simp; omega
    refine ⟨?_, fun hsh key v => ?_⟩
    · unfold getL at i1 ⊢
      rw [List.find?_cons]
      simp only [e]
      have er : (⟨PyData.keyHash φ.w.params (attName k), .str (attName k) t', v'⟩ : DictEntry).refKey = false := rfl
      rw [List.any_cons, er, Bool.false_or]
      exact i1
    · unfold putL
      rw [e, i2]
      rfl
theorem Atts.len {α : List (List Addr)} {T : Led} {k : Nat} {es : List DictEntry} {l : List V} (h : Atts φ α T k es l) : es.length = l.length := by
  induction h with
  | nil k => rfl
  | cons _ _ ih => simp [ih]
/-- an object of the ledger to the front -/
theorem news_front {h₀ h : Heap} {L : Addr} {N : Led} (n : News h₀ L h N) {p : Addr × Obj} (hp : p ∈ N) : News h₀ L h (p :: N.filter fun q => decide (q.1 ≠ p.1)) := fun q hq => by
  rcases List.mem_cons.mp hq with rfl | hq
  · exact n _ hp
  · exact n _ (List.mem_filter.mp hq).1
theorem news_swap {h₀ h : Heap} {L a : Addr} {o : Obj} {N : Led} (n : News h₀ L h ((a, o) :: N.filter fun q => decide (q.1 ≠ a))) : News h₀ L h (swapAt a o N) := fun q hq => by
  obtain ⟨p, hp, rfl⟩ := List.mem_map.mp hq
  by_cases e : p.1 = a
  · simp only [e, if_true]
    exact n _ (.head _)
  · simp only [e, if_false]
    exact n _ (.tail _ (List.mem_filter.mpr ⟨hp, by simpa using e⟩))
theorem stm_setAttr {name : Str} {x : Att} {p q : Pos} {pe po : Expr} {e o : E} (se : SoundE φ tb n cl sc ns pe e) (so : SoundE φ tb n cl sc ns po o) (hx : AttIs φ name x) (hs : ∀ env, swapsWith pe (some (.Attribute po name p)) q.line env = pure false) (te : TrE φ sc ns pe e) (to : TrE φ sc ns po o) :
    SoundS φ tb n cl sc ns (.Assign [.Attribute po name p] pe q) (.setAttr o x e) := by
  intro c mf ρ α T Λ s Q X ss st ha
  simp only [r0, r1, r2, r3, r4, r5, r6, r7, r8, r9, r10, r11, r12, r13] at ha
  refine plainObj_wpAny_Assign_Attribute (se te ss.ec st (ha.firstE fun V Λ₁ v α₁ T₁ h₁ tk₁ p₁ t₁ st₁ hv ha₁ => ?_)) (hs _)
  have ss₁ := ss.mono p₁ t₁
  refine so to ss₁.ec st₁ (ha₁.firstE fun W Λ₂ w α₂ T₂ h₂ tk₂ p₂ t₂ st₂ hw ha₂ => ?_)
  have ss₂ := ss₁.mono p₂ t₂
  replace hv := hv.mono p₂ t₂
  unfold vSetAttr at ha₂
  split at ha₂
  · rename_i nn
    split at ha₂
    · rename_i l hl
      split at ha₂
      · rename_i hlen
        replace hw := hw.to_ref; cases hw with
        | @ref _ ad r hr =>
          obtain ⟨M, S⟩ := id st₂
          cases (S.at hr hl).to_inst with
          | @inst xx dx es k _ h1 h2 h4 h3 =>
            have hj : x.ix < 4 := by cases x <;> decide
            obtain ⟨g1, g2⟩ := h3.fresh hj (by omega)
            have hnm := hx.nm
            refine set_dict S.fr ss₂.ec.ok.inK (news_front S.nw (List.mem_append_left _ h2)) ⟨S.getM h1, rfl, rfl, S.getM h2⟩ rfl hx.set hx.over hx.take hx.dict (by rw [hnm, g1]; rfl) (by rw [hnm, g2]) (.head fun p hp => by simpa using (List.mem_filter.mp hp).2) (by rw [List.length_append, h3.len, hlen]; simp; omega) fun h' F' N' => ?_
            have hne : ad ≠ dx := fun q => by
              have hnd := S.nd
              obtain ⟨hl', e'⟩ := List.getElem?_eq_some_iff.mp hr
              have hm : [ad, dx] ∈ α₂ := List.mem_of_getElem? hr
              have := (List.pairwise_flatten.mp hnd).1 _ hm
              simp [q] at this
            have hat := h3.snoc (t := tk₂ + 1) hv
            rw [Nat.zero_add, hlen] at hat
            exact ha₂ α₂ T₂ mf h' _ (.refl _) (.refl _) ⟨_, S.change hr (.tail _ (.head _)) h2 F' (news_swap N') (.inst (swapAt_mem h1 hne) (swapAt_here h2) (by simp; omega) hat)⟩ ss₂
      · exact ha₂.elim
    · exact ha₂.elim
  · exact ha₂.elim
end
end Mine

end
section
set_option maxRecDepth 100000
set_option autoImplicit false
open PySem PySem.W PySem.Calls PyProof.Rows PyProof.V PySem.Spec
namespace Mine
section
variable {φ : Fix} {n : Nat} {sc : Scope} {ns : List Str} {tb : Tabs} {cl : Nat → List V → Hp → Rs V}
theorem VAll.set {α : List (List Addr)} {T : Led} {vs : List Value} {xs : List V} (h : VAll φ α T vs xs) {v : Value} {x : V} (hv : VIn φ α T v x) (k : Nat) : VAll φ α T (vs.set k v) (xs.set k x) := by
  induction h generalizing k with
  | nil => exact .nil
  | cons h r ih =>
    cases k with
    | zero => exact .cons hv r
    | succ k => exact .cons h (ih k)
theorem stm_setIdx {p q : Pos} {pe po pi : Expr} {e o i : E} (se : SoundE φ tb n cl sc ns pe e) (so : SoundE φ tb n cl sc ns po o) (si : SoundE φ tb n cl sc ns pi i) (hs : ∀ env, swapsWith pe (some (.Subscript po pi p)) q.line env = pure false) (te : TrE φ sc ns pe e) (to : TrE φ sc ns po o) (ti : TrE φ sc ns pi i) :
    SoundS φ tb n cl sc ns (.Assign [.Subscript po pi p] pe q) (.setIdx o i e) := by
  intro c mf ρ α T Λ s Q X ss st ha
  simp only [r0, r1, r2, r3, r4, r5, r6, r7, r8, r9, r10, r11, r12, r13] at ha
  refine wpAny_Assign_Subscript (se te ss.ec st (ha.firstE fun V Λ₁ v α₁ T₁ h₁ tk₁ p₁ t₁ st₁ hv ha₁ => ?_)) (hs _)
  have ss₁ := ss.mono p₁ t₁
  refine so to ss₁.ec st₁ (ha₁.firstE fun W Λ₂ w α₂ T₂ h₂ tk₂ p₂ t₂ st₂ hw ha₂ => ?_)
  have ss₂ := ss₁.mono p₂ t₂
  refine si ti ss₂.ec st₂ (ha₂.firstE fun U Λ₃ u α₃ T₃ h₃ tk₃ p₃ t₃ st₃ hu ha₃ => ?_)
  have ss₃ := ss₂.mono p₃ t₃
  replace hv := (hv.mono p₂ t₂).mono p₃ t₃
  replace hw := hw.mono p₃ t₃
  unfold vSetIdx at ha₃
  split at ha₃
  · rename_i nn ii
    replace hu := hu.to_dat; cases hu with
    | dat hu =>
      replace hu := DatIn'.inv hu; cases hu
      cases hi : natIx ii with
      | none => rw [hi] at ha₃; exact ha₃.elim
      | some k =>
        rw [hi] at ha₃
        dsimp only [Option.bind_some] at ha₃
        split at ha₃
        · rename_i l hl
          split at ha₃
          · rename_i hk
            replace hw := hw.to_ref; cases hw with
            | @ref _ ad r hr =>
              obtain ⟨M, S⟩ := id st₃
              cases (S.at hr hl).to_vl with
              | @vl _ vs kk _ hm hd =>
                have hlv := hd.length
                obtain ⟨q1, q2, q3, q4⟩ := seqIx hi (by omega : k < vs.length)
                have hN := S.nw _ (List.mem_append_left _ hm)
                have hsb : Heap.SameBut ad h₃ (h₃.update ad (Obj.mapSeq fun its => its.setIfInBounds ii.toNat v)) := Heap.SameBut.update ..
                have q := PySem.IsL.update (S.getM hm) fun its => its.setIfInBounds ii.toNat v
                have e1 : vs.toArray.setIfInBounds ii.toNat v = (vs.set ii.toNat v).toArray := by simp
                rw [e1] at q
                refine ki_setAt (S.getM hm) q2 (by omega) (by rw [List.size_toArray]; omega) ?_
                exact ha₃ α₃ T₃ mf _ _ (.refl _) (.refl _) ⟨_, S.change (o' := listOf (vs.set ii.toNat v).toArray _) hr (.head _) hm (S.fr.change hsb hN.2.1 hN.2.2) (S.nw.replace hsb q) (.vl (swapAt_here hm) (by rw [q4]; exact hd.set hv k))⟩ ss₃
          · exact ha₃.elim
        · exact ha₃.elim
  · exact ha₃.elim
end
end Mine

end
section
set_option maxRecDepth 100000
set_option autoImplicit false
open PySem PySem.W PySem.Calls PyProof.Rows PyProof.V PySem.Spec
namespace Mine
section
variable {φ : Fix} {n : Nat} {sc : Scope} {ns : List Str} {tb : Tabs} {cl : Nat → List V → Hp → Rs V}
theorem set_pair {c : Ctx} {α : List (List Addr)} {T M : Led} {Λ : Hp} {mf : Str → Option Value} {s : Shared} {A : Around} {X : Value → Shared → Prop} {K : Unit → Shared → Prop} {ad ak : Addr} {o ok : Obj} {l : List ((Int × Int) × Int)} {a b i : Int} {j : Nat} {t : Tok}
    (hu : A.units + 1 < cLine) (S : StM φ c α T M Λ mf s.heap) (hr : α[j]? = some [ad]) (hm : (ad, o) ∈ M) (ht : TupTab (intKind φ.prog φ.w) PyData.int ((ad, o) :: T) ad (pdD l)) (hk : (ak, ok) ∈ T) (tk : TupKeyObj (intKind φ.prog φ.w) [a, b] ok)
    (hl : l.lookup (a, b) = none) (hz : l.length < 1000000) (k : ∀ h' M' tk', StM φ c α T M' (Λ.set j (.pd (l ++ [((a, b), i)]))) mf h' → K () { s with heap := h', toks := tk' }) :
    wpAny (model φ.prog φ.w) A (setItem (.ref ad) (.ref ak) (.int i t)) K X s := by
  obtain ⟨lo, o₁, es, ep, xs, hmem, hc, hd, he, hnod, hkeys, hf⟩ := ht
  have N := newsSub S.nw (N' := (ad, o) :: T) fun p hp => by
    rcases List.mem_cons.mp hp with rfl | hp
    · exact List.mem_append_left _ hm
    · exact List.mem_append_right _ hp
  obtain rfl : o₁ = o := Option.some.inj ((N _ hmem).1.symm.trans (N _ (.head _)).1)
  have hD : s.heap.DictOfH (tupleKind (intKind φ.prog φ.w)) ad xs := ⟨o₁, es, ep, (N _ hmem).1, hc, hd, he, fun x hx => let ⟨_, hmk, t⟩ := hkeys x hx; t.key (N _ hmk).1, hnod⟩
  have hlen := hf.length
  simp only [kvsOf, List.length_map, pdD] at hlen
  refine wpAny_setItem_heap (knd := tupleKind (intKind φ.prog φ.w)) (tupleKind_room_in1 hu) (tk.key (N _ (.tail _ hk)).1) hD (fun h' hm' hs => ?_) (by rw [sizeLine_eq]; omega)
  obtain ⟨o', es', ep', ho', hc', hd', he', _, hn'⟩ := hm'
  have hN := S.nw _ (List.mem_append_left _ hm)
  refine k h' _ _ (S.change (o' := o') hr (.head _) hm (S.fr.change hs hN.2.1 hN.2.2) (S.nw.replace hs ho') (.pd (swapAt_here hm) ⟨lo, o', es', ep', storedH xs [a, b] ak (.int i t), .head _, hc', hd', he', hn', fun x hx => ?_, ?_⟩))
  · rcases mem_storedH hx with ⟨y, hy, e1, e2⟩ | ⟨e1, e2⟩
    · obtain ⟨oky, hmk, ty⟩ := hkeys y hy
      rw [e1, e2]
      rcases List.mem_cons.mp hmk with q | hmk
      · have h1 := ty.1
        have h2 := hc.1
        cases q
        rw [h2] at h1
        injection h1 with h3
        exact absurd h3 (by decide)
      · exact ⟨oky, .tail _ hmk, ty⟩
    · rw [e1, e2]; exact ⟨ok, .tail _ hk, tk⟩
  · rw [kvsOf_storedH]
    have q := hf.stored (same_encTuple PyProof.V.same_int) [a, b] (Flat.int i t)
    rw [putD_absent (by rw [lookup_pdD, hl]; rfl)] at q
    have e : pdD (l ++ [((a, b), i)]) = pdD l ++ [(encTuple PyData.int [a, b], .int i)] := by simp [pdD]
    rw [e]; exact q
theorem set_str {c : Ctx} {α : List (List Addr)} {T M : Led} {Λ : Hp} {mf : Str → Option Value} {s : Shared} {A : Around} {X : Value → Shared → Prop} {K : Unit → Shared → Prop} {ad : Addr} {o : Obj} {kvs : List (Str × Value)} {l : List (Str × Int)} {x : Str} {i : Int} {j : Nat} {t tx : Tok}
    (S : StM φ c α T M Λ mf s.heap) (hr : α[j]? = some [ad]) (hm : (ad, o) ∈ M) (lo : (ad == sysModules) = false) (hd : o.IsDictOf (strKind φ.prog φ.w) kvs) (hf : FlatPairs PyData.str kvs (sdD l))
    (hl : l.lookup x = none) (hz : l.length < 1000000) (k : ∀ h' M' tk', StM φ c α T M' (Λ.set j (.sd (l ++ [(x, i)]))) mf h' → K () { s with heap := h', toks := tk' }) :
    wpAny (model φ.prog φ.w) A (setItem (.ref ad) (.str x tx) (.int i t)) K X s := by
  have hlen := hf.length
  simp only [List.length_map, sdD] at hlen
  refine wpAny_setItem_pairs (strKind_is _ _ _ _) (Heap.dictOf_iff.mpr ⟨o, S.getM hm, hd⟩) (fun h' hm' hs => ?_) (by rw [sizeLine_eq]; omega)
  obtain ⟨o', ho', hd'⟩ := Heap.dictOf_iff.mp hm'
  have hN := S.nw _ (List.mem_append_left _ hm)
  refine k h' _ _ (S.change (o' := o') hr (.head _) hm (S.fr.change hs hN.2.1 hN.2.2) (S.nw.replace hs ho') (.sd (swapAt_here hm) lo hd' ?_))
  have q := hf.stored PyProof.V.same_str x (Flat.int i t)
  rw [putD_absent (by rw [lookup_sdD, hl]; rfl)] at q
  have e : sdD (l ++ [(x, i)]) = sdD l ++ [(.str x, .int i)] := by simp [sdD]
  rw [e]; exact q

theorem stm_setKey {p q : Pos} {pe po pi : Expr} {e o i : E} (se : SoundE φ tb n cl sc ns pe e) (so : SoundE φ tb n cl sc ns po o) (si : SoundE φ tb n cl sc ns pi i) (hs : ∀ env, swapsWith pe (some (.Subscript po pi p)) q.line env = pure false) (te : TrE φ sc ns pe e) (to : TrE φ sc ns po o) (ti : TrE φ sc ns pi i) :
    SoundS φ tb n cl sc ns (.Assign [.Subscript po pi p] pe q) (.setKey o i e) := by
  intro c mf ρ α T Λ s Q X ss st ha
  simp only [r0, r1, r2, r3, r4, r5, r6, r7, r8, r9, r10, r11, r12, r13] at ha
  refine wpAny_Assign_Subscript (se te ss.ec st (ha.firstE fun V Λ₁ v α₁ T₁ h₁ tk₁ p₁ t₁ st₁ hv ha₁ => ?_)) (hs _)
  have ss₁ := ss.mono p₁ t₁
  refine so to ss₁.ec st₁ (ha₁.firstE fun W Λ₂ w α₂ T₂ h₂ tk₂ p₂ t₂ st₂ hw ha₂ => ?_)
  have ss₂ := ss₁.mono p₂ t₂
  refine si ti ss₂.ec st₂ (ha₂.firstE fun U Λ₃ u α₃ T₃ h₃ tk₃ p₃ t₃ st₃ hu ha₃ => ?_)
  have ss₃ := ss₂.mono p₃ t₃
  replace hv := (hv.mono p₂ t₂).mono p₃ t₃
  replace hw := hw.mono p₃ t₃
  obtain ⟨M, S⟩ := id st₃
  have hroom : c.A.units + 1 < cLine := by have := ss₃.ec.unit; show c.un + 1 < cLine; omega
  unfold vSetKey at ha₃
  split at ha₃
  · rename_i nn x vi
    replace hu := hu.to_dat; cases hu with
    | dat hu =>
      replace hu := DatIn'.inv hu; cases hu
      replace hv := hv.to_dat; cases hv with
      | dat hv =>
        replace hv := DatIn'.inv hv; cases hv
        replace hw := hw.to_ref; cases hw with
        | ref hr =>
          split at ha₃
          · rename_i hl'
            cases (S.at hr hl').to_ed with
            | ed hm lo hd => exact set_str (l := []) S hr hm lo hd .nil rfl (by simp) fun h' M' tk' S' => ha₃ α₃ T₃ mf h' tk' (.refl _) (.refl _) ⟨M', S'⟩ ss₃
          · rename_i l hl'
            split at ha₃
            · exact ha₃.elim
            · rename_i hz
              rw [not_or] at hz
              cases (S.at hr hl').to_sd with
              | sd hm lo hd hf => exact set_str S hr hm lo hd hf (Option.not_isSome_iff_eq_none.mp hz.1) (by omega) fun h' M' tk' S' => ha₃ α₃ T₃ mf h' tk' (.refl _) (.refl _) ⟨M', S'⟩ ss₃
          · exact ha₃.elim
  · rename_i nn a b vi
    replace hu := hu.to_dat; cases hu with
    | dat hu =>
      obtain ⟨ak, ok, rfl, hk, tk⟩ := pair_key (prog := φ.prog) (w := φ.w) hu
      replace hv := hv.to_dat; cases hv with
      | dat hv =>
        replace hv := DatIn'.inv hv; cases hv
        replace hw := hw.to_ref; cases hw with
        | ref hr =>
          split at ha₃
          · rename_i hl'
            cases (S.at hr hl').to_ed with
            | ed hm lo hd => exact set_pair (l := []) hroom S hr hm (TupTab.ofEmpty (knd := intKind φ.prog φ.w) (enc := PyData.int) (.head _) lo hd) hk tk rfl (by simp) fun h' M' tk' S' => ha₃ α₃ T₃ mf h' tk' (.refl _) (.refl _) ⟨M', S'⟩ ss₃
          · rename_i l hl'
            split at ha₃
            · exact ha₃.elim
            · rename_i hz
              rw [not_or] at hz
              cases (S.at hr hl').to_pd with
              | pd hm ht => exact set_pair hroom S hr hm ht hk tk (Option.not_isSome_iff_eq_none.mp hz.1) (by omega) fun h' M' tk' S' => ha₃ α₃ T₃ mf h' tk' (.refl _) (.refl _) ⟨M', S'⟩ ss₃
          · exact ha₃.elim
  · exact ha₃.elim
end
end Mine

end
section
set_option maxRecDepth 100000
set_option autoImplicit false
open PySem PySem.W PySem.Calls PyProof.Rows PyProof.V PySem.Spec
namespace Mine
section
variable {φ : Fix} {n : Nat} {sc : Scope} {ns : List Str} {tb : Tabs} {cl : Nat → List V → Hp → Rs V}
theorem EC.loadN {c : Ctx} {env : PySem.Env} {mf m : Str → Option Value} {ρ : Env} {α : List (List Addr)} {T : Led} {Λ : Hp} {s : Shared} {i : Nat} {x : Str} {V : V} {Q X : Value → Shared → Prop} {A : Around}
    (e : EC φ n c env sc ns mf m ρ α T) (S : St φ c α T Λ mf s.heap) (hx : ns[i]? = some x) (hl : sc.names.lookup x = some .local) (hv : ρ[i]? = some V) (hb : V ≠ .bot)
    (k : ∀ v, VIn φ α T v V → Q v s) : wpAny (model φ.prog φ.w) A (loadName env x) Q X s := by
  obtain ⟨v, hV, h⟩ := e.slots i x V hx (by unfold hasVar; rw [hl]) hv hb
  have hk : env.scope.kind = .function := by rw [e.scope]; exact e.kind
  have hke := e.kindOf hl
  rcases h with ⟨h1, h2⟩ | ⟨a, o, h1, h2, h3, h4⟩
  · exact wpAny_loadName_local hk h1 (e.ns S) h2 (k v hV)
  · rw [hke] at h1
    rcases h1 with h1 | h1 <;> cases h1
theorem stm_augAdd {x : Str} {i : Nat} {p q : Pos} {pe : Expr} {e : E} (se : SoundE φ tb n cl sc ns pe e) (hx : ns[i]? = some x) (hl : sc.names.lookup x = some .local) (te : TrE φ sc ns pe e) :
    SoundS φ tb n cl sc ns (.AugAssign (.Name x p) .Add pe q) (.augAdd i e) := by
  intro c mf ρ α T Λ s Q X ss st ha
  simp only [r0, r1, r2, r3, r4, r5, r6, r7, r8, r9, r10, r11, r12, r13, q0, q1, q2, q3, q4, q5, q6, q7, q8, q9, q10, q11, q12, q13, q14, q15, q16, q17, q18, q19, q20, q21, q22, q23, q24, q25, q26, q27, q28, q29, q30, q31, q32, q33, q34, q35, q36, q37, q38, q39, q40, q41, q42] at ha
  cases hv : ρ[i]? with
  | none => rw [hv] at ha; exact ha.elim
  | some V =>
    rw [hv] at ha
    by_cases hb : V = .bot
    · subst hb; exact ha.elim
    · have ha' : AfterS φ n c sc ns α T s Q X (((evE tb cl ρ e Λ).bind fun y Λ => lift (vBin .add V y) Λ).then fun v Λ => put i v ρ Λ) := by
        cases V <;> first | exact absurd rfl hb | exact ha
      have ha'' : AfterS φ n c sc ns α T s Q X ((evE tb cl ρ e Λ).then fun y Λ => (lift (vBin .add V y) Λ).then fun v Λ => put i v ρ Λ) := by
        cases hr : evE tb cl ρ e Λ <;> rw [hr] at ha' <;> exact ha'
      refine wpAny_AugAssign_Name (ss.ec.loadN st hx hl hv hb fun v hV => se te ss.ec st (ha''.firstE fun W Λ₁ w α₁ T₁ h₁ tk₁ p₁ t₁ st₁ hw ha₁ => ?_))
      replace hV := hV.mono p₁ t₁
      unfold vBin at ha₁
      split at ha₁
      · rename_i a b
        replace hV := hV.to_dat; cases hV with
        | dat hV => replace hw := hw.to_dat; cases hw with
          | dat hw =>
            cases hV
            replace hw := DatIn'.inv hw; cases hw
            refine iadd_int ?_
            have ha₂ : AfterS φ n c sc ns α₁ T₁ { s with heap := h₁, toks := tk₁ } Q X (put i (.dat (.int (a + b))) ρ Λ₁) := ha₁
            unfold put at ha₂
            split at ha₂
            · exact store_own (s := { s with heap := h₁, toks := tk₁ + 1 }) (ss.mono p₁ t₁) st₁ hx hl (.dat (.int _ _)) fun mf' h' st' ss' => ha₂ α₁ T₁ mf' h' _ (.refl _) (.refl _) st' ss'
            · exact ha₂.elim
      · exact ha₁.elim
theorem stm_swap {x y : Str} {i j k k' : Nat} {p1 p2 p p' q : Pos} {pa pb : Expr} {a b : E} (sa : SoundE φ tb n cl sc ns pa a) (sb : SoundE φ tb n cl sc ns pb b) (hx : ns[i]? = some x) (hy : ns[j]? = some y) (hlx : sc.names.lookup x = some .local) (hly : sc.names.lookup y = some .local)
    (hs : ∀ env, swapsWithSole [.Tuple [.Name x p1, .Name y p2] k p] (.Tuple [pa, pb] k' p') q.line env = pure false) (hw : ∀ env, env.scope = sc → swappedStores [.Tuple [.Name x p1, .Name y p2] k p] (.Tuple [pa, pb] k' p') env = pure (some [x, y])) (hij : i ≠ j)
    (ta : TrE φ sc ns pa a) (tb' : TrE φ sc ns pb b) : SoundS φ tb n cl sc ns (.Assign [.Tuple [.Name x p1, .Name y p2] k p] (.Tuple [pa, pb] k' p') q) (.swap i j a b) := by
  intro c mf ρ α T Λ s Q X ss st ha
  simp only [r0, r1, r2, r3, r4, r5, r6, r7, r8, r9, r10, r11, r12, r13] at ha
  refine Assign_Tuple_swapped (names := [x, y]) (PyProof.Rows.Tuple_ ?_) (hs _) (hw _ ss.ec.scope)
  rw [tr_star ta, backTo_cons]
  refine spliced_cons (sa ta ss.ec st (ha.firstE fun V Λ₁ v α₁ T₁ h₁ tk₁ p₁ t₁ st₁ hv ha₁ => ?_))
  have ss₁ := ss.mono p₁ t₁
  rw [tr_star tb', backTo_cons]
  refine spliced_cons (sb tb' ss₁.ec st₁ (ha₁.firstE fun W Λ₂ w α₂ T₂ h₂ tk₂ p₂ t₂ st₂ hww ha₂ => spliced_nil ?_))
  have ss₂ := ss₁.mono p₂ t₂
  replace hv := hv.mono p₂ t₂
  refine wpAny_newObj_type ?_ (by show ([v, w] : List Value).toArray.size ≤ sizeLine; rw [sizeLine_eq]; simp)
  obtain ⟨M, S⟩ := id st₂
  have S₁ : StM φ c α₂ T₂ M Λ₂ mf (h₂.push { cls := .type "tuple", data := .seq [v, w].toArray }) := S.step fun b o e => Heap.get?_push_of_some _ e
  refine unpackItems_tuple (items := [v, w].toArray) rfl ⟨_, Heap.get?_push_size _ rfl, rfl, _, rfl⟩ fun h' he => ?_
  have S₂ : StM φ c α₂ T₂ M Λ₂ mf h' := S₁.step fun b o e => he b o (Nat.ne_of_lt (Heap.lt_size e)) e
  show wpAny _ _ (do holding [v] (bindName c.fenv y w); (do holding [] (bindName c.fenv x v); pure ())) _ _ _
  refine wpAny_bind (wpAny_holding (wpAny_bindName (store_own (s := { s with heap := h', toks := tk₂ }) ss₂ ⟨M, S₂⟩ hy hly hww fun mf₃ h₃ st₃ ss₃ => ?_)))
  refine wpAny_bind (wpAny_holding (wpAny_bindName (store_own (s := { s with heap := h₃, toks := tk₂ + 1 }) ss₃ st₃ hx hlx hv fun mf₄ h₄ st₄ ss₄ => wpAny_pure ?_)))
  unfold put at ha₂
  split at ha₂
  · rw [RS.seq_next] at ha₂
    split at ha₂
    · rw [List.set_comm _ _ hij] at ha₂
      exact ha₂ α₂ T₂ mf₄ h₄ _ (.refl _) (.refl _) st₄ ss₄
    · exact ha₂.elim
  · exact ha₂.elim
end
end Mine

end
section
set_option maxRecDepth 100000
set_option autoImplicit false
open PySem PySem.W PySem.Calls PyProof.Rows PyProof.V PySem.Spec
namespace Mine
section
variable {φ : Fix} {n : Nat} {sc : Scope} {ns : List Str} {tb : Tabs} {cl : Nat → List V → Hp → Rs V}
theorem SE.drop {c : Ctx} {mf : Str → Option Value} {ρ : Env} {α : List (List Addr)} {T : Led} {as : List Addr} (se : SE φ n c sc ns mf ρ α T) (h : ∀ p ∈ T, p.1 ∈ as → ∃ fs cT, p.2.data = .fields fs ∧ p.2.cls = .type cT) : SE φ n c sc ns mf ρ α (dropL as T) := by
  have hi : ∀ p ∈ T, p.1 ∈ as → Inert φ p.2 := fun p hp q => by
    obtain ⟨fs, cT, e1, e2⟩ := h p hp q
    exact Inert.fields e1 e2
  refine ⟨⟨se.ec.ok, se.ec.scope, se.ec.kind, se.ec.gl, se.ec.bi, .inl ⟨se.loc, rfl⟩, fun j y W hj h0 hW hb => ?_, se.ec.cells, se.ec.room, se.ec.unit⟩, se.loc, se.nd, se.inter⟩
  obtain ⟨u, hu, hh⟩ := se.ec.slots j y W hj h0 hW hb
  refine ⟨u, hu.drop hi, hh.imp id fun ⟨a, o, q1, q2, q3, q4⟩ => ⟨a, o, q1, q2, dropL_mem q3 fun z => ?_, q4⟩⟩
  obtain ⟨fs, cT, e1, _⟩ := h _ q3 z
  rw [q4] at e1
  cases e1
theorem loop_body {c : Ctx} {α α₁ : List (List Addr)} {T T₁ : Led} {s : Shared} {hh : Heap} {tt : Nat} {Q Q' : Flow → Shared → Prop} {X X' : Value → Shared → Prop} {r : RS} {rest : Env → Hp → RS} (ha : AfterS φ n c sc ns α T s Q X (r.seq rest))
    (k : ∀ ρ₁ Λ₁ α₂ T₂ mf₂ h₂ tk₂, Pre α₁ α₂ → Sub T₁ T₂ → St φ c α₂ T₂ Λ₁ mf₂ h₂ → SE φ n c sc ns mf₂ ρ₁ α₂ T₂ → AfterS φ n c sc ns α T s Q X (rest ρ₁ Λ₁) → Q' .next { s with heap := h₂, toks := tk₂ })
    (kr : ∀ V Λ₁ v α₂ T₂ mf₂ h₂ tk₂, Pre α₁ α₂ → Sub T₁ T₂ → St φ c α₂ T₂ Λ₁ mf₂ h₂ → VIn φ α₂ T₂ v V → AfterS φ n c sc ns α T s Q X (.ret V Λ₁) → Q' (.ret v) { s with heap := h₂, toks := tk₂ })
    (ke : ∀ d e mf₂ h₂ tk₂, Flown φ c mf₂ T₁ e d h₂ → AfterS φ n c sc ns α T s Q X (.err d) → X' e { s with heap := h₂, toks := tk₂ }) :
    AfterS φ n c sc ns α₁ T₁ { s with heap := hh, toks := tt } Q' X' r := by
  cases r with
  | next ρ₁ Λ₁ => exact fun α₂ T₂ mf₂ h₂ tk₂ p t st se => k ρ₁ Λ₁ α₂ T₂ mf₂ h₂ tk₂ p t st se ha
  | ret V Λ₁ => exact fun v α₂ T₂ mf₂ h₂ tk₂ p t st hv => kr V Λ₁ v α₂ T₂ mf₂ h₂ tk₂ p t st hv ha
  | err d => exact fun e mf₂ h₂ tk₂ F => ke d e mf₂ h₂ tk₂ F ha
  | bad => exact ha
theorem err_passes {c : Ctx} {α : List (List Addr)} {T : Led} {s : Shared} {Q : Flow → Shared → Prop} {X : Value → Shared → Prop} {M : Model} (ok : c.Ok φ) {d : Dat} {e : Value} {mf : Str → Option Value} {h : Heap} {tk : Nat} {T' : Led} (F : Flown φ c mf T' e d h) (hT : Sub T T') (ha : AfterS φ n c sc ns α T s Q X (.err d)) :
    notedBy M c.A c.fenv (cameBackBy M c.A c.fenv X) e { s with heap := h, toks := tk } :=
  flown_passes (s := { s with heap := h, toks := tk }) F ok.frame rfl fun h' mf' F' => ha e mf' h' tk (F'.weak hT)
theorem stm_whil {p : Pos} {pt : Expr} {t : E} {pa : List Stmt} {a : Ss} (stt : SoundT φ tb n cl sc ns pt t) (sa : SoundSs φ tb n cl sc ns pa a) (tt : TrE φ sc ns pt t) : SoundS φ tb n cl sc ns (.While pt pa [] p) (.whil t a) := by
  intro c mf ρ α T Λ s Q X ss st ha
  simp only [r0, r1, r2, r3, r4, r5, r6, r7, r8, r9, r10, r11, r12, r13] at ha
  generalize tb.loop = N at ha
  refine wpAny_While (codeAny_whileLoop (fun q s' => ∃ ρ' Λ' α' T' mf' h' tk, s' = { s with heap := h', toks := tk } ∧ St φ c α' T' Λ' mf' h' ∧ SE φ n c sc ns mf' ρ' α' T' ∧
    AfterS φ n c sc ns α' T' { s with heap := h', toks := tk } Q X (whl (fun ρ Λ => (evE tb cl ρ t Λ).bind fun x Λ => lift (vTruth Λ x) Λ) (fun ρ Λ => exSs tb cl a ρ Λ) q ρ' Λ')) ?_ N ⟨ρ, Λ, α, T, mf, s.heap, s.toks, rfl, st, ss, ha⟩)
  rintro q s' ⟨ρ', Λ', α', T', mf', h', tk, rfl, st', ss', ha'⟩
  cases q with
  | zero => exact ha'.elim
  | succ q =>
    unfold whl at ha'
    refine stt tt ss'.ec st' ?_
    have e : ((evE tb cl ρ' t Λ').bind fun x Λ => lift (vTruth Λ x) Λ) = truthOf (evE tb cl ρ' t Λ') := rfl
    rw [e] at ha'
    cases hr : truthOf (evE tb cl ρ' t Λ') with
    | bad => rw [hr] at ha'; exact ha'.elim
    | err d => rw [hr] at ha'; exact fun e h₁ tk₁ F => err_passes ss'.ec.ok F (.refl _) ha'
    | ok b Λ₁ =>
      rw [hr, Rs.then_ok] at ha'
      intro α₁ T₁ h₁ tk₁ p₁ t₁ st₁
      have ss₁ := ss'.mono p₁ t₁
      cases b with
      | false =>
        simp only [Bool.false_eq_true, if_false] at ha' ⊢
        exact wpAny_execs_nil (ha' α₁ T₁ mf' h₁ tk₁ p₁ t₁ st₁ ss₁)
      | true =>
        simp only [if_true] at ha' ⊢
        refine sa ss₁ st₁ (loop_body ha' (fun ρ₂ Λ₂ α₂ T₂ mf₂ h₂ tk₂ p₂ t₂ st₂ ss₂ hh => ⟨q, Nat.lt_succ_self _, ρ₂, Λ₂, α₂, T₂, mf₂, h₂, tk₂, rfl, st₂, ss₂, AfterS.grow hh (p₁.trans p₂) (t₁.trans t₂)⟩)
          (fun V Λ₂ v α₂ T₂ mf₂ h₂ tk₂ p₂ t₂ st₂ hv hh => hh v α₂ T₂ mf₂ h₂ tk₂ (p₁.trans p₂) (t₁.trans t₂) st₂ hv) fun d e mf₂ h₂ tk₂ F hh => err_passes ss'.ec.ok F t₁ hh)
end
end Mine

end
section
set_option maxRecDepth 100000
set_option autoImplicit false
open PySem PySem.W PySem.Calls PyProof.Rows PyProof.V
namespace Mine
/-! reversed(tuple) -/
theorem owner_rev : Manifest.owners.lookup (String.ofList ['d', 'e', 's', 'r', 'e', 'v', 'e', 'r'].reverse) = some Manifest.sig_reversed := by kernel_rfl
theorem slot_rev_next : Slot "reversed" "__next__" "reversed.__next__" :=
  .of (owner := "reversed") (n := "__next__") (by rw [typeLookup_type, builtinLookup_eq_fast]; kernel_rfl) (by decide +kernel) (by decide +kernel) (by decide +kernel)
    (by first | exact .inl (by decide +kernel) | exact .inr (by decide +kernel)) (by rw [isSubtype_type]; kernel_rfl)
theorem entry_rev_next : entryFor table "reversed.__next__" = some Builtin.«reversed.__next__» := entryFor_of_tree (by kernel_rfl)
theorem args_rev_next (a : Value) : argsOk "reversed.__next__" ⟨[a], []⟩ := by
  unfold argsOk; rw [signature?_of (id := "reversed.__next__") (n := ['_', '_', 't', 'x', 'e', 'n', '_', '_']) (o := ['d', 'e', 's', 'r', 'e', 'v', 'e', 'r']) (by kernel_rfl) owner_rev]; kernel_rfl
theorem slot_rev_iter : Slot "reversed" "__iter__" "reversed.__iter__" :=
  .of (owner := "reversed") (n := "__iter__") (by rw [typeLookup_type, builtinLookup_eq_fast]; kernel_rfl) (by decide +kernel) (by decide +kernel) (by decide +kernel)
    (by first | exact .inl (by decide +kernel) | exact .inr (by decide +kernel)) (by rw [isSubtype_type]; kernel_rfl)
theorem args_rev_iter (a : Value) : argsOk "reversed.__iter__" ⟨[a], []⟩ := by
  unfold argsOk; rw [signature?_of (id := "reversed.__iter__") (n := ['_', '_', 'r', 'e', 't', 'i', '_', '_']) (o := ['d', 'e', 's', 'r', 'e', 'v', 'e', 'r']) (by kernel_rfl) owner_rev]; kernel_rfl
theorem entry_rev_iter : entryFor table "reversed.__iter__" = some Builtin.«dict_keyiterator.__iter__» :=
  entryFor_alias (id' := "dict_keyiterator.__iter__") (by kernel_rfl) (by first | rfl | decide +kernel | (unfold String.splitOn; simp +decide [String.splitOnAux])) (by decide +kernel) (by kernel_rfl)
theorem slot_rev_init : Slot "reversed" "__init__" "object.__init__" :=
  .of (owner := "object") (n := "__init__") (by rw [typeLookup_type, builtinLookup_eq_fast]; kernel_rfl) (by decide +kernel) (by decide +kernel) (by decide +kernel)
    (by first | exact .inl (by decide +kernel) | exact .inr (by decide +kernel)) (by rw [isSubtype_type]; kernel_rfl)
theorem called_rev : TypeCalled "reversed" "reversed.__new__" "object.__init__" :=
  ⟨by decide +kernel, PySem.F.create_reversed, ⟨_, _, PySem.F.mro_reversed⟩, PySem.F.made_reversed, PySem.F.plain_reversed_new, PySem.F.sub_reversed_self, slot_rev_init⟩
theorem tup_norev : typeLookup (.type "tuple") "__reversed__" = pure none := by rw [typeLookup_type, builtinLookup_eq_fast]; kernel_rfl
theorem sub_tuple_dict : isSubtype (.type "tuple") (.type "dict") = pure false := by rw [isSubtype_type]; kernel_rfl
end Mine

end
section
set_option maxRecDepth 100000
set_option autoImplicit false
open PySem PySem.W PySem.Calls PyProof.Rows PyProof.V
namespace Mine
noncomputable abbrev revO (t : Addr) (i : Int) : Obj := { cls := .type "reversed", data := .fields #[.ref t, rawInt i] }
theorem rev_new_meets {prog : Program} {w : World} (t : Addr) (items : Array Value) : MeetsIn prog w (Builtin.«reversed.__new__» ⟨[.type "reversed", .ref t], []⟩)
    (fun A R s => IsTup s.heap t items ∧ (items.size : Int) < 2 ^ 63 ∧ ∀ tk, R (.ok (.ret (.ref s.heap.objs.size))) { s with heap := s.heap.push (revO t ((items.size : Int) - 1)), toks := tk }) :=
  .of_wp fun A R s h => by
    obtain ⟨ht, hsz, h⟩ := h
    unfold Builtin.«reversed.__new__»
    refine wpAny_bind (wpAny_of_eq (newClass_reversed _) ?_)
    try dsimp only
    refine wpAny_bind (wpAny_of_eq (a := ()) (by first | rfl | kernel_rfl) ?_)
    refine wpAny_bind (wpAny_of_eq (a := ()) (by first | rfl | kernel_rfl) ?_)
    try dsimp only
    refine wpAny_bind (wpAny_specialOf ht.typeIs tup_norev ?_)
    try dsimp only
    show wpAny _ _ ((do
      if ← isInstance (.ref t) (.type "dict") then return false
      match ← specialOf (.ref t) "__getitem__" with
      | none => return false
      | some (.builtin id) =>
        if ["tuple.__getitem__", "str.__getitem__", "bytes.__getitem__", "bytearray.__getitem__", "memoryview.__getitem__", "numpy.ndarray.__getitem__", "sqlite3.Row.__getitem__"].contains id then return true
        if id == "sqlite3.Blob.__getitem__" then return false
        unsupported "reversed.__new__:is-it-a-sequence"
      | some _ => return true) >>= _) _ _ _
    refine wpAny_bind (wpAny_bind (wpAny_isInstance ht.typeIs sub_tuple_dict ?_))
    refine wpAny_bind (wpAny_specialOf ht.typeIs PySem.F.slot_tuple_getitem.lookup ?_)
    refine wpAny_pure ?_
    refine wpAny_bind (len_tuple ht hsz ?_)
    show wpAny _ _ (do ret (← newObj (.type "reversed") (.fields [Value.ref t, rawInt ((items.size : Int) - 1)].toArray))) _ _ _
    exact wpAny_bind (wpAny_newObj_type (wpAny_pure ⟨_, rfl, h _⟩))
theorem call_reversed_tup {prog : Program} {w : World} {A : Around} {E Q : Value → Shared → Prop} {s : Shared} {t : Addr} {items : Array Value} (ht : IsTup s.heap t items) (hsz : (items.size : Int) < 2 ^ 63)
    (h : ∀ tk, Q (.ref s.heap.objs.size) { s with heap := s.heap.push (revO t ((items.size : Int) - 1)), toks := tk }) : wpAny (model prog w) A (call (.type "reversed") [.ref t]) Q E s :=
  callType_newIn called_rev (by decide) (PySem.F.typeCall_reversed_1 _) (PySem.F.newCall_reversed_1 _) (fun obj => PySem.F.args_object_init_2 obj _) PySem.F.entry_reversed_new (rev_new_meets t items) ⟨ht, hsz, fun tk => ⟨⟨_, Heap.get?_push_size _ rfl, rfl⟩, h tk⟩⟩
end Mine

end
section
set_option maxRecDepth 100000
set_option autoImplicit false
open PySem PySem.W PySem.Calls PyProof.Rows PyProof.V
namespace Mine
section
variable {prog : Program} {w : World} {A : Around} {E : Value → Shared → Prop} {s : Shared}
theorem rev_next_item {it t : Addr} {i : Nat} {items : Array Value} {x : Value} {Q : Option Value → Shared → Prop} (hit : s.heap.get? it = some (revO t (i : Int))) (ht : IsTup s.heap t items) (hi : (i : Int) < 2 ^ 63) (hx : items[i]? = some x)
    (hQ : ∀ h' tk, h'.get? it = some (revO t ((i : Int) - 1)) → Heap.SameBut it s.heap h' → Q (some x) { s with heap := h', toks := tk }) : wpAny (model prog w) A (pyNext (.ref it)) Q E s := by
  have hT : s.TypeIs (.ref it) "reversed" := ⟨_, hit, rfl⟩
  unfold pyNext
  refine wpAny_bind (wpAny_attempt (wpAny_callSpecial?_slot (name := Str.ofString "__next__") hT slot_rev_next
    (wpAny_call_entry slot_rev_next hT entry_rev_next ?_ (args_rev_next _))))
  unfold Builtin.«reversed.__next__»
  refine wpAny_bind (wpAny_of_eq (a := (Value.ref it, [])) rfl ?_)
  try dsimp only
  refine wpAny_bind (wpAny_field hit rfl (x := .ref t) rfl ?_)
  refine wpAny_bind (wpAny_field hit rfl (x := rawInt (i : Int)) rfl ?_)
  show wpAny _ _ (if (i : Int) < 0 then _ else _) _ _ s
  rw [if_neg (by omega)]
  show wpAny _ _ (specialOf (.ref t) "__getitem__" >>= _) _ _ s
  refine wpAny_bind (wpAny_specialOf ht.typeIs PySem.F.slot_tuple_getitem.lookup ?_)
  show wpAny _ _ (mkInt (i : Int) >>= _) _ _ s
  refine wpAny_bind (wpAny_mkInt ?_)
  have hlt : i < items.size := (Array.getElem?_eq_some_iff.mp hx).1
  have hj : seqIndex? (i : Int) items.size = some i := by
    unfold seqIndex?
    have : ¬ (i : Int) < 0 := by omega
    simp only [this, if_false]
    rw [if_pos (by simp; omega)]
    simp
  refine wpAny_bind (wpAny_attempt (PyProof.Rows.getItem_tuple ht (by omega) hi hj hx ?_))
  dsimp only
  refine wpAny_bind (wpAny_field hit rfl (x := rawInt (i : Int)) rfl ?_)
  show wpAny _ _ (setField (.ref it) 1 (rawInt ((i : Int) - 1)) >>= _) _ _ _
  refine wpAny_bind (wpAny_setField hit rfl (by show 1 < (#[_, _] : Array Value).size; simp) ?_)
  refine wpAny_pure ⟨x, rfl, wpAny_pure (hQ _ _ ?_ (Heap.SameBut.update ..))⟩
  exact Heap.get?_update_self _ hit rfl
theorem rev_next_end {it t : Addr} {Q : Option Value → Shared → Prop} (hh : A.handled = none) (hit : s.heap.get? it = some (revO t (-1)))
    (hQ : ∀ h' tk, Heap.ExtBut it s.heap h' → Q none { s with heap := h', toks := tk }) : wpAny (model prog w) A (pyNext (.ref it)) Q E s := by
  have hT : s.TypeIs (.ref it) "reversed" := ⟨_, hit, rfl⟩
  unfold pyNext
  refine wpAny_bind (wpAny_attempt (wpAny_callSpecial?_slot (name := Str.ofString "__next__") hT slot_rev_next
    (wpAny_call_entry slot_rev_next hT entry_rev_next ?_ (args_rev_next _))))
  unfold Builtin.«reversed.__next__»
  refine wpAny_bind (wpAny_of_eq (a := (Value.ref it, [])) rfl ?_)
  try dsimp only
  refine wpAny_bind (wpAny_field hit rfl (x := .ref t) rfl ?_)
  refine wpAny_bind (wpAny_field hit rfl (x := rawInt (-1)) rfl ?_)
  show wpAny _ _ (if (-1 : Int) < 0 then _ else _) _ _ s
  rw [if_pos (by decide)]
  refine wpAny_bind (wpAny_rule ?_)
  show wpAny _ _ ((do setField (.ref it) 1 (rawInt (-1)); setField (.ref it) 0 .none) >>= _) _ _ s
  refine wpAny_bind (wpAny_bind (wpAny_setField hit rfl (by show 1 < (#[_, _] : Array Value).size; simp) ?_))
  have hit2 : (s.heap.update it (Obj.mapFields (·.setIfInBounds 1 (rawInt (-1))))).get? it = some (revO t (-1)) := Heap.get?_update_self _ hit rfl
  refine wpAny_setField hit2 rfl (by show 0 < (#[_, _] : Array Value).size; simp) ?_
  have hb : Heap.ExtBut it s.heap ((s.heap.update it (Obj.mapFields (·.setIfInBounds 1 (rawInt (-1))))).update it (Obj.mapFields (·.setIfInBounds 0 .none))) := ((Heap.SameBut.update ..).trans (Heap.SameBut.update ..)).extBut
  first
  | show wpAny _ _ (newExc (.type "StopIteration") [] >>= _) _ _ _
  | (refine wpAny_bind ?_; show wpAny _ _ (newExc (.type "StopIteration") [] >>= _) _ _ _)
  refine wpAny_bind ?_
  simp only [newExc, newTuple]
  refine wpAny_bind (wpAny_newObj_type ?_ (by size_fits))
  refine wpAny_bind (m := firstArgMember _ _) (wpAny_of_eq (a := Value.none) (by first | rfl | (simp only [firstArgMember]; rfl)) ?_)
  refine wpAny_newObj_type ?_ (by size_fits)
  simp only [raiseNew]
  refine wpAny_bind (wpAny_handled ?_)
  first | rw [show A.in1.handled = none from hh] | rw [hh]
  refine wpAny_bind (wpAny_pure (wpAny_throw ?_))
  refine wpAny_bind (wpAny_isInstance (T := "StopIteration") (b := true) ⟨_, Heap.get?_push_size _ rfl, rfl⟩ isSubtype_stop ?_)
  exact wpAny_pure (hQ _ _ ((hb.push _).push _))
theorem rev_iter {it t : Addr} {i : Int} {Q : Value → Shared → Prop} (hit : s.heap.get? it = some (revO t i)) (h : Q (.ref it) s) : wpAny (model prog w) A (pyIter (.ref it)) Q E s := by
  have hT : s.TypeIs (.ref it) "reversed" := ⟨_, hit, rfl⟩
  refine wpAny_pyIter_slot hT slot_rev_iter (wpAny_call_entry slot_rev_iter hT entry_rev_iter ?_ (args_rev_iter _))
  show wpAny _ _ (ret (.ref it)) _ _ s
  exact wpAny_pure ⟨_, rfl, "reversed", _, hT, slot_rev_next.lookup, h⟩
end
theorem walks_rev {prog : Program} {w : World} {A : Around} (hh : A.handled = none) (I t : Addr) (hne : t ≠ I) (items : Array Value) (hsz : (items.size : Int) < 2 ^ 63) :
    Walks prog w A I [I, t] [I] items.size (fun i v => items[items.size - 1 - i]? = some v) (fun i h => i ≤ items.size ∧ h.get? I = some (revO t ((items.size : Int) - 1 - (i : Int))) ∧ IsTup h t items) where
  sub := fun b hb => by simp at hb; simp [hb]
  frame := fun _ _ _ x hk => ⟨x.1, hk I (by simp) _ x.2.1, by obtain ⟨o, ho, r⟩ := x.2.2; exact ⟨o, hk t (by simp) _ ho, r⟩⟩
  item := fun i s Q E hi x hQ => by
    have e : (items.size : Int) - 1 - (i : Int) = ((items.size - 1 - i : Nat) : Int) := by omega
    have hit := x.2.1
    rw [e] at hit
    have hx : items[items.size - 1 - i]? = some (items[items.size - 1 - i]'(by omega)) := Array.getElem?_eq_getElem (by omega)
    refine rev_next_item hit x.2.2 (by omega) hx fun h' tk hit' hs' => ?_
    have e2 : ((items.size - 1 - i : Nat) : Int) - 1 = (items.size : Int) - 1 - ((i + 1 : Nat) : Int) := by omega
    rw [e2] at hit'
    refine hQ _ h' tk hx ⟨hi, hit', ?_⟩ fun b o hb eo => hs'.extBut b o (fun h => hb (by simp [h])) eo
    obtain ⟨o, ho, r⟩ := x.2.2
    exact ⟨o, (hs'.2 t hne).trans ho, r⟩
  done := fun s Q E x hQ => by
    have e : (items.size : Int) - 1 - (items.size : Int) = -1 := by omega
    have hit := x.2.1
    rw [e] at hit
    exact rev_next_end hh hit fun h' tk he' => hQ h' tk fun b o hb eo => he' b o (fun h => hb (by simp [h])) eo
  self := fun _ _ _ _ x hQ => rev_iter x.2.1 hQ
end Mine

end
section
set_option maxRecDepth 100000
set_option autoImplicit false
open PySem PySem.W PySem.Calls PyProof.Rows PyProof.V PySem.Spec
namespace Mine
section
variable {φ : Fix} {n : Nat} {sc : Scope} {ns : List Str} {tb : Tabs} {cl : Nat → List V → Hp → Rs V}
theorem for_core {c : Ctx} {mf : Str → Option Value} {ρ : Env} {α : List (List Addr)} {T : Led} {Λ : Hp} {s : Shared} {Q : Flow → Shared → Prop} {X : Value → Shared → Prop} {x : Str} {i : Nat} {p : Pos} {pa : List Stmt} {a : Ss} {I : Addr} {fp : List Addr} {N : Nat} {P : Nat → Value → Prop} {Stw : Nat → Heap → Prop} {vals : List V}
    (sa : SoundSs φ tb n cl sc ns pa a) (hx : ns[i]? = some x) (hl : sc.names.lookup x = some .local) (W : Walks φ.prog φ.w c.A I fp [I] N P Stw) (hfp : ∀ b ∈ fp, b = I ∨ ∃ o, (b, o) ∈ T)
    (hobj : ∀ k h, Stw k h → ∃ o fs cT, h.get? I = some o ∧ o.data = .fields fs ∧ o.cls = .type cT) (hlen : vals.length = N) (hval : ∀ k v, k < N → P k v → ∃ V, vals[k]? = some V ∧ VIn φ α T v V)
    (ss : SE φ n c sc ns mf ρ α T) (st : St φ c α T Λ mf s.heap) (aI : Aside c α I) (tI : ∀ p ∈ T, p.1 ≠ I) (h0 : Stw 0 s.heap) (ha : AfterS φ n c sc ns α T s Q X (forl i (fun ρ Λ => exSs tb cl a ρ Λ) vals ρ Λ)) :
    codeAny (model φ.prog φ.w) c.A (.forLoop (.Name x p) (.ref I) pa [] c.fenv) (fun r s' => match r with | .ok f => Q f s' | .error e => cameBackBy (model φ.prog φ.w) c.A c.fenv X e s') s := by
  refine codeAny_forLoop (fun q s' => ∃ k ρ' Λ' α' T' mf' h' tk, s' = { s with heap := h', toks := tk } ∧ q = N + 1 - k ∧ k ≤ N ∧ Pre α α' ∧ Sub T T' ∧ St φ c α' T' Λ' mf' h' ∧ SE φ n c sc ns mf' ρ' α' T' ∧ Stw k h' ∧ Aside c α' I ∧ (∀ p ∈ T', p.1 ≠ I) ∧
    AfterS φ n c sc ns α' T' { s with heap := h', toks := tk } Q X (forl i (fun ρ Λ => exSs tb cl a ρ Λ) (vals.drop k) ρ' Λ')) ?_ (N + 1) ⟨0, ρ, Λ, α, T, mf, s.heap, s.toks, rfl, rfl, Nat.zero_le _, .refl _, .refl _, st, ss, h0, aI, tI, ha⟩
  rintro q s' ⟨k, ρ', Λ', α', T', mf', h', tk, rfl, rfl, hk, pp, tt, st', ss', hst, aI', tI', ha'⟩
  obtain ⟨M, S⟩ := id st'
  by_cases hlt : k < N
  · refine W.item k _ _ _ hlt hst fun v h₁ tk₁ hP hst₁ hk₁ => ?_
    have S₁ : StM φ c α' T' M Λ' mf' h₁ := S.keepBut (as := [I]) (fun a q => by rw [List.mem_singleton.mp q]; exact aI') (fun p hp q => tI' p hp (List.mem_singleton.mp q)) hk₁
    obtain ⟨o, fs, cT, hoI, hod, hoc⟩ := hobj _ _ hst₁
    have S₂ := S₁.lay hoI aI'
    have sub₂ : Sub T' ((I, o) :: T') := Sub.cons _ _
    obtain ⟨V, hV, hVin⟩ := hval k v hlt hP
    have ss₂ := ss'.mono (.refl α') sub₂
    refine wpAny_assign_Name (store_own (s := { s with heap := h₁, toks := tk₁ }) ss₂ ⟨M, S₂⟩ hx hl (hVin.mono pp (tt.trans sub₂)) fun mf₃ h₃ st₃ ss₃ => ?_)
    have hdrop : vals.drop k = V :: vals.drop (k + 1) := by
      obtain ⟨hl', e⟩ := List.getElem?_eq_some_iff.mp hV
      rw [List.drop_eq_getElem_cons hl', e]
    rw [hdrop] at ha'
    unfold forl at ha'
    split at ha'
    · refine sa ss₃ st₃ (loop_body ha' (fun ρ₄ Λ₄ α₄ T₄ mf₄ h₄ tk₄ p₄ t₄ st₄ ss₄ hh => ?_) (fun V Λ₂ v α₂ T₂ mf₂ h₂ tk₂ p₂ t₂ st₂ hv hh => hh v α₂ T₂ mf₂ h₂ tk₂ p₂ (sub₂.trans t₂) st₂ hv) fun d e mf₂ h₂ tk₂ F hh => err_passes ss'.ec.ok F sub₂ hh)
      obtain ⟨M₄, S₄⟩ := st₄
      have mI := t₄ _ (.head _)
      have hall : ∀ p ∈ T₄, p.1 ∈ [I] → ∃ fs cT, p.2.data = .fields fs ∧ p.2.cls = .type cT := fun p hp q => by
        rw [List.mem_singleton] at q
        have := S₄.same hp (show (p.1, o) ∈ T₄ by rw [q]; exact mI)
        rw [this]
        exact ⟨fs, cT, hod, hoc⟩
      have S₅ := S₄.drop (as := [I]) (h' := h₄) (fun p hp q => by obtain ⟨fs, cT, e1, e2⟩ := hall p hp q; exact Inert.fields e1 e2) (fun a q => by rw [List.mem_singleton.mp q]; exact S₄.asideT mI) (fun b o _ e => e)
      have hsub : Sub T' (dropL [I] T₄) := fun p hp => dropL_mem (t₄ _ (sub₂ _ hp)) (by simpa using tI' p hp)
      refine ⟨N + 1 - (k + 1), by omega, k + 1, ρ₄, Λ₄, α₄, dropL [I] T₄, mf₄, h₄, tk₄, rfl, rfl, hlt, pp.trans p₄, tt.trans hsub, ⟨M₄, S₅⟩, ss₄.drop hall, W.frame _ _ _ hst₁ fun b hb ob e => ?_, S₄.asideT mI, fun p hp q => dropL_not hp (by simp [q]), AfterS.grow hh p₄ hsub⟩
      rcases hfp b hb with rfl | ⟨o', ho'⟩
      · rw [hoI] at e
        cases e
        exact S₄.getT mI
      · have e1 := S₁.getT (tt _ ho')
        have e2 := S₄.getT (t₄ _ (sub₂ _ (tt _ ho')))
        dsimp only at e1 e2
        rw [e1] at e
        cases e
        exact e2
    · exact ha'.elim
  · have hkN : k = N := by omega
    subst hkN
    refine W.done _ _ _ hst fun h₁ tk₁ hk₁ => wpAny_execs_nil ?_
    have S₁ : StM φ c α' T' M Λ' mf' h₁ := S.keepBut (as := [I]) (fun a q => by rw [List.mem_singleton.mp q]; exact aI') (fun p hp q => tI' p hp (List.mem_singleton.mp q)) hk₁
    have hd : vals.drop k = [] := List.drop_eq_nil_iff.mpr (by omega)
    rw [hd] at ha'
    exact ha' α' T' mf' h₁ tk₁ (.refl _) (.refl _) ⟨M, S₁⟩ ss'
end
end Mine

end
section
set_option maxRecDepth 100000
set_option autoImplicit false
open PySem PySem.W PySem.Calls PyProof.Rows PyProof.V PySem.Spec
namespace Mine
section
variable {φ : Fix} {n : Nat} {sc : Scope} {ns : List Str} {tb : Tabs} {cl : Nat → List V → Hp → Rs V}
theorem datAll_at {T : Led} {vs : List Value} {ds : List Dat} (h : DatAll T vs ds) {k : Nat} {v : Value} (hk : vs[k]? = some v) : ∃ d, ds[k]? = some d ∧ DatIn T v d := by
  have hl := h.length
  obtain ⟨hlt, e⟩ := List.getElem?_eq_some_iff.mp hk
  have hd : ds[k]? = some (ds[k]'(by omega)) := List.getElem?_eq_getElem (by omega)
  obtain ⟨u, hu, hdu⟩ := DatAll.get' h hd
  rw [hk] at hu
  cases hu
  exact ⟨_, hd, hdu⟩
theorem stm_forTup {x : Str} {i : Nat} {p q : Pos} {pe : Expr} {e : E} {pa : List Stmt} {a : Ss} (se : SoundE φ tb n cl sc ns pe e) (sa : SoundSs φ tb n cl sc ns pa a) (hx : ns[i]? = some x) (hl : sc.names.lookup x = some .local) (hs : ∀ x env, foldedSetIterable pe env x = pure x) (te : TrE φ sc ns pe e) :
    SoundS φ tb n cl sc ns (.For (.Name x p) pe pa [] q) (.forTup i e a) := by
  intro c mf ρ α T Λ s Q X ss st ha
  simp only [r0, r1, r2, r3, r4, r5, r6, r7, r8, r9, r10, r11, r12, r13] at ha
  refine wpAny_For (se te ss.ec st (ha.firstE fun V Λ₁ v α₁ T₁ h₁ tk₁ p₁ t₁ st₁ hv ha₁ => ?_)) (fun x => hs x _)
  have ss₁ := ss.mono p₁ t₁
  unfold itemsOf at ha₁
  split at ha₁
  · rename_i l
    split at ha₁
    · rename_i hlen
      replace hv := hv.to_dat; cases hv with
      | dat hv =>
        cases hv with
        | @tuple ax vs k _ hm hd =>
          obtain ⟨M, S⟩ := id st₁
          have hlv := hd.length
          refine wpAny_pyIter_tuple ⟨_, S.getT hm, rfl, _, rfl⟩ ?_
          have S₂ : StM φ c α₁ T₁ M Λ₁ mf (h₁.push { cls := .type "tuple_iterator", data := .fields #[.ref ax, .int 0 0] }) := S.step fun b o e => Heap.get?_push_of_some _ e
          have hne : ax ≠ h₁.objs.size := Nat.ne_of_lt (Heap.lt_size (S.getT hm))
          refine for_core (T := T₁) (α := α₁) (Λ := Λ₁) (mf := mf) (ρ := ρ) (a := a) (vals := l.map .dat) sa hx hl (Walks.tuple rfl h₁.objs.size ax hne vs.toArray) (fun b hb => ?_) (fun k h q => ?_) (by rw [List.length_map, List.size_toArray]; omega) (fun k v hkN hP => ?_) ss₁ ⟨M, S₂⟩ (S.aside (Nat.le_refl _)) (fun p hp q => Nat.lt_irrefl _ (q ▸ Heap.lt_size (S.getT hp))) ⟨⟨_, Heap.get?_push_size _ rfl, rfl, rfl⟩, ⟨_, S₂.getT hm, rfl, _, rfl⟩⟩ (AfterS.grow ha₁ (.refl _) (.refl _))
          · simp at hb
            rcases hb with rfl | rfl
            · exact .inl rfl
            · exact .inr ⟨_, hm⟩
          · obtain ⟨⟨o, ho, hc, hdt⟩, _⟩ := q
            exact ⟨o, _, _, ho, hdt, hc⟩
          · obtain ⟨d, hd1, hd2⟩ := datAll_at hd (by simpa using hP : vs[k]? = some v)
            exact ⟨.dat d, by rw [List.getElem?_map, hd1]; rfl, .dat hd2⟩
    · exact ha₁.elim
  · exact ha₁.elim
theorem stm_forRange {x y : Str} {i : Nat} {p q r u : Pos} {pe : Expr} {e : E} {pa : List Stmt} {a : Ss} (se : SoundE φ tb n cl sc ns pe e) (sa : SoundSs φ tb n cl sc ns pa a) (hx : ns[i]? = some x) (hl : sc.names.lookup x = some .local) (g : BiIs φ sc y (.type "range")) (te : TrE φ sc ns pe e) :
    SoundS φ tb n cl sc ns (.For (.Name x p) (.Call (.Name y r) [pe] [] u) pa [] q) (.forRange i e a) := by
  intro c mf ρ α T Λ s Q X ss st ha
  simp only [r0, r1, r2, r3, r4, r5, r6, r7, r8, r9, r10, r11, r12, r13] at ha
  refine wpAny_For (PySem.Call_name1 (tr_star te _ []) (ss.ec.builtin st g (PySem.callWith_type1 (se te ss.ec st (ha.firstE fun V Λ₁ v α₁ T₁ h₁ tk₁ p₁ t₁ st₁ hv ha₁ => ?_)))))
  have ss₁ := ss.mono p₁ t₁
  unfold rangeOf at ha₁
  split at ha₁
  · rename_i ii
    split at ha₁
    · rename_i hi
      replace hv := hv.to_dat; cases hv with
      | dat hv =>
        replace hv := DatIn'.inv hv; cases hv
        refine call_range_1 (wpAny_pyIter_range (IsRange.new _ _ _ _ _ _ _) (small_one (by omega) (by omega) (by omega) (by omega)) ?_)
        obtain ⟨M, S⟩ := st₁
        dsimp only
        generalize hH : h₁.push { cls := .type "range", data := .fields #[.int 0 tk₁, .int ii _, .int 1 (tk₁ + 1)] } = H
        have S₁ : StM φ c α₁ T₁ M Λ₁ mf H := S.step fun b o e => by rw [← hH]; exact Heap.get?_push_of_some _ e
        have hsz : Builtin.Range.rangeSize 0 ii 1 = ((ii.toNat : Nat) : Int) := by
          rw [rangeSize_one]; split <;> omega
        rw [hsz]
        have S₂ : StM φ c α₁ T₁ M Λ₁ mf (H.push { cls := .type "range_iterator", data := .fields #[rawInt 0, rawInt ((ii.toNat : Nat) : Int), rawInt 1] }) := S₁.step fun b o e => Heap.get?_push_of_some _ e
        refine for_core (s := { s with heap := _, toks := _ }) (T := T₁) (α := α₁) (Λ := Λ₁) (mf := mf) (ρ := ρ) (a := a) (vals := (List.range ii.toNat).map fun (k : Nat) => .dat (.int (k : Int))) sa hx hl (Walks.range rfl H.objs.size 0 1 ii.toNat) (fun b hb => ?_) (fun k h q => ⟨_, _, _, q, rfl, rfl⟩) (by simp) (fun k v hkN hP => ?_) ss₁ ⟨M, S₂⟩ (S₁.aside (Nat.le_refl _)) (fun p hp q => Nat.lt_irrefl _ (q ▸ Heap.lt_size (S₁.getT hp))) ?_ (AfterS.grow ha₁ (.refl _) (.refl _))
        · simp at hb
          exact .inl hb
        · obtain ⟨t, rfl⟩ := hP
          refine ⟨.dat (.int (k : Int)), by rw [List.getElem?_map, List.getElem?_range hkN]; rfl, ?_⟩
          have e : (0 : Int) + (k : Nat) * 1 = k := by omega
          rw [e]
          exact .dat (.int _ _)
        · show IsRangeIter _ _ _ _ _
          simpa using Heap.get?_push_size _ rfl
    · exact ha₁.elim
  · exact ha₁.elim
theorem stm_forRev {x y : Str} {i : Nat} {p q r u : Pos} {pe : Expr} {e : E} {pa : List Stmt} {a : Ss} (se : SoundE φ tb n cl sc ns pe e) (sa : SoundSs φ tb n cl sc ns pa a) (hx : ns[i]? = some x) (hl : sc.names.lookup x = some .local) (g : BiIs φ sc y (.type "reversed")) (te : TrE φ sc ns pe e) :
    SoundS φ tb n cl sc ns (.For (.Name x p) (.Call (.Name y r) [pe] [] u) pa [] q) (.forRev i e a) := by
  intro c mf ρ α T Λ s Q X ss st ha
  simp only [r0, r1, r2, r3, r4, r5, r6, r7, r8, r9, r10, r11, r12, r13] at ha
  refine wpAny_For (PySem.Call_name1 (tr_star te _ []) (ss.ec.builtin st g (PySem.callWith_type1 (se te ss.ec st (ha.firstE fun V Λ₁ v α₁ T₁ h₁ tk₁ p₁ t₁ st₁ hv ha₁ => ?_)))))
  have ss₁ := ss.mono p₁ t₁
  unfold itemsOf at ha₁
  split at ha₁
  · rename_i l
    split at ha₁
    · rename_i hlen
      replace hv := hv.to_dat; cases hv with
      | dat hv =>
        cases hv with
        | @tuple ax vs k _ hm hd =>
          obtain ⟨M, S⟩ := id st₁
          have hlv := hd.length
          have hsz : (vs.toArray.size : Int) < 2 ^ 63 := by rw [List.size_toArray]; omega
          refine call_reversed_tup (tup_at (T := T₁) (S.getT hm)) hsz fun tk => rev_iter (Heap.get?_push_size _ rfl) ?_
          have S₂ : StM φ c α₁ T₁ M Λ₁ mf (h₁.push (revO ax ((vs.toArray.size : Int) - 1))) := S.step fun b o e => Heap.get?_push_of_some _ e
          have hne : ax ≠ h₁.objs.size := Nat.ne_of_lt (Heap.lt_size (S.getT hm))
          refine for_core (s := { s with heap := _, toks := _ }) (T := T₁) (α := α₁) (Λ := Λ₁) (mf := mf) (ρ := ρ) (a := a) (vals := l.reverse.map .dat) sa hx hl (walks_rev rfl h₁.objs.size ax hne vs.toArray hsz) (fun b hb => ?_) (fun k h q => ⟨_, _, _, q.2.1, rfl, rfl⟩) (by rw [List.length_map, List.size_toArray, List.length_reverse]; omega) (fun k v hkN hP => ?_) ss₁ ⟨M, S₂⟩ (S.aside (Nat.le_refl _)) (fun p hp q => Nat.lt_irrefl _ (q ▸ Heap.lt_size (S.getT hp))) ⟨Nat.zero_le _, ?_, ⟨_, S₂.getT hm, rfl, _, rfl⟩⟩ (AfterS.grow ha₁ (.refl _) (.refl _))
          · simp at hb
            rcases hb with rfl | rfl
            · exact .inl rfl
            · exact .inr ⟨_, hm⟩
          · rw [List.size_toArray] at hkN hP
            obtain ⟨d, hd1, hd2⟩ := datAll_at hd (by simpa using hP : vs[vs.length - 1 - k]? = some v)
            refine ⟨.dat d, ?_, .dat hd2⟩
            rw [List.getElem?_map, List.getElem?_reverse (by omega), show l.length - 1 - k = vs.length - 1 - k by omega, hd1]
            rfl
          · have e : ((vs.toArray.size : Int) - 1 - ((0 : Nat) : Int)) = (vs.toArray.size : Int) - 1 := by omega
            rw [e]
            exact Heap.get?_push_size _ rfl
    · exact ha₁.elim
  · exact ha₁.elim
end
end Mine

end
section
set_option maxRecDepth 100000
set_option autoImplicit false
set_option genInjectivity false
set_option genSizeOf false
open PySem PySem.W PySem.Calls PyProof.Rows PyProof.V PySem.Spec
namespace Mine
noncomputable section
/-! statements, checked by computing -/
noncomputable def plainVal : Expr → Bool
  | .ListComp .. | .SetComp .. | .DictComp .. | .Set .. => false
  | _ => true
theorem plainVal_ok {pe : Expr} (h : plainVal pe = true) : (∀ t l env, swapsWith pe t l env = pure false) ∧ ∀ env x, foldedSetIterable pe env x = pure x := by
  cases pe <;> first | exact ⟨fun _ _ _ => rfl, fun _ _ => rfl⟩ | cases h
noncomputable def ckSwap (sc : Scope) (x y z : Str) (p1 p2 : Pos) : Bool := !(z == ("__debug__" : Str)) &&  sc.names.lookup x == some .local && sc.names.lookup y == some .local && sc.kind == .function && p2.line == p1.line && !(x == y)
theorem ckSwap_ok {sc : Scope} {x y z : Str} {p1 p2 p3 p4 p p' : Pos} {k k' : Nat} {a b : Expr} {op : Operator} (h : ckSwap sc x y z p1 p2 = true) : ∀ env, env.scope = sc → swappedStores [.Tuple [.Name x p1, .Name y p2] k p] (.Tuple [.Name z p3, .BinOp a op b p4] k' p') env = pure (some [x, y]) := by
  rintro env rfl
  simp only [ckSwap, Bool.and_eq_true, beq_iff_eq, Bool.not_eq_true'] at h
  obtain ⟨⟨⟨⟨⟨hz, hx⟩, hy⟩, hk⟩, hl⟩, hn⟩ := h
  have hkb : env.blockKind = .function := by unfold Env.blockKind; rw [hk]; rfl
  have hyx : (y == x) = false := by rw [beq_eq_false_iff_ne] at hn ⊢; exact Ne.symm hn
  have kx : (env.kindOf x == some .local) = true := by unfold Env.kindOf; rw [hx]; rfl
  have ky : (env.kindOf y == some .local) = true := by unfold Env.kindOf; rw [hy]; rfl
  have hl' : (p2.line == p1.line) = true := by rw [hl]; exact beq_self_eq_true _
  have e1 : ([Expr.Name x p1, Expr.Name y p2].filterMap fun e => match e with
    | .Name id pos => if (env.kindOf id == some .local && pos.line == p1.line) = true then some id else none
    | _ => none) = [x, y] := by
    simp only [List.filterMap_cons, List.filterMap_nil, kx, ky, hl', beq_self_eq_true, Bool.and_self, if_true]
  have e2 : [x, y].eraseDups = [x, y] := by
    simp only [List.eraseDups_cons, List.filter_cons, List.filter_nil, hyx, Bool.not_false, if_true, List.eraseDups_nil]
  show (if (!([Expr.Name x p1, Expr.Name y p2].length == 2 || [Expr.Name x p1, Expr.Name y p2].length == 3) || [Expr.Name z p3, Expr.BinOp a op b p4].length != [Expr.Name x p1, Expr.Name y p2].length || env.blockKind != .function) = true then _ else _) = _
  rw [hkb]
  show (if ((([Expr.Name x p1, Expr.Name y p2].filterMap fun e => match e with
    | .Name id pos => if (env.kindOf id == some .local && pos.line == p1.line) = true then some id else none
    | _ => none).length != 2) || ([Expr.Name x p1, Expr.Name y p2].filterMap fun e => match e with
    | .Name id pos => if (env.kindOf id == some .local && pos.line == p1.line) = true then some id else none
    | _ => none).eraseDups.length != ([Expr.Name x p1, Expr.Name y p2].filterMap fun e => match e with
    | .Name id pos => if (env.kindOf id == some .local && pos.line == p1.line) = true then some id else none
    | _ => none).length) = true then _ else
    if ([Expr.Name z p3, Expr.BinOp a op b p4].all (foldedForSure 8)) = true then _ else if ([Expr.Name z p3, Expr.BinOp a op b p4].all (constantsAlone 8)) = true then _ else pure (some ([Expr.Name x p1, Expr.Name y p2].filterMap fun e => match e with
    | .Name id pos => if (env.kindOf id == some .local && pos.line == p1.line) = true then some id else none
    | _ => none))) = _
  rw [e1, e2]
  have f1 : [Expr.Name z p3, Expr.BinOp a op b p4].all (foldedForSure 8) = false := by rw [List.all_cons]; rfl
  have f2 : [Expr.Name z p3, Expr.BinOp a op b p4].all (constantsAlone 8) = false := by rw [List.all_cons, show constantsAlone 8 (Expr.Name z p3) = false from hz]; rfl
  rw [if_neg (by simp), if_neg (by rw [f1]; exact Bool.false_ne_true), if_neg (by rw [f2]; exact Bool.false_ne_true)]
noncomputable def dAssign : (st : Stmt) → Option {x : Expr × Expr × Pos // st = .Assign [x.1] x.2.1 x.2.2}
  | .Assign [t] v p => some ⟨(t, v, p), rfl⟩
  | _ => none
noncomputable def dAug : (st : Stmt) → Option {x : Expr × Expr × Pos // st = .AugAssign x.1 .Add x.2.1 x.2.2}
  | .AugAssign t .Add v p => some ⟨(t, v, p), rfl⟩
  | _ => none
noncomputable def dIfS : (st : Stmt) → Option {x : Expr × List Stmt × List Stmt // ∃ p, st = .If x.1 x.2.1 x.2.2 p}
  | .If t a b p => some ⟨(t, a, b), p, rfl⟩
  | _ => none
noncomputable def dWhile : (st : Stmt) → Option {x : Expr × List Stmt // ∃ p, st = .While x.1 x.2 [] p}
  | .While t a [] p => some ⟨(t, a), p, rfl⟩
  | _ => none
noncomputable def dFor : (st : Stmt) → Option {x : Expr × Expr × List Stmt // ∃ p, st = .For x.1 x.2.1 x.2.2 [] p}
  | .For t i b [] p => some ⟨(t, i, b), p, rfl⟩
  | _ => none
noncomputable def dRet : (st : Stmt) → Option {x : Expr // ∃ p, st = .Return (some x) p}
  | .Return (some v) p => some ⟨v, p, rfl⟩
  | _ => none
noncomputable def dRaise : (st : Stmt) → Option {x : Expr // ∃ p, st = .Raise (some x) none p}
  | .Raise (some v) none p => some ⟨v, p, rfl⟩
  | _ => none
noncomputable def dExpr : (st : Stmt) → Option {x : Expr // ∃ p, st = .Expr x p}
  | .Expr v p => some ⟨v, p, rfl⟩
  | _ => none
section
variable (φ : Fix) (tb : Tabs) (n : Nat) (cl : Nat → List V → Hp → Rs V) (sc : Scope) (ns : List Str)
/-- every statement of a block -/
noncomputable def EachSt : List Stmt → Ss → Prop
  | [], ts => ts = .nil
  | a :: as, ts => ∃ t ts', ts = .cons t ts' ∧ SoundS φ tb n cl sc ns a t ∧ EachSt as ts'
end
section
variable {φ : Fix} {tb : Tabs} {n : Nat} {cl : Nat → List V → Hp → Rs V} {sc : Scope} {ns : List Str}
theorem EachSt.sound : ∀ {sts : List Stmt} {ts : Ss}, EachSt φ tb n cl sc ns sts ts → SoundSs φ tb n cl sc ns sts ts
  | [], ts, h => by cases (show ts = .nil from h); exact stms_nil
  | a :: as, ts, h => by
    obtain ⟨t, ts', rfl, h1, h2⟩ := h
    exact stms_cons h1 h2.sound
theorem run_prefix : ∀ {sts : List Stmt} {ts : Ss} {rest : List Stmt} {c : Ctx} {mf : Str → Option Value} {ρ ρ₁ : Env} {α : List (List Addr)} {T : Led} {Λ Λ₁ : Hp} {s : Shared} {Q : Flow → Shared → Prop} {X : Value → Shared → Prop},
    EachSt φ tb n cl sc ns sts ts → SE φ n c sc ns mf ρ α T → St φ c α T Λ mf s.heap → exSs tb cl ts ρ Λ = .next ρ₁ Λ₁ →
    (∀ α' T' mf' h' tk, Pre α α' → Sub T T' → St φ c α' T' Λ₁ mf' h' → SE φ n c sc ns mf' ρ₁ α' T' → wpAny (model φ.prog φ.w) c.A (execs rest c.fenv) Q X { s with heap := h', toks := tk }) →
    wpAny (model φ.prog φ.w) c.A (execs (sts ++ rest) c.fenv) Q X s := by
  intro sts
  induction sts with
  | nil =>
    intro ts rest c mf ρ ρ₁ α T Λ Λ₁ s Q X h se st he k
    cases (show ts = .nil from h)
    cases he
    exact k α T mf s.heap s.toks (.refl _) (.refl _) st se
  | cons a sts ih =>
    intro ts rest c mf ρ ρ₁ α T Λ Λ₁ s Q X h se st he k
    obtain ⟨t, ts, rfl, h1, hts⟩ := h
    simp only [rs0, rs1] at he
    refine wpAny_execs_cons (h1 se st ?_)
    cases hr : exS tb cl t ρ Λ with
    | next ρ₂ Λ₂ =>
      rw [hr] at he
      exact fun α₂ T₂ mf₂ h₂ tk₂ p₂ t₂ st₂ se₂ => ih hts se₂ st₂ he fun α' T' mf' h' tk p t st' se' => k α' T' mf' h' tk (p₂.trans p) (t₂.trans t) st' se'
    | ret V Λ₂ => rw [hr] at he; cases he
    | err d => rw [hr] at he; cases he
    | bad => rw [hr] at he; cases he
end
section
variable (K : Frag)
noncomputable def GoodS (sc : Scope) (ns : List Str) (st : Stmt) (t : S) : Prop := ∀ {φ : Fix} {tb : Tabs} {n : Nat} {cl : Nat → List V → Hp → Rs V}, Ax φ tb n cl K → SoundS φ tb n cl sc ns st t
noncomputable def GoodSs (sc : Scope) (ns : List Str) (sts : List Stmt) (ts : Ss) : Prop := ∀ {φ : Fix} {tb : Tabs} {n : Nat} {cl : Nat → List V → Hp → Rs V}, Ax φ tb n cl K → EachSt φ tb n cl sc ns sts ts
end
section
variable {K : Frag} {sc : Scope} {ns : List Str} {st : Stmt} {pe po pi pt tg : Expr} {e o i t : E} {x y : Str} {q : Pos} {pa pb sts : List Stmt} {a b ts : Ss}
theorem s_assign {j : Nat} (h : st = .Assign [tg] pe q) (hn : ∃ p, tg = .Name x p) (c : (ns[j]? == some x && sc.names.lookup x == some .local && plainVal pe) = true) (g : Good K sc ns pe e) : GoodS K sc ns st (.assign j e) := by
  obtain ⟨_, rfl⟩ := hn
  subst h
  simp only [Bool.and_eq_true, beq_iff_eq] at c
  exact fun A => stm_assign (g.2 A).1 c.1.1 c.1.2 ((plainVal_ok c.2).1 _ _) g.1
theorem s_setAttr {p : Pos} {z : Att} (h : st = .Assign [tg] pe q) (hn : tg = .Attribute po x p) (c : (ckAtt K x z && plainVal pe) = true) (g : Good K sc ns pe e) (go : Good K sc ns po o) : GoodS K sc ns st (.setAttr o z e) := by
  subst h hn
  obtain ⟨c1, c2⟩ := Bool.and_eq_true_iff.mp c
  exact fun A => stm_setAttr (g.2 A).1 (go.2 A).1 (A.att c1) ((plainVal_ok c2).1 _ _) g.1 go.1
theorem s_setIdx (h : st = .Assign [tg] pe q) (hn : ∃ p, tg = .Subscript po pi p) (c : plainVal pe = true) (g : Good K sc ns pe e) (go : Good K sc ns po o) (gi : Good K sc ns pi i) : GoodS K sc ns st (.setIdx o i e) := by
  obtain ⟨_, rfl⟩ := hn
  subst h
  exact fun A => stm_setIdx (g.2 A).1 (go.2 A).1 (gi.2 A).1 ((plainVal_ok c).1 _ _) g.1 go.1 gi.1
theorem s_setKey (h : st = .Assign [tg] pe q) (hn : ∃ p, tg = .Subscript po pi p) (c : plainVal pe = true) (g : Good K sc ns pe e) (go : Good K sc ns po o) (gi : Good K sc ns pi i) : GoodS K sc ns st (.setKey o i e) := by
  obtain ⟨_, rfl⟩ := hn
  subst h
  exact fun A => stm_setKey (g.2 A).1 (go.2 A).1 (gi.2 A).1 ((plainVal_ok c).1 _ _) g.1 go.1 gi.1
theorem s_swap {j k : Nat} {l l' : List Expr} {t1 t2 v1 v2 : Expr} {z : Str} {p1 p2 : Pos} (h : st = .Assign [tg] pe q) (h1 : ∃ k p, tg = .Tuple l k p) (h2 : l = [t1, t2]) (h3 : ∃ k p, pe = .Tuple l' k p) (h4 : l' = [v1, v2]) (h5 : t1 = .Name x p1) (h6 : t2 = .Name y p2) (h7 : ∃ p, v1 = .Name z p) (B : Bin v2)
    (c : (ckSwap sc x y z p1 p2 && ns[j]? == some x && ns[k]? == some y && !(j == k)) = true) (g1 : Good K sc ns v1 e) (g2 : Good K sc ns v2 o) : GoodS K sc ns st (.swap j k e o) := by
  obtain ⟨_, _, rfl⟩ := h1
  obtain ⟨_, _, rfl⟩ := h3
  obtain ⟨_, rfl⟩ := h7
  obtain ⟨_, _, _, _, rfl⟩ := B
  subst h h2 h4 h5 h6
  simp only [Bool.and_eq_true, beq_iff_eq, Bool.not_eq_true', beq_eq_false_iff_ne] at c
  obtain ⟨⟨⟨c1, c2⟩, c3⟩, c4⟩ := c
  have c5 := c1
  simp only [ckSwap, Bool.and_eq_true, beq_iff_eq] at c5
  intro φ tb n cl A
  exact stm_swap (g1.2 A).1 (g2.2 A).1 c2 c3 c5.1.1.1.1.2 c5.1.1.1.2 (fun _ => rfl) (ckSwap_ok c1) c4 g1.1 g2.1
theorem s_augAdd {j : Nat} (h : st = .AugAssign tg .Add pe q) (hn : ∃ p, tg = .Name x p) (c : (ns[j]? == some x && sc.names.lookup x == some .local) = true) (g : Good K sc ns pe e) : GoodS K sc ns st (.augAdd j e) := by
  obtain ⟨_, rfl⟩ := hn
  subst h
  simp only [Bool.and_eq_true, beq_iff_eq] at c
  exact fun A => stm_augAdd (g.2 A).1 c.1 c.2 g.1
theorem s_ite (h : ∃ p, st = .If pt pa pb p) (g : Good K sc ns pt t) (ga : GoodSs K sc ns pa a) (gb : GoodSs K sc ns pb b) : GoodS K sc ns st (.ite t a b) := by
  obtain ⟨_, rfl⟩ := h
  exact fun A => stm_ite (g.2 A).2 (ga A).sound (gb A).sound g.1
theorem s_whil (h : ∃ p, st = .While pt pa [] p) (g : Good K sc ns pt t) (ga : GoodSs K sc ns pa a) : GoodS K sc ns st (.whil t a) := by
  obtain ⟨_, rfl⟩ := h
  exact fun A => stm_whil (g.2 A).2 (ga A).sound g.1
theorem s_forTup {j : Nat} (h : ∃ p, st = .For tg pe pa [] p) (hn : ∃ p, tg = .Name x p) (c : (ns[j]? == some x && sc.names.lookup x == some .local && plainVal pe) = true) (g : Good K sc ns pe e) (ga : GoodSs K sc ns pa a) : GoodS K sc ns st (.forTup j e a) := by
  obtain ⟨_, rfl⟩ := h
  obtain ⟨_, rfl⟩ := hn
  simp only [Bool.and_eq_true, beq_iff_eq] at c
  exact fun A => stm_forTup (g.2 A).1 (ga A).sound c.1.1 c.1.2 (fun v env => (plainVal_ok c.2).2 env v) g.1
theorem s_forRange {j : Nat} {as : List Expr} (h : ∃ p, st = .For tg pi pa [] p) (hn : ∃ p, tg = .Name x p) (hc : ∃ r u, pi = .Call (.Name y r) as [] u) (h1 : as = [pe]) (c : (ns[j]? == some x && sc.names.lookup x == some .local && ckBi K sc y (.type "range")) = true) (g : Good K sc ns pe e) (ga : GoodSs K sc ns pa a) : GoodS K sc ns st (.forRange j e a) := by
  obtain ⟨_, rfl⟩ := h
  obtain ⟨_, rfl⟩ := hn
  obtain ⟨_, _, rfl⟩ := hc
  subst h1
  simp only [Bool.and_eq_true, beq_iff_eq] at c
  exact fun A => stm_forRange (g.2 A).1 (ga A).sound c.1.1 c.1.2 (A.bi c.2) g.1
theorem s_forRev {j : Nat} {as : List Expr} (h : ∃ p, st = .For tg pi pa [] p) (hn : ∃ p, tg = .Name x p) (hc : ∃ r u, pi = .Call (.Name y r) as [] u) (h1 : as = [pe]) (c : (ns[j]? == some x && sc.names.lookup x == some .local && ckBi K sc y (.type "reversed")) = true) (g : Good K sc ns pe e) (ga : GoodSs K sc ns pa a) : GoodS K sc ns st (.forRev j e a) := by
  obtain ⟨_, rfl⟩ := h
  obtain ⟨_, rfl⟩ := hn
  obtain ⟨_, _, rfl⟩ := hc
  subst h1
  simp only [Bool.and_eq_true, beq_iff_eq] at c
  exact fun A => stm_forRev (g.2 A).1 (ga A).sound c.1.1 c.1.2 (A.bi c.2) g.1
theorem s_ret (h : ∃ p, st = .Return (some pe) p) (g : Good K sc ns pe e) : GoodS K sc ns st (.ret e) := by
  obtain ⟨_, rfl⟩ := h; exact fun A => stm_ret (g.2 A).1 g.1
theorem s_raise (h : ∃ p, st = .Raise (some pe) none p) (g : Good K sc ns pe e) : GoodS K sc ns st (.raise e) := by
  obtain ⟨_, rfl⟩ := h; exact fun A => stm_raise A.xi (g.2 A).1 g.1
theorem s_expr (h : ∃ p, st = .Expr pe p) (c : plainVal pe = true) (g : Good K sc ns pe e) : GoodS K sc ns st (.expr e) := by
  obtain ⟨_, rfl⟩ := h; exact fun A => stm_expr (g.2 A).1 ((plainVal_ok c).1 _ _) g.1
theorem ss_nil (h : sts = []) : GoodSs K sc ns sts .nil := by subst h; exact fun _ => rfl
theorem ss_cons {u : S} (g : GoodS K sc ns st u) (gs : GoodSs K sc ns sts ts) : GoodSs K sc ns (st :: sts) (.cons u ts) := fun A => ⟨_, _, rfl, g A, gs A⟩
end
/-- a name, with its place -/
noncomputable def dNameP : (e : Expr) → Option {x : Str × Pos // e = .Name x.1 x.2}
  | .Name x p => some ⟨(x, p), rfl⟩
  | _ => none
section
variable (K : Frag) (sc : Scope) (ns : List Str)
mutual
noncomputable def ckS : (t : S) → (st : Stmt) → Option (PLift (GoodS K sc ns st t))
  | .assign _ e, st => (dAssign st).bind fun x => (dName x.1.1).bind fun n => (chk _).bind fun q => (ckE K e sc ns x.1.2.1).bind fun g => some ⟨s_assign x.2 n.2 q.down g.down⟩
  | .setAttr o _ e, st => (dAssign st).bind fun x => (dAttr x.1.1).bind fun n => (chk _).bind fun q => (ckE K e sc ns x.1.2.1).bind fun g => (ckE K o sc ns n.o).bind fun g' => some ⟨s_setAttr x.2 n.is q.down g.down g'.down⟩
  | .setIdx o i e, st => (dAssign st).bind fun x => (dSub x.1.1).bind fun n => (chk _).bind fun q => (ckE K e sc ns x.1.2.1).bind fun g => (ckE K o sc ns n.1.1).bind fun g' => (ckE K i sc ns n.1.2).bind fun g'' => some ⟨s_setIdx x.2 n.2 q.down g.down g'.down g''.down⟩
  | .setKey o i e, st => (dAssign st).bind fun x => (dSub x.1.1).bind fun n => (chk _).bind fun q => (ckE K e sc ns x.1.2.1).bind fun g => (ckE K o sc ns n.1.1).bind fun g' => (ckE K i sc ns n.1.2).bind fun g'' => some ⟨s_setKey x.2 n.2 q.down g.down g'.down g''.down⟩
  | .swap _ _ a b, st => (dAssign st).bind fun x => (dTup x.1.1).bind fun l => (two? l.1).bind fun m => (dTup x.1.2.1).bind fun l' => (two? l'.1).bind fun m' => (dNameP m.1.1).bind fun n => (dNameP m.1.2).bind fun n' => (dName m'.1.1).bind fun z => (dBin m'.1.2).bind fun B => (chk _).bind fun q => (ckE K a sc ns m'.1.1).bind fun g => (ckE K b sc ns m'.1.2).bind fun g' =>
      some ⟨s_swap x.2 l.2 m.2 l'.2 m'.2 n.2 n'.2 z.2 B q.down g.down g'.down⟩
  | .augAdd _ e, st => (dAug st).bind fun x => (dName x.1.1).bind fun n => (chk _).bind fun q => (ckE K e sc ns x.1.2.1).bind fun g => some ⟨s_augAdd x.2 n.2 q.down g.down⟩
  | .ite t a b, st => (dIfS st).bind fun x => (ckE K t sc ns x.1.1).bind fun g => (ckSs a x.1.2.1).bind fun g' => (ckSs b x.1.2.2).bind fun g'' => some ⟨s_ite x.2 g.down g'.down g''.down⟩
  | .whil t a, st => (dWhile st).bind fun x => (ckE K t sc ns x.1.1).bind fun g => (ckSs a x.1.2).bind fun g' => some ⟨s_whil x.2 g.down g'.down⟩
  | .forTup _ e a, st => (dFor st).bind fun x => (dName x.1.1).bind fun n => (chk _).bind fun q => (ckE K e sc ns x.1.2.1).bind fun g => (ckSs a x.1.2.2).bind fun g' => some ⟨s_forTup x.2 n.2 q.down g.down g'.down⟩
  | .forRange _ e a, st => (dFor st).bind fun x => (dName x.1.1).bind fun n => (dCallN x.1.2.1).bind fun c => (one? c.as).bind fun y => (chk _).bind fun q => (ckE K e sc ns y.1).bind fun g => (ckSs a x.1.2.2).bind fun g' => some ⟨s_forRange x.2 n.2 c.is y.2 q.down g.down g'.down⟩
  | .forRev _ e a, st => (dFor st).bind fun x => (dName x.1.1).bind fun n => (dCallN x.1.2.1).bind fun c => (one? c.as).bind fun y => (chk _).bind fun q => (ckE K e sc ns y.1).bind fun g => (ckSs a x.1.2.2).bind fun g' => some ⟨s_forRev x.2 n.2 c.is y.2 q.down g.down g'.down⟩
  | .ret e, st => (dRet st).bind fun x => (ckE K e sc ns x.1).bind fun g => some ⟨s_ret x.2 g.down⟩
  | .raise e, st => (dRaise st).bind fun x => (ckE K e sc ns x.1).bind fun g => some ⟨s_raise x.2 g.down⟩
  | .expr e, st => (dExpr st).bind fun x => (chk _).bind fun q => (ckE K e sc ns x.1).bind fun g => some ⟨s_expr x.2 q.down g.down⟩
noncomputable def ckSs : (ts : Ss) → (sts : List Stmt) → Option (PLift (GoodSs K sc ns sts ts))
  | .nil, sts => (nil? sts).bind fun q => some ⟨ss_nil q.down⟩
  | .cons t ts, sts => match sts with
    | a :: r => (ckS t a).bind fun g => (ckSs ts r).bind fun g' => some ⟨ss_cons g.down g'.down⟩
    | [] => none
end
end
end
end Mine

end
section
set_option maxRecDepth 100000
set_option autoImplicit false
open PySem PySem.W PySem.Calls PyProof.Rows PyProof.V PySem.Spec
namespace Mine
/-! a call -/
theorem bindL_out {kf : Str → Option NameKind} {x : Str} : ∀ {bs : List (Str × Value)} {m : Str → Option Value}, x ∉ bs.map (·.1) → bindL kf bs m x = m x := by
  intro bs
  induction bs with
  | nil => intro m _; rfl
  | cons b r ih =>
    intro m h
    obtain ⟨n, v⟩ := b
    simp only [List.map_cons, List.mem_cons, not_or] at h
    show bindL kf r _ x = m x
    rw [ih h.2]
    split
    · simp [h.1]
    · rfl
theorem bindC_out {kf : Str → Option NameKind} {x : Str} : ∀ {bs : List (Str × Value)} {m : Str → Option Value}, x ∉ bs.map (·.1) → bindC kf bs m x = m x := by
  intro bs
  induction bs with
  | nil => intro m _; rfl
  | cons b r ih =>
    intro m h
    obtain ⟨n, v⟩ := b
    simp only [List.map_cons, List.mem_cons, not_or] at h
    show bindC kf r _ x = m x
    rw [ih h.2]
    split
    · rfl
    · simp [h.1]
theorem bindL_in {kf : Str → Option NameKind} {x : Str} {v : Value} : ∀ {bs : List (Str × Value)} {m : Str → Option Value}, (bs.map (·.1)).Nodup → (x, v) ∈ bs → kf x = some .local → bindL kf bs m x = some v := by
  intro bs
  induction bs with
  | nil => intro m _ h; cases h
  | cons b r ih =>
    intro m hn h hk
    obtain ⟨n, u⟩ := b
    simp only [List.map_cons, List.nodup_cons] at hn
    show bindL kf r _ x = some v
    rcases List.mem_cons.mp h with e | h
    · cases e
      rw [bindL_out hn.1, if_pos hk]
      simp
    · exact ih hn.2 h hk
theorem bindC_in {kf : Str → Option NameKind} {x : Str} {v : Value} : ∀ {bs : List (Str × Value)} {m : Str → Option Value}, (bs.map (·.1)).Nodup → (x, v) ∈ bs → kf x ≠ some .local → bindC kf bs m x = some v := by
  intro bs
  induction bs with
  | nil => intro m _ h; cases h
  | cons b r ih =>
    intro m hn h hk
    obtain ⟨n, u⟩ := b
    simp only [List.map_cons, List.nodup_cons] at hn
    show bindC kf r _ x = some v
    rcases List.mem_cons.mp h with e | h
    · cases e
      rw [bindC_out hn.1, if_neg hk]
      simp
    · exact ih hn.2 h hk
theorem cells_mem {cm : Str → Option Value} {cs : List (Str × Addr)} {cells : Led} (x : CellsAre cm cs cells) {n : Str} {c : Addr} (h : cs.lookup n = some c) : ∃ o, (c, o) ∈ cells ∧ o.data = .cell (cm n) := by
  induction x with
  | nil => cases h
  | @cons n' c' o cs cells hd r ih =>
    rw [List.lookup_cons] at h
    cases hb : n == n' with
    | true =>
      rw [hb] at h
      cases h
      rw [beq_iff_eq.mp hb]
      exact ⟨o, .head _, hd⟩
    | false =>
      rw [hb] at h
      obtain ⟨o', h1, h2⟩ := ih h
      exact ⟨o', .tail _ h1, h2⟩
section
variable {prog : Program} {w : World} {A₀ A : Around} {s : Shared} {base h₀ : Heap} {outer : List PySem.Env} {L : Addr} {m : Str → Option Value} {env : PySem.Env} {news : Led}
  {R : Result → Shared → Prop} {name qual : Str} {params : Arguments} {body : List Stmt} {scope : Scope} {dV kV doc pm cdv ct : Value} {an : Option Addr} {fo : Obj} {f : Addr} {args : Args} {binds : List (Str × Value)}
theorem callX_own (B : Below A₀ base outer h₀) (F : Fr h₀ L s.heap m) (N : News h₀ L s.heap news) (hlim : h₀.NoLimit) (hA : A.frames = some (env :: outer)) (hf : env.frame = some L) (hke : env.scope.kind = .function)
    (ho : s.heap.get? f = some fo) (hd : fo.data = .func (fnX name qual params body scope [] dV kV doc pm an cdv ct)) (hcd : s.heap.CodeRec cdv qual) (hroom : A.depth < recursionLimit)
    (hbind : BindsTo s (fnX name qual params body scope [] dV kV doc pm an cdv ct) args binds)
    (hkind : ∀ n, ∀ x ∈ binds, scope.names.lookup x.1 = some .local ∨ (scope.names.lookup x.1 = some .cell ∧ ((cellsFrom n scope.names []).lookup x.1).isSome = true))
    (hnd : ((cellsFrom 0 scope.names []).map (·.1)).Nodup)
    (h : ∀ g L' h₁ tk cells, Fr h₀ L g m → (∀ b o, s.heap.get? b = some o → b ∉ news.map (·.1) → g.get? b = some o) → Fr g L' h₁ (bindL (envOfC qual scope L' f cdv).kindOf binds fun _ => none) → News g L' h₁ (cells ++ news) → (∀ p ∈ cells, s.heap.get? p.1 = none) →
      CellsAre (bindC (envOfC qual scope L' f cdv).kindOf binds fun _ => none) (cellsFrom (L' + 1) scope.names []) cells → Below A base (env :: outer) g → h₀.StaysIn g →
      wpAny (model prog w) (A.deeper (envOfC qual scope L' f cdv)) (execs body (envOfC qual scope L' f cdv))
        (fun fl s' => LeaveK h₀ L m g R (match fl with | .ret v => v | _ => .none) s')
        (fun e s' => wpAny (model prog w) (A.deeper (envOfC qual scope L' f cdv)) (leaving (envOfC qual scope L' f cdv) e) (fun _ s'' => R (.error e) s'') (fun e' s'' => R (.error e') s'') s')
        { s with heap := h₁, toks := tk })
    (hco : scope.isCoroutine = false) (hgen : scope.isGenerator = false) (hk : scope.kind = .function) : codeAny (model prog w) A (.call (.ref f) args) R s := by
  obtain ⟨FG, BG, st, lv⟩ := groundX (R := R) B F N hA hf hke
  refine codeAny_call_function hroom ho hd hco hgen rfl hcd (hbind _ _ _ _ ?_)
  refine wpAny_newFunctionEnv_cells hk (hkind _) fun env' he s' x => ?_
  subst he
  refine ⟨(hlim.keeps F.keep).keeps x.toInCall.keep, codeAny_func ?_⟩
  obtain ⟨h₁, tk, rfl, _⟩ := x.done
  have hk₁ := x.toInCall.keep
  obtain ⟨cells, NC, Y⟩ := Cl.news (h₀ := s.heap) (Nat.le_refl _) fun n c hm => ⟨x.cell n c (lookup_of_mem_nodup (cellsFrom_names scope.names 0 (s.heap.objs.size + 1) [] [] rfl ▸ hnd) hm), x.above n c hm⟩
  refine wpAny_mono (h _ s.heap.objs.size h₁ tk cells FG (fun b o e hn => hideAll_get _ e hn) ⟨x.toInCall.ns, fun b o e => hk₁ b o (of_hideAll _ e), Nat.le_of_eq (hideAll_size _ _)⟩ (fun p hp => ?_) (fun p hp => (NC p hp).2.2) Y BG st) (fun fl s' hl => lv _ _ hl) fun _ _ y => y
  rcases List.mem_append.mp hp with hp | hp
  · refine ⟨(NC p hp).1, (NC p hp).2.1, ?_⟩
    cases q : (hideAll s.heap (news.map (·.1))).get? p.1 with
    | none => rfl
    | some o => have := of_hideAll _ q; rw [(NC p hp).2.2] at this; cases this
  · exact ⟨hk₁ _ _ (N p hp).1, Nat.ne_of_lt (Heap.lt_size (N p hp).1), hideAll_none _ (List.mem_map_of_mem hp)⟩
end
section
variable {φ : Fix} {α : List (List Addr)} {T M : Led}
theorem VIn.view {k : Nat} {v : Value} {x : V} (h : VIn φ α T v x) (hr : refOk k x = true) : VIn φ (α.take k) T v x := by
  cases h with
  | dat h => exact .dat h
  | @ref n a r h =>
    refine .ref (r := r) ?_
    rw [List.getElem?_take_of_lt (by simpa [refOk] using hr)]
    exact h
  | exn h => exact .exn h
  | strsL h k => exact .strsL h k
  | strsT h k => exact .strsT h k
theorem VAll.view {k : Nat} {vs : List Value} {xs : List V} (h : VAll φ α T vs xs) (hr : xs.all (refOk k) = true) : VAll φ (α.take k) T vs xs := by
  induction h with
  | nil => exact .nil
  | cons h _ ih =>
    rw [List.all_cons, Bool.and_eq_true] at hr
    exact .cons (h.view hr.1) (ih hr.2)
theorem Atts.view {k j : Nat} {es : List DictEntry} {xs : List V} (h : Atts φ α T j es xs) (hr : xs.all (refOk k) = true) : Atts φ (α.take k) T j es xs := by
  induction h with
  | nil j => exact .nil j
  | cons h _ ih =>
    rw [List.all_cons, Bool.and_eq_true] at hr
    exact .cons (h.view hr.1) (ih hr.2)
theorem CellIn.view {k : Nat} {r : List Addr} {cell : Cell} (h : CellIn φ α T M r cell) (hr : cellOk k cell = true) : CellIn φ (α.take k) T M r cell := by
  cases h with
  | dl a b => exact .dl a b
  | vl a b => exact .vl a (b.view hr)
  | ed a b c => exact .ed a b c
  | sd a b c d => exact .sd a b c d
  | pd a b => exact .pd a b
  | inst a b e c => exact .inst a b e (c.view hr)
theorem Pre.take (k : Nat) : Pre (α.take k) α := ⟨α.drop k, (List.take_append_drop k α).symm⟩
end
end Mine

end
section
set_option maxRecDepth 100000
set_option autoImplicit false
open PySem PySem.W PySem.Calls PyProof.Rows PyProof.V PySem.Spec
namespace Mine
/-- a function of the program, and its text's translation -/
structure FnOk (φ : Fix) (f : Nat) (F : Fn) where
  name : Str
  qual : Str
  params : Arguments
  body : List Stmt
  scope : Scope
  dV : Value
  kV : Value
  doc : Value
  pm : Value
  cdv : Value
  ct : Value
  an : Option Addr
  oc : Value
  od : Option Addr
  osl : Array (Option Value)
  ns : List Str
  fn : φ.K.lookup (φ.addr f) = some ⟨oc, od, .func (fnOf name qual params body scope dV kV doc pm an cdv ct), osl⟩
  code : codeIn φ.K cdv qual = true
  bind : ∀ (s : Shared) (vs : List Value), vs.length = F.arity → BindsTo s (fnOf name qual params body scope dV kV doc pm an cdv ct) ⟨vs, []⟩ ((ns.take F.arity).zip vs)
  len : ns.length = F.arity + F.locs
  nd : ns.Nodup
  args : ∀ x ∈ ns.take F.arity, scope.names.lookup x = some .local ∨ scope.names.lookup x = some .cell
  cellnd : ((cellsFrom 0 scope.names []).map (·.1)).Nodup
  kind : scope.kind = .function
  co : scope.isCoroutine = false
  gen : scope.isGenerator = false
  tr : ∀ {tb : Tabs} {n : Nat} {cl : Nat → List V → Hp → Rs V}, Ax φ tb n cl φ.K → SoundSs φ tb n cl scope ns body F.body

section
variable {φ : Fix} {tb : Tabs}
theorem zip_mem {ns : List Str} {vs : List Value} {i : Nat} {x : Str} {v : Value} (hx : ns[i]? = some x) (hv : vs[i]? = some v) : (x, v) ∈ ns.zip vs := by
  have : (ns.zip vs)[i]? = some (x, v) := by
    rw [List.getElem?_zip_eq_some]
    exact ⟨hx, hv⟩
  exact List.mem_of_getElem? this
/-- the frame of a call: what its names hold -/
theorem frame_slots {f : Nat} {F : Fn} (fo : FnOk φ f F) {c : Ctx} {n : Nat} {L' : Addr} {α : List (List Addr)} {T cells : Led} {vs : List Value} {Vs : List V} (hv : VAll φ α T vs Vs) (hl : vs.length = F.arity)
    (Y : CellsAre (bindC (envOfC fo.qual fo.scope L' (φ.addr f) fo.cdv).kindOf ((fo.ns.take F.arity).zip vs) fun _ => none) (cellsFrom (L' + 1) fo.scope.names []) cells) (hf : c.fenv = envOfC fo.qual fo.scope L' (φ.addr f) fo.cdv) (hL : c.L = L') (ok : c.Ok φ)
    (room : c.dp + 5 * n + 110 < recursionLimit) (unit : c.un + 20 * n + 100 < cLine) :
    SE φ n c fo.scope fo.ns (bindL (envOfC fo.qual fo.scope L' (φ.addr f) fo.cdv).kindOf ((fo.ns.take F.arity).zip vs) fun _ => none) (Vs ++ List.replicate F.locs .bot) α (cells ++ T) := by
  have hz : ((fo.ns.take F.arity).zip vs).map (·.1) = fo.ns.take F.arity := List.map_fst_zip (by rw [List.length_take, fo.len]; omega)
  have hnd : (((fo.ns.take F.arity).zip vs).map (·.1)).Nodup := by rw [hz]; exact fo.nd.sublist (List.take_sublist _ _)
  refine ⟨⟨ok, by rw [hf] <;> rfl, fo.kind, by rw [hf] <;> rfl, by rw [hf] <;> rfl, .inl ⟨by rw [hf, hL] <;> rfl, rfl⟩, fun i x V hx h0 hV hb => ?_, fun y hy => ?_, room, unit⟩, by rw [hf, hL] <;> rfl, fo.nd, by rw [hf]; unfold interactive; rw [show (envOfC fo.qual fo.scope L' (φ.addr f) fo.cdv).scope = fo.scope from rfl, fo.kind]; rfl⟩
  · have hVl := hv.length
    by_cases hi : i < F.arity
    · rw [List.getElem?_append_left (by omega)] at hV
      obtain ⟨v, hvi, hVin⟩ := hv.get hV
      have hxi : (fo.ns.take F.arity)[i]? = some x := by rw [List.getElem?_take_of_lt hi]; exact hx
      have hm := zip_mem hxi hvi
      refine ⟨v, hVin.mono (.refl _) fun p hp => List.mem_append_right _ hp, ?_⟩
      have hk : (envOfC fo.qual fo.scope L' (φ.addr f) fo.cdv).kindOf x = fo.scope.names.lookup x := rfl
      rw [hf]
      rcases fo.args x (List.mem_of_getElem? hxi) with h1 | h1
      · exact .inl ⟨hk.trans h1, bindL_in hnd hm (hk.trans h1)⟩
      · have hs := cellsFrom_some (x := x) fo.scope.names (L' + 1) [] (.inl h1)
        obtain ⟨a, ha⟩ := Option.isSome_iff_exists.mp hs
        obtain ⟨o, ho, hd⟩ := cells_mem Y ha
        refine .inr ⟨a, o, .inl (hk.trans h1), ha, List.mem_append_left _ ho, ?_⟩
        rw [hd, bindC_in hnd hm (by rw [hk, h1]; intro q; cases q)]
    · rw [List.getElem?_append_right (by omega)] at hV
      have := List.getElem?_replicate (n := F.locs) (a := Mine.V.bot) (i := i - Vs.length)
      rw [this] at hV
      split at hV
      · cases hV; exact absurd rfl hb
      · cases hV
  · rw [hf] at hy ⊢
    have hk : fo.scope.names.lookup y = some .cell := hy
    exact Option.isSome_iff_exists.mp (cellsFrom_some (x := y) fo.scope.names (L' + 1) [] (.inl hk))
end
end Mine

end
section
set_option maxRecDepth 100000
set_option autoImplicit false
open PySem PySem.W PySem.Calls PyProof.Rows PyProof.V PySem.Spec
namespace Mine
theorem leave_own {φ : Fix} {M : Model} {E : Value → Shared → Prop} {s : Shared} {c c' : Ctx} {mf mf' : Str → Option Value} {e : Value} {d : Dat} {Q : Unit → Shared → Prop} (hfen : c'.outer = c.fenv :: c.outer) (hb : c'.base = c.base) (st : c.h₀.StaysIn c'.h₀) (hn : c'.h₀.Ns c.L mf)
    {T₀ : Led} (F : Flown φ c' mf' T₀ e d s.heap) (hf : c'.fenv.frame = some c'.L) (h : ∀ h', Flown φ c mf T₀ e d h' → Q () { s with heap := h' }) : wpAny M c'.A (leaving c'.fenv e) Q E s := by
  obtain ⟨a, B, T, dd, rfl, hN, F⟩ := F
  unfold leaving
  refine wpAny_bind (F.noted hf rfl fun h₁ F₁ x₁ => F₁.flight x₁ (.inl rfl) fun h₂ F₂ x₂ u₂ => h h₂ ?_)
  have fr := F₂.frames
  rw [hfen] at fr
  obtain ⟨_, _, k2⟩ := fr
  exact ⟨a, B, T, dd, rfl, hN, ⟨(Heap.UpToSlots.of_keeps st).trans F₂.up, F₂.up.ns hn, hb ▸ F₂.base, F₂.stays, F₂.new, k2, fun p hp => ⟨(F₂.inT p hp).1, hb ▸ (F₂.inT p hp).2⟩, F₂.ball, x₂.state (.inl rfl)⟩⟩
section
variable {φ : Fix}
theorem flat_split (α : List (List Addr)) (k : Nat) : α.flatten = (α.take k).flatten ++ (α.drop k).flatten := by
  rw [← List.flatten_append, List.take_append_drop]
theorem take_adr {α : List (List Addr)} {M : Led} {k : Nat} (h : M.map (·.1) = α.flatten) : (M.take ((α.take k).flatten).length).map (·.1) = (α.take k).flatten := by
  rw [List.map_take, h, flat_split α k, List.take_left']
  rfl
theorem drop_adr {α : List (List Addr)} {M : Led} {k : Nat} (h : M.map (·.1) = α.flatten) : (M.drop ((α.take k).flatten).length).map (·.1) = (α.drop k).flatten := by
  rw [List.map_drop, h, flat_split α k, List.drop_left']
  rfl
theorem pre_take {α β : List (List Addr)} {k : Nat} (p : Pre (α.take k) β) (hk : k ≤ α.length) : β.take k = α.take k := by
  obtain ⟨γ, rfl⟩ := p
  exact List.take_left' (by rw [List.length_take]; omega)
theorem mem_take {α : List (List Addr)} {M : Led} {k : Nat} (h : M.map (·.1) = α.flatten) (nd : α.flatten.Nodup) {q : Addr × Obj} (hq : q ∈ M) (hr : q.1 ∈ (α.take k).flatten) : q ∈ M.take ((α.take k).flatten).length := by
  rw [← List.take_append_drop ((α.take k).flatten).length M] at hq
  rcases List.mem_append.mp hq with hq | hq
  · exact hq
  · have h2 : q.1 ∈ (α.drop k).flatten := by rw [← drop_adr h]; exact List.mem_map_of_mem hq
    rw [flat_split α k] at nd
    exact absurd rfl ((List.nodup_append.mp nd).2.2 _ hr _ h2)
theorem mem_drop' {α : List (List Addr)} {M : Led} {k : Nat} (h : M.map (·.1) = α.flatten) (nd : α.flatten.Nodup) {q : Addr × Obj} (hq : q ∈ M) (hr : q.1 ∈ (α.drop k).flatten) : q ∈ M.drop ((α.take k).flatten).length := by
  rw [← List.take_append_drop ((α.take k).flatten).length M] at hq
  rcases List.mem_append.mp hq with hq | hq
  · have h2 : q.1 ∈ (α.take k).flatten := by rw [← take_adr h]; exact List.mem_map_of_mem hq
    rw [flat_split α k] at nd
    exact absurd rfl ((List.nodup_append.mp nd).2.2 _ h2 _ hr)
  · exact hq
theorem merge {c c' : Ctx} {α α' : List (List Addr)} {T T' M M' : Led} {Λ Λ' : Hp} {mf mf' : Str → Option Value} {hs h' : Heap} {k : Nat} (S : StM φ c α T M Λ mf hs) (hk : k ≤ Λ.length) (S' : StM φ c' α' T' M' Λ' mf' h') (pre : Pre (α.take k) α') (sub : Sub T T')
    (hg : ∀ p ∈ M.drop ((α.take k).flatten).length, c'.h₀.get? p.1 = some p.2) (F : Fr c.h₀ c.L h' mf) (N : News c.h₀ c.L h' (M' ++ T')) (hk' : k ≤ Λ'.length) (hc : (Λ'.take k).all (cellOk k) = true) :
    StM φ c α T' (M'.take ((α.take k).flatten).length ++ M.drop ((α.take k).flatten).length) (Λ'.take k ++ Λ.drop k) mf h' := by
  have hkα : k ≤ α.length := by rw [S.len]; exact hk
  have ht := pre_take pre hkα
  have hlen : ((α'.take k).flatten).length = ((α.take k).flatten).length := by rw [ht]
  refine ⟨F, fun p hp => ?_, ?_, fun i r cell hr hcell => ?_, ?_, S.nd, fun p hp => ?_⟩
  · rcases List.mem_append.mp hp with hp | hp
    · rcases List.mem_append.mp hp with hp | hp
      · exact N p (List.mem_append_left _ (List.mem_of_mem_take hp))
      · have hM := List.mem_of_mem_drop hp
        exact ⟨S'.fr.keep _ _ (hg p hp), (S.nw p (List.mem_append_left _ hM)).2⟩
    · exact N p (List.mem_append_right _ hp)
  · rw [List.map_append, ← hlen, take_adr S'.adr, hlen, drop_adr S.adr, ht, ← flat_split]
  · have hl1 : (Λ'.take k).length = k := by rw [List.length_take]; omega
    by_cases hi : i < k
    · rw [List.getElem?_append_left (by omega)] at hcell
      have hcell' : Λ'[i]? = some cell := by rw [List.getElem?_take_of_lt hi] at hcell; exact hcell
      have hr' : (α.take k)[i]? = some r := by rw [List.getElem?_take_of_lt hi]; exact hr
      have hok : cellOk k cell = true := List.all_eq_true.mp hc _ (List.mem_of_getElem? hcell)
      have q := (S'.cells i r cell (pre.get hr') hcell').view hok
      rw [ht] at q
      refine q.mono (Pre.take k) (.refl _) fun z hz hzr => List.mem_append_left _ ?_
      rw [← hlen]
      refine mem_take S'.adr S'.nd hz ?_
      rw [ht]
      exact List.mem_flatten.mpr ⟨r, List.mem_of_getElem? hr', hzr⟩
    · rw [List.getElem?_append_right (by omega), hl1, List.getElem?_drop, show k + (i - k) = i by omega] at hcell
      refine (S.cells i r cell hr hcell).mono (.refl _) sub fun z hz hzr => List.mem_append_right _ (mem_drop' S.adr S.nd hz ?_)
      refine List.mem_flatten.mpr ⟨r, ?_, hzr⟩
      refine List.mem_of_getElem? (i := i - k) ?_
      rw [List.getElem?_drop, show k + (i - k) = i by omega]
      exact hr
  · rw [List.length_append, List.length_take, List.length_drop, S.len]; omega
  · intro q
    rw [flat_split α k] at q
    rcases List.mem_append.mp q with q | q
    · rw [← ht] at q
      refine S'.ap p hp ?_
      rw [flat_split α' k]
      exact List.mem_append_left _ q
    · rw [← drop_adr S.adr] at q
      obtain ⟨z, hz, e⟩ := List.mem_map.mp q
      have h1 := hg z hz
      have h2 := (S'.nw p (List.mem_append_right _ hp)).2.2
      rw [e, h2] at h1
      cases h1
end
end Mine

end
section
set_option maxRecDepth 100000
set_option autoImplicit false
open PySem PySem.W PySem.Calls PyProof.Rows PyProof.V PySem.Spec
namespace Mine
section
variable {φ : Fix} {tb : Tabs}
theorem sound_call (cs : φ.CS = cCS) (cp : φ.CP = cCP) (ad : φ.addr = addrOf) (ok : TabsOk φ tb) (ci : SymIs φ tb.init) (xi : ExnIs φ) (hf : ∀ f F, tb.fn f = some F → Nonempty (FnOk φ f F)) : ∀ n, SoundC φ n (evCall tb n) := by
  intro n
  induction n with
  | zero =>
    intro c f vs Vs mf α T Λ s Q X okc room unit st hv ha
    exact ha.elim
  | succ n ih =>
    intro c f vs Vs mf α T Λ s Q X okc room unit st hv ha
    unfold evCall at ha
    cases hF : tb.fn f with
    | none => rw [hF] at ha; exact ha.elim
    | some F =>
      rw [hF] at ha
      dsimp only at ha
      split at ha
      · rename_i hcond
        obtain ⟨hal, hkl, href, hcell⟩ := hcond
        obtain ⟨fo⟩ := hf f F hF
        obtain ⟨M, S⟩ := st
        generalize hk : viewOf F Λ = k at ha hkl href hcell
        have hvl := hv.length
        have hvs : vs.length = F.arity := by omega
        have KX := okc.inK.keeps S.fr.keep
        have hkα : k ≤ α.length := by rw [S.len]; exact hkl
        have NV : News c.h₀ c.L s.heap (M.take ((α.take k).flatten).length ++ T) := newsSub S.nw fun p hp => by
          rcases List.mem_append.mp hp with hp | hp
          · exact List.mem_append_left _ (List.mem_of_mem_take hp)
          · exact List.mem_append_right _ hp
        have hz : ((fo.ns.take F.arity).zip vs).map (·.1) = fo.ns.take F.arity := List.map_fst_zip (by rw [List.length_take, fo.len]; omega)
        refine callX_own okc.below S.fr NV (Top.nolimit okc.top) rfl okc.frame okc.kind (KX _ _ fo.fn) rfl (codeRec_of KX fo.code) (by show c.dp < recursionLimit; omega) (fo.bind s vs hvs) (fun m x hx => ?_) fo.cellnd (fun g L' h₁ tk cells FG hkeep F' N' hcn Y B' stg => ?_) fo.co fo.gen fo.kind
        · have hx1 : x.1 ∈ fo.ns.take F.arity := by rw [← hz]; exact List.mem_map_of_mem hx
          rcases fo.args _ hx1 with h1 | h1
          · exact .inl h1
          · exact .inr ⟨h1, cellsFrom_some _ _ _ (.inl h1)⟩
        · -- the callee's frame
          have hg : ∀ p ∈ M.drop ((α.take k).flatten).length, g.get? p.1 = some p.2 := fun p hp => by
            refine hkeep _ _ (S.getM (List.mem_of_mem_drop hp)) fun q => ?_
            have h2 : p.1 ∈ (α.drop k).flatten := by rw [← drop_adr S.adr]; exact List.mem_map_of_mem hp
            obtain ⟨z, hz, e⟩ := List.mem_map.mp q
            rcases List.mem_append.mp hz with hz | hz
            · have h1 : z.1 ∈ (α.take k).flatten := by rw [← take_adr S.adr]; exact List.mem_map_of_mem hz
              have nd := S.nd
              rw [flat_split α k] at nd
              exact absurd e ((List.nodup_append.mp nd).2.2 _ h1 _ h2)
            · refine S.ap z hz ?_
              rw [e, flat_split α k]
              exact List.mem_append_right _ h2
          have okc' : Ctx.Ok φ (⟨c.dp + 1, c.un + 3, c.gd, envOfC fo.qual fo.scope L' (φ.addr f) fo.cdv, c.fenv :: c.outer, c.A, c.base, g, L'⟩ : Ctx) :=
            ⟨B', okc.inK.keeps stg, okc.top.keeps stg, rfl, fo.kind, Heap.NoSeer.keeps okc.seer stg, okc.tree, fo.gen, fo.co, rfl, rfl⟩
          have S' : StM φ (⟨c.dp + 1, c.un + 3, c.gd, envOfC fo.qual fo.scope L' (φ.addr f) fo.cdv, c.fenv :: c.outer, c.A, c.base, g, L'⟩ : Ctx) (α.take k) (cells ++ T) (M.take ((α.take k).flatten).length) (Λ.take k) (bindL (envOfC fo.qual fo.scope L' (φ.addr f) fo.cdv).kindOf ((fo.ns.take F.arity).zip vs) fun _ => none) h₁ := by
            refine ⟨F', newsSub N' fun p hp => ?_, take_adr S.adr, fun i r cell hr hc => ?_, by rw [List.length_take, List.length_take, S.len], ?_, fun p hp q => ?_⟩
            · simp only [List.mem_append] at hp ⊢
              rcases hp with hp | hp | hp
              · exact .inr (.inl hp)
              · exact .inl hp
              · exact .inr (.inr hp)
            · have hi : i < k := by
                have := (List.getElem?_eq_some_iff.mp hr).1
                rw [List.length_take] at this; omega
              rw [List.getElem?_take_of_lt hi] at hc
              have hr2 : α[i]? = some r := by rw [List.getElem?_take_of_lt hi] at hr; exact hr
              have hok : cellOk k cell = true := List.all_eq_true.mp hcell _ (List.mem_of_getElem? (i := i) (by rw [List.getElem?_take_of_lt hi]; exact hc))
              exact ((S.cells i r cell hr2 hc).view hok).mono (.refl _) (fun p hp => List.mem_append_right _ hp) fun z hz hzr => mem_take S.adr S.nd hz (List.mem_flatten.mpr ⟨r, List.mem_of_getElem? hr, hzr⟩)
            · have nd := S.nd
              rw [flat_split α k] at nd
              exact (List.nodup_append.mp nd).1
            · rcases List.mem_append.mp hp with hp | hp
              · rw [← take_adr S.adr] at q
                obtain ⟨z, hz, e⟩ := List.mem_map.mp q
                have h1 := S.getM (List.mem_of_mem_take hz)
                rw [e, hcn p hp] at h1
                cases h1
              · refine S.ap p hp ?_
                rw [flat_split α k]
                exact List.mem_append_left _ q
          have se' := frame_slots fo (n := n) (hv.view href) hvs Y (c := ⟨c.dp + 1, c.un + 3, c.gd, envOfC fo.qual fo.scope L' (φ.addr f) fo.cdv, c.fenv :: c.outer, c.A, c.base, g, L'⟩) rfl rfl okc' (by show c.dp + 1 + 5 * n + 110 < recursionLimit; omega) (by show c.un + 3 + 20 * n + 100 < cLine; omega)
          -- what it gives back
          have back : ∀ (V : V) (Λ' : Hp) (v : Value) (α' : List (List Addr)) (T' : Led) (mf' : Str → Option Value) (h' : Heap) (tk' : Nat), After φ c α T mf s Q X (finCall F k Λ V Λ') → Pre (α.take k) α' → Sub (cells ++ T) T' → St φ (⟨c.dp + 1, c.un + 3, c.gd, envOfC fo.qual fo.scope L' (φ.addr f) fo.cdv, c.fenv :: c.outer, c.A, c.base, g, L'⟩ : Ctx) α' T' Λ' mf' h' → VIn φ α' T' v V →
              LeaveK c.h₀ c.L mf g (fun r s' => match r with | .ok (.ret v) => Q v s' | .ok _ => False | .error e => X e s') v { s with heap := h', toks := tk' } := by
            intro V Λ' v α' T' mf' h' tk' hfin pre sub st' hv'
            obtain ⟨M', S₂⟩ := st'
            refine leaveK_ (s' := { s with heap := h', toks := tk' }) S₂.fr S₂.nw fun F₀ N₀ => ?_
            have subT : Sub T T' := fun p hp => sub p (List.mem_append_right _ hp)
            unfold finCall at hfin
            split at hfin
            · rename_i hkeep'
              split at hfin
              · have hkk : k = Λ.length := by rw [← hk]; unfold viewOf; rw [if_pos hkeep']
                have hαk : α.take k = α := List.take_of_length_le (by rw [S.len]; omega)
                rw [hαk] at pre
                exact hfin v α' T' h' tk' pre subT ⟨M', ⟨F₀, N₀, S₂.adr, S₂.cells, S₂.len, S₂.nd, S₂.ap⟩⟩ hv'
              · exact hfin.elim
            · split at hfin
              · rename_i hc
                obtain ⟨hc1, hc2, hc3⟩ := hc
                have S₃ := merge S hkl S₂ pre subT hg F₀ N₀ hc1 hc3
                have hv₂ := hv'.view hc2
                rw [pre_take pre hkα] at hv₂
                exact hfin v α T' h' tk' (.refl _) subT ⟨_, S₃⟩ (hv₂.mono (Pre.take k) (.refl _))
              · exact hfin.elim
          refine fo.tr ⟨rfl, cs, cp, ad, ok, ih, ci, xi⟩ (c := ⟨c.dp + 1, c.un + 3, c.gd, envOfC fo.qual fo.scope L' (φ.addr f) fo.cdv, c.fenv :: c.outer, c.A, c.base, g, L'⟩) (s := { s with heap := h₁, toks := tk }) se' ⟨_, S'⟩ ?_
          cases hr : exSs tb (evCall tb n) F.body (Vs ++ List.replicate F.locs .bot) (Λ.take k) with
          | bad => rw [hr] at ha; exact ha.elim
          | err d =>
            rw [hr] at ha
            intro e mf' h' tk' Fl
            exact leave_own (c := c) (c' := ⟨c.dp + 1, c.un + 3, c.gd, envOfC fo.qual fo.scope L' (φ.addr f) fo.cdv, c.fenv :: c.outer, c.A, c.base, g, L'⟩) (s := { s with heap := h', toks := tk' }) rfl rfl stg FG.ns (Fl.weak fun p hp => List.mem_append_right cells hp) rfl fun h₂ F₂ => ha e h₂ tk' F₂
          | next ρ' Λ' =>
            rw [hr] at ha
            exact fun α' T' mf' h' tk' pre sub st' _ => back _ Λ' .none α' T' mf' h' tk' ha pre sub st' (.dat .none)
          | ret V Λ' =>
            rw [hr] at ha
            exact fun v α' T' mf' h' tk' pre sub st' hv' => back V Λ' v α' T' mf' h' tk' ha pre sub st' hv'
      · exact ha.elim
end
end Mine

end
section
set_option maxRecDepth 100000
set_option autoImplicit false
open PySem PySem.W PySem.Calls PyProof.Rows PyProof.V PySem.Spec
open Builtin Builtin.ObjectAttr
namespace Mine
/-! error.ball -/
section
variable {φ : Fix} {A : Around} {E : Value → Shared → Prop} {s : Shared}
structure BallIs (φ : Fix) : Prop where
  ga : findIn φ.K (.ref φ.CP) "__getattribute__" = some (some (.builtin "BaseException.__getattribute__"))
  gh : findIn φ.K (.ref φ.CP) "__getattr__" = some none
  no : findIn φ.K (.ref φ.CP) "ball" = some none
theorem lookIn_dictOf {es : List DictEntry} {n : Nat} {v : Value} (h : getL "ball" es = some (some v)) : lookIn "ball" (dictOf es n) = some (some v) := by
  unfold lookIn
  exact h
theorem get_ball (xi : ExnIs φ) (bi : BallIs φ) (X : φ.K.In s.heap) {a dd : Addr} {o : Obj} {es : List DictEntry} {n : Nat} {v : Value} {vs : Array Value} (he : s.heap.get? a = some o) (hc : o.cls = .ref φ.CP) (hd : o.dict = some dd) (hf : o.data = .fields vs)
    (hdd : s.heap.get? dd = some (dictOf es n)) (hb : getL "ball" es = some (some v)) (hh : handedIn v = true) {expr : Bool} {Q : Value → Shared → Prop} (hq : Q v { s with toks := s.toks + 1 }) :
    wpAny (model φ.prog φ.w) A (getAttr (.ref a) "ball" expr) Q E s := by
  have hq0 := hq
  have FB := PySem.F.attrBase_Exception
  obtain ⟨cd, hcd, hmro, hdict⟩ : ∃ cd, clsIn φ.K φ.CP = some cd ∧ cd.mro = .ref φ.CP :: .ref xi.CE :: bmE ∧ cd.hasDict = true := ⟨_, by unfold clsIn; rw [xi.cls], rfl, rfl⟩
  have I : InstAt s.heap a o φ.CP (some (dictOf es n)) := ⟨he, hc, by unfold notCls; rw [hf], by rw [hd]; exact hdd⟩
  have L0 : Looks (model φ.prog φ.w) s.heap (typeOf (.ref a)) (.ref φ.CP) := I.type
  have L1 := looks_findIn (M := model φ.prog φ.w) X bi.ga
  have L2 := looks_findIn (M := model φ.prog φ.w) X bi.gh
  have L3 : Looks (model φ.prog φ.w) s.heap (find (.ref a) (.ref φ.CP) "ball") (.value v) := by
    refine looks_find X I ?_
    unfold findObj
    rw [hcd, bi.no]
    simp only [Option.bind_some, PySem.W.ownOf, hdict, if_true]
    rw [lookIn_dictOf hb]
    rfl
  have f3 := FB.ga.bind (.ref a)
  have hx0 : (expr && onTheHeap (Value.builtin "BaseException.__getattribute__")) = false := by cases expr <;> rfl
  have hx1 : (onTheHeap (Value.ref φ.CP) && Value.builtin "BaseException.__getattribute__" == Value.builtin "object.__getattribute__") = false := by rw [show (Value.builtin "BaseException.__getattribute__" == Value.builtin "object.__getattribute__") = false from by decide +kernel]; rfl
  have hk : builtinKind "BaseException.__getattribute__" = some .slot := by decide +kernel
  have hsplit : splitId "BaseException.__getattribute__" = some ("BaseException", "__getattribute__") := by decide +kernel
  obtain ⟨hh', g, d, t, os⟩ := s
  have sub : Looks (model φ.prog φ.w) hh' (isInstance (.ref a) (.type "BaseException")) true := L0.andThen (looks_mroIn X (by unfold mroIn; rw [hcd, Option.bind_some, hmro]; rfl))
  unfold getAttr
  refine wpAny_bind (wpAny_mkText ?_)
  unfold getAttrBy
  refine wpAny_holding (wpAny_bind (L0.at (wpAny_bind (L1.at ?_))))
  dsimp only
  rw [hx1, if_neg (by decide)]
  unfold getAttrByItsOwn hookBefore
  refine wpAny_bind (L2.at (wpAny_bind ?_))
  unfold callGetattribute
  rw [hx0, if_neg (by decide)]
  unfold boundAndCalled
  refine wpAny_attempt (wpAny_holding (wpAny_bind ?_))
  have f4 : wpAny (model φ.prog φ.w) A (bindSpecial (.builtin "BaseException.__getattribute__") (.ref a)) (fun r s' => r = (.builtin "BaseException.__getattribute__", [.ref a]) ∧ s' = ⟨hh', g, d, t + 1, os⟩) (fun _ _ => False) ⟨hh', g, d, t + 1, os⟩ := by
    rw [f3]; exact wpAny_pure ⟨rfl, rfl⟩
  refine wpAny_mono f4 (fun r s' hr => ?_) fun _ _ x => x.elim
  obtain ⟨rfl, rfl⟩ := hr
  refine wpAny_call (codeAny_call_builtin FB.ga.plain PySem.F.entry_bexc_ga (@check_slot (model φ.prog φ.w) _ _ ⟨hh', g, d, t + 1, os⟩ "BaseException.__getattribute__" "BaseException" "__getattribute__" (.ref a) [.str "ball" t] [] _ hk hsplit sub (PySem.F.args_bexc_ga (.ref a) (.str "ball" t)) ?_))
  unfold Builtin.«object.__getattribute__»
  refine wpAny_bind (wpAny_pure ?_)
  refine wpAny_bind (wpAny_pure ?_)
  refine wpAny_bind (L0.at (wpAny_bind (L3.at ?_)))
  refine wpAny_pure ?_
  show wpAny _ _ (handedOut v) _ _ _
  rw [handedOut_of hh]; exact wpAny_pure hq
end
end Mine

end
section
set_option maxRecDepth 100000
set_option autoImplicit false
open PySem PySem.W PySem.Calls PyProof.Rows PyProof.V PySem.Spec
namespace Mine
/-! the first statement of the law: cells = script[:63] -/
section
variable {φ : Fix} {n : Nat} {c : Ctx} {sc : Scope} {ns : List Str} {ρ : Env} {mf : Str → Option Value} {s : Shared} {Q : Flow → Shared → Prop} {X : Value → Shared → Prop} {T : Led}
theorem ints_dats {T : Led} {vs : List Value} {is : List Int} (h : IntsAre vs is) : DatAll T vs (is.map .int) := by
  induction h with
  | nil => exact .nil
  | cons t ih => exact .cons (.int _ _) (by assumption)
theorem ints_len {vs : List Value} {is : List Int} (h : IntsAre vs is) : vs.length = is.length := by
  induction h with
  | nil => rfl
  | cons t ih => simp only [List.length_cons]; omega
theorem law_slice {x y : Str} {i k : Nat} {p1 p2 p3 p4 p5 p6 : Pos} {l : Addr} {vs : List Value} {is : List Int} {α : List (List Addr)} {Λ : Hp}
    (se : SE φ n c sc ns mf ρ α T) (st : St φ c α T Λ mf s.heap) (hl : s.heap.IsList l vs.toArray) (hi : IntsAre vs is) (hlen : is.length ≤ 63) (hx : ns[i]? = some x) (hlo : sc.names.lookup x = some .local) (hy : c.fenv.kindOf y = some .local) (hm : mf y = some (.ref l)) (dbg : (y == ("__debug__" : Str)) = false)
    (hsw : ∀ env, swapsWith (.Subscript (.Name y p2) (.Slice none (some (.Constant (.int 63) k p3)) none p4) p5) (some (.Name x p1)) p6.line env = pure false)
    (h : ∀ mf' h' tk a, St φ c (α ++ [[a]]) T (Λ ++ [.dl (is.map .int)]) mf' h' → SE φ n c sc ns mf' (ρ.set i (.ref α.length)) (α ++ [[a]]) T → Q .next { s with heap := h', toks := tk }) :
    wpAny (model φ.prog φ.w) c.A (exec (.Assign [.Name x p1] (.Subscript (.Name y p2) (.Slice none (some (.Constant (.int 63) k p3)) none p4) p5) p6) c.fenv) Q X s := by
  refine wpAny_Assign_Name ?_ (hsw _)
  have hk : c.fenv.scope.kind = .function := by rw [se.ec.scope]; exact se.ec.kind
  obtain ⟨M, S⟩ := id st
  refine PyProof.Rows.Subscript_ (wpAny_Name (wpAny_loadName_local hk hy (by rw [se.loc]; exact S.fr.ns) hm ?_) dbg)
  refine wpAny_Slice ?_
  rw [evalPart_none, evalPart_some]
  refine wpAny_pure ?_
  have cst : ∀ {Q X : Value → Shared → Prop} {s : Shared} {env : PySem.Env}, Q (.int 63 s.toks) { s with toks := s.toks + 1 } → wpAny (model φ.prog φ.w) c.A (eval (.Constant (.int 63) k p3) env) Q X s := fun h _ _ _ => h
  refine cst ?_
  refine wpAny_pure ?_
  have hsz := ints_len hi
  refine slice_list3 (s := { s with toks := s.toks + 1 }) S.fr S.nw hl .none (.int 63 _) .none (by decide) (fun h' F' N' => ?_) (hsz := by rw [sizeLine_eq]; simp only [List.size_toArray]; omega)
  have hsl := slice_ints_uptoW hi (y := 63) (by decide)
  rw [List.take_of_length_le (by simpa using hlen)] at hsl
  generalize hw : (slicePick vs.toArray none (some 63) none) = w at hsl N'
  have S' := S.cell (r := [s.heap.objs.size + 1]) (R := [(s.heap.objs.size + 1, listOf w 0)]) (cell := .dl (is.map .int)) F' N' rfl (by simp) (fun a ha => by
    rw [List.mem_singleton] at ha
    subst ha
    exact ⟨S.fresh (Nat.le_succ _), fun p hp e => by have := Heap.lt_size (S.getT hp); rw [e] at this; exact absurd this (Nat.not_lt.mpr (Nat.le_succ _))⟩) (.dl (vs := w.toList) (n := 0) (by simp) (ints_dats hsl))
  refine store_own (s := { s with heap := h', toks := s.toks + 1 }) (V := .ref α.length) (se.mono ⟨[[_]], rfl⟩ (.refl _)) ⟨_, S'⟩ hx hlo (.ref (r := []) (by simp)) fun mf' h'' st' se' => h mf' h'' _ _ st' se'
end
end Mine

end
section
set_option maxRecDepth 100000
set_option autoImplicit false
open PySem PySem.W PySem.Calls PyProof.Rows PyProof.V PySem.Spec
namespace Mine
/-! the law's except clause -/
mutual
theorem datIn_N {T T' : Led} (hs : SubN T T') : ∀ {v : Value} {d : Dat}, DatIn T v d → DatIn T' v d
  | _, _, .none => .none
  | _, _, .bool b => .bool b
  | _, _, .int i t => .int i t
  | _, _, .str x t => .str x t
  | _, _, .bytes b t => .bytes b t
  | _, _, .tuple h k => .tuple (hs _ h (fun _ q => by cases q)) (datAll_N hs k)
  | _, _, .list h k => .list (hs _ h (fun _ q => by cases q)) (datAll_N hs k)
theorem datAll_N {T T' : Led} (hs : SubN T T') : ∀ {v : List Value} {d : List Dat}, DatAll T v d → DatAll T' v d
  | _, _, .nil => .nil
  | _, _, .cons a b => .cons (datIn_N hs a) (datAll_N hs b)
end
section
variable {φ : Fix} {n : Nat} {c : Ctx} {sc : Scope} {ns : List Str} {mf : Str → Option Value} {s : Shared} {Q : Flow → Shared → Prop} {X : Value → Shared → Prop} {T : Led}
/-- nothing changes but the names -/
theorem names_own {x : Str} {v : Value} {K : Unit → Shared → Prop} {E : Value → Shared → Prop} {A : Around} {M : Model} {h₀ : Heap} (hk : c.fenv.scope.kind = .function) (hloc : c.fenv.locals = c.L) (hx : c.fenv.kindOf x = some .local) (F : Fr h₀ c.L s.heap mf) (N : News h₀ c.L s.heap T)
    (k : ∀ h', Fr h₀ c.L h' (fun y => if y = x then some v else mf y) → News h₀ c.L h' T → K () { s with heap := h', toks := s.toks + 1 }) : wpAny M A (storeName c.fenv x v) K E s :=
  wpAny_storeName_local (m := mf) hx (by rw [hloc]; exact F.ns) (fun h' hn hs => by rw [hloc] at hn hs; exact k _ (F.set hn hs) (N.set hs)) (by rw [hk]; rfl)
theorem law_caught (xi : ExnIs φ) (bi : BallIs φ) {ρ : Env} {α : List (List Addr)} {e : Value} {d du : Dat} {iu it : Nat} {u t x P : Str} {p7 p8 p9 p10 p11 p12 p13 p14 : Pos} {k1 k2 : Nat}
    (se : SE φ n c sc ns mf ρ α T) (habove : c.h₀.objs.size ≤ c.L) (F : Flown φ c mf T e d s.heap) (hb : c.base = c.h₀) (gP : GlIs φ sc P (.ref φ.CP)) (hx : sc.names.lookup x = some .local) (ht : sc.names.lookup t = some .local) (hu : sc.names.lookup u = some .local)
    (iu' : ns[iu]? = some u) (it' : ns[it]? = some t) (hdu : ρ[iu]? = some (.dat du)) (hut : u ≠ t) (hux : u ≠ x) (htx : t ≠ x) (dbg : (x == ("__debug__" : Str)) = false)
    (hsw : ∀ env, swapsWith (.Tuple [.Constant (.bool false) k1 p9, .Attribute (.Name x p10) "ball" p11] k2 p12) (some (.Name t p8)) p13.line env = pure false)
    (h : ∀ mf' h' tk T', St φ c [] T' [] mf' h' → SE φ n c sc ns mf' (((List.replicate ns.length .bot).set iu (.dat du)).set it (.dat (.tuple [.bool false, d]))) [] T' → Q .next { s with heap := h', toks := tk }) :
    wpAny (model φ.prog φ.w) c.A (noteFrame e c.fenv) (fun _ s₂ => wpAny (model φ.prog φ.w) c.A (setFlight e none) (fun _ s₃ => wpAny (model φ.prog φ.w) c.A
      (handleBy e c.fenv [.ExceptHandler (some (.Name P p7)) (some x) [.Assign [.Name t p8] (.Tuple [.Constant (.bool false) k1 p9, .Attribute (.Name x p10) "ball" p11] k2 p12) p13] p14]) Q X s₃) X s₂) X s := by
  obtain ⟨a, B, T', dd, rfl, hN, F⟩ := F
  have okc := se.ec.ok
  have hk : c.fenv.scope.kind = .function := by rw [se.ec.scope]; exact se.ec.kind
  have TR := topRead_of okc.top
  refine F.noted okc.frame rfl fun h₁ F₁ x₁ => F₁.flight (s := { s with heap := h₁ }) x₁ (.inl rfl) fun h₂ F₂ x₂ u₂ => ?_
  have keep₂ : ∀ b o, c.h₀.get? b = some o → h₂.get? b = some o := fun b o e => F₂.stays b o (F₂.base b o (by rw [hb]; exact e))
  refine wpAny_handleBy_cons (codeAny_handlers_test (Name_function_global hk (se.ec.kindOf gP.glob) (loadGlobal_global (by rw [se.ec.gl]; exact TR.g.keeps keep₂) (mg_of okc.inK TR.g gP.here) ?_) gP.dbg)) (by intro q; cases q)
  obtain ⟨oe, vs, Tb, oT, ts, he, hcls, hd, h1, hnT, hTe, hT, hdT, h3⟩ := id x₂
  have X₂ : φ.K.In h₂ := okc.inK.keeps keep₂
  refine wpAny_excMatches_sub_self (X₂ _ _ xi.cls) he hcls.1 (by rfl) (codeAny_handlers_suite_as ?_)
  refine F₂.flight (s := { s with heap := h₂ }) x₂ (.inl rfl) fun h₃ F₃ x₃ u₃ => ?_
  have keep₃ : ∀ b o, c.h₀.get? b = some o → h₃.get? b = some o := fun b o e => F₃.stays b o (F₃.base b o (by rw [hb]; exact e))
  obtain ⟨oe₃, vs₃, Tb₃, oT₃, ts₃, he₃, hcls₃, hd₃, -⟩ := id x₃
  have hBL : B.get? c.L = none := by
    obtain ⟨_, ⟨L', _, hf, hn', _⟩, _⟩ := F₃.frames
    obtain rfl : c.L = L' := Option.some.inj (okc.frame.symm.trans hf)
    exact hn'
  have old : ∀ b, B.get? b = none → c.h₀.get? b = none := fun b hb' => by
    cases q : c.h₀.get? b with
    | none => rfl
    | some o => have := F₃.base b o (by rw [hb]; exact q); rw [hb'] at this; cases this
  have hns := F₃.ns
  have hneL : a ≠ c.L := fun q => by
    obtain ⟨o, es, ep, e1, e2, -⟩ := hns
    rw [← q, he₃] at e1
    cases e1
    rw [hd₃] at e2
    cases e2
  have N₃ : News c.h₀ c.L h₃ ((a, oe₃) :: T') := fun p hp => by
    rcases List.mem_cons.mp hp with rfl | hp
    · exact ⟨he₃, hneL, old _ F₃.new⟩
    · obtain ⟨q1, q2⟩ := F₃.inT p hp
      exact ⟨F₃.stays _ _ q1, fun q => (by rw [q, hBL] at q1; cases q1), by rw [← hb]; exact q2⟩
  have Fr₃ : Fr c.h₀ c.L h₃ mf := ⟨hns, keep₃, habove⟩
  refine names_own (s := { s with heap := h₃ }) hk se.loc (se.ec.kindOf hx) Fr₃ N₃ fun h₄ Fr₄ N₄ => ?_
  obtain ⟨v, es, ne, hdd, hball, hv⟩ := F₃.ball
  have G₄ : ∀ p ∈ (a, oe₃) :: T', h₄.get? p.1 = some p.2 := fun p hp => (N₄ p hp).1
  refine wpAny_execs_cons (wpAny_Assign_Name (PyProof.Rows.Tuple_ ?_) (hsw _))
  have cst : ∀ {Q X : Value → Shared → Prop} {s : Shared} {A : Around} {env : PySem.Env}, Q (.bool false) s → wpAny (model φ.prog φ.w) A (eval (.Constant (.bool false) k1 p9) env) Q X s := fun h _ _ _ => h
  refine spliced_cons (cst (spliced_cons (PyProof.Rows.Attribute_any_ (wpAny_Name (wpAny_loadName_local (m := fun y => if y = x then some (.ref a) else mf y) (v := .ref a) hk (se.ec.kindOf hx) (by rw [se.loc]; exact Fr₄.ns) (by simp) ?_) dbg) ?_)))
  · refine get_ball xi bi (okc.inK.keeps Fr₄.keep) (G₄ _ (.head _)) hcls₃.1 hcls₃.2 hd₃ (G₄ _ (.tail _ hdd)) hball hv.handed ?_
    refine spliced_nil ?_
    have hd0 : DatIn T' v d := hv
    refine wpAny_newObj_type ?_ (by show (#[_, _] : Array Value).size ≤ sizeLine; rw [sizeLine_eq]; simp)
    have Fr₅ := Fr₄.push { cls := .type "tuple", data := .seq [Value.bool false, v].toArray }
    have N₅ := N₄.push Fr₄ { cls := .type "tuple", data := .seq [Value.bool false, v].toArray } rfl
    refine names_own (s := { s with heap := h₄.push { cls := .type "tuple", data := .seq [Value.bool false, v].toArray }, toks := _ }) hk se.loc (se.ec.kindOf ht) Fr₅ N₅ fun h₆ Fr₆ N₆ => ?_
    refine wpAny_execs_nil ?_
    refine wpAny_nameGoes_keeps (se.ec.kindOf hx) (by rw [se.loc]; exact Fr₆.ns) (by rw [hk]; rfl) fun h₇ w hn hs => ?_
    rw [se.loc] at hn hs
    have Fr₇ := Fr₆.set hn hs
    have N₇ := N₆.set hs
    have iul := (List.getElem?_eq_some_iff.mp iu').1
    have itl := (List.getElem?_eq_some_iff.mp it').1
    have iut : iu ≠ it := fun q => hut (by rw [q, it'] at iu'; exact (Option.some.inj iu').symm)
    have hvar : ∀ {y : Str}, sc.names.lookup y = some .local → hasVar sc y = true := fun q => by unfold hasVar; rw [q]
    refine h _ _ _ _ ⟨[], Fr₇, newsSub N₇ (fun p hp => hp), rfl, fun i r cell hr _ => by simp at hr, rfl, by simp, fun p _ q => by simp at q⟩ ⟨⟨okc, se.ec.scope, se.ec.kind, se.ec.gl, se.ec.bi, .inl ⟨se.loc, rfl⟩, fun j y W hj h0 hW hbt => ?_, se.ec.cells, se.ec.room, se.ec.unit⟩, se.loc, se.nd, se.inter⟩
    by_cases e1 : j = it
    · subst e1
      rw [it'] at hj
      cases hj
      rw [List.getElem?_set_self (by simpa using itl)] at hW
      cases hW
      refine ⟨_, .dat (.tuple (.head _) (.cons (.bool false) (.cons (hd0.mono fun p hp => .tail _ (.tail _ hp)) .nil))), .inl ⟨se.ec.kindOf ht, ?_⟩⟩
      rw [if_neg htx, if_pos rfl]
    · rw [List.getElem?_set_ne (Ne.symm e1)] at hW
      by_cases e2 : j = iu
      · subst e2
        rw [iu'] at hj
        cases hj
        rw [List.getElem?_set_self (by simpa using iul)] at hW
        cases hW
        obtain ⟨v0, hv0, hm⟩ := se.ec.slots _ _ _ iu' (hvar hu) hdu (by intro q; cases q)
        replace hv0 := hv0.to_dat; cases hv0 with
        | dat hv0 =>
          refine ⟨v0, .dat ((datIn_N hN hv0).mono fun p hp => .tail _ (.tail _ hp)), ?_⟩
          rcases hm with ⟨q1, q2⟩ | ⟨a', o', q1, -⟩
          · refine .inl ⟨q1, ?_⟩
            rw [if_neg hux, if_neg hut, if_neg hux, q2]
          · rw [se.ec.kindOf hu] at q1
            rcases q1 with q1 | q1 <;> cases q1
      · rw [List.getElem?_set_ne (Ne.symm e2)] at hW
        rw [List.getElem?_replicate] at hW
        split at hW
        · cases hW; exact absurd rfl hbt
        · cases hW
  · show (do
      let o ← attributeBase (.Name x p10) "ball" c.fenv (eval (.Name x p10) c.fenv)
      standAt p11.atName
      let r ← holding [o] (getAttr o "ball" true)
      letTemporaryGo (.Name x p10) o r
      pure r) = _
    rw [attributeBase_plain rfl]
end
end Mine

end
section
set_option maxRecDepth 100000
set_option autoImplicit false
open PySem PySem.W PySem.Calls PyProof.Rows PyProof.V PySem.Spec
namespace Mine
/-! the law's body -/
section
variable {φ : Fix} {tb : Tabs} {n : Nat} {cl : Nat → List V → Hp → Rs V}
/-- what the machine is to answer -/
noncomputable def LawPure (tb : Tabs) (cl : Nat → List V → Hp → Rs V) (k ic iu it : Nat) (ts : Ss) (te re : E) (is : List Int) : Prop :=
  ∃ ρ₁ Λ₁ du, exSs tb cl ts ((List.replicate k .bot).set ic (.ref 0)) [.dl (is.map .int)] = .next ρ₁ Λ₁ ∧ ρ₁[iu]? = some (.dat du) ∧ it < ρ₁.length ∧
    ((∃ v Λ₂ Λ₃, evE tb cl ρ₁ te Λ₁ = .ok v Λ₂ ∧ evE tb cl (ρ₁.set it v) re Λ₂ = .ok (.dat (.bool true)) Λ₃) ∨
     (∃ d Λ₃, evE tb cl ρ₁ te Λ₁ = .err d ∧ evE tb cl (((List.replicate k .bot).set iu (.dat du)).set it (.dat (.tuple [.bool false, d]))) re [] = .ok (.dat (.bool true)) Λ₃))
theorem law_run (xi : ExnIs φ) (bi : BallIs φ) {c : Ctx} {sc : Scope} {ns : List Str} {mf : Str → Option Value} {s : Shared} {Q : Flow → Shared → Prop} {X : Value → Shared → Prop}
    {l : Addr} {vs : List Value} {is : List Int} {mid : List Stmt} {ts : Ss} {pe pr : Expr} {te re : E} {ic iu it : Nat} {k k1 k2 : Nat} {S C u t x P : Str} {p1 p2 p3 p4 p5 p6 p7 p8 p9 p10 p11 p12 p13 p14 p15 p16 p17 p18 : Pos}
    (se : SE φ n c sc ns mf (List.replicate ns.length .bot) [] []) (st : St φ c [] [] [] mf s.heap) (hb : c.base = c.h₀)
    (hl : s.heap.IsList l vs.toArray) (hi : IntsAre vs is) (hlen : is.length ≤ 63) (hS : c.fenv.kindOf S = some .local) (hm : mf S = some (.ref l)) (dbgS : (S == ("__debug__" : Str)) = false)
    (ic' : ns[ic]? = some C) (hC : sc.names.lookup C = some .local) (iu' : ns[iu]? = some u) (hu : sc.names.lookup u = some .local) (it' : ns[it]? = some t) (ht : sc.names.lookup t = some .local) (hx : sc.names.lookup x = some .local)
    (hut : u ≠ t) (hux : u ≠ x) (htx : t ≠ x) (dbgx : (x == ("__debug__" : Str)) = false) (gP : GlIs φ sc P (.ref φ.CP))
    (sw1 : ∀ env, swapsWith (.Subscript (.Name S p2) (.Slice none (some (.Constant (.int 63) k p3)) none p4) p5) (some (.Name C p1)) p6.line env = pure false)
    (sw2 : ∀ env, swapsWith pe (some (.Name t p15)) p16.line env = pure false)
    (sw3 : ∀ env, swapsWith (.Tuple [.Constant (.bool false) k1 p9, .Attribute (.Name x p10) "ball" p11] k2 p12) (some (.Name t p8)) p13.line env = pure false)
    (tm : EachSt φ tb n cl sc ns mid ts) (tE : plainStar pe = true ∧ SoundE φ tb n cl sc ns pe te) (tR : plainStar pr = true ∧ SoundE φ tb n cl sc ns pr re)
    (pure_ : LawPure tb cl ns.length ic iu it ts te re is)
    (h : ∀ mf' h' tk, Fr c.h₀ c.L h' mf' → Q (.ret (.bool true)) { s with heap := h', toks := tk }) :
    wpAny (model φ.prog φ.w) c.A (execs (.Assign [.Name C p1] (.Subscript (.Name S p2) (.Slice none (some (.Constant (.int 63) k p3)) none p4) p5) p6 :: (mid ++
      [.Try [.Assign [.Name t p15] pe p16] [.ExceptHandler (some (.Name P p7)) (some x) [.Assign [.Name t p8] (.Tuple [.Constant (.bool false) k1 p9, .Attribute (.Name x p10) "ball" p11] k2 p12) p13] p14] [] [] p17,
       .Return (some pr) p18])) c.fenv) Q X s := by
  obtain ⟨ρ₁, Λ₁, du, e1, e2, e3, e4⟩ := pure_
  obtain ⟨M₀, S₀⟩ := id st
  have above := S₀.fr.above
  -- the answer
  have fin : ∀ {mf' : Str → Option Value} {h' : Heap} {tk : Nat} {α' : List (List Addr)} {T' : Led} {Λ' Λ₃ : Hp} {ρ' : Env}, St φ c α' T' Λ' mf' h' → SE φ n c sc ns mf' ρ' α' T' → evE tb cl ρ' re Λ' = .ok (.dat (.bool true)) Λ₃ →
      wpAny (model φ.prog φ.w) c.A (execs [.Return (some pr) p18] c.fenv) Q X { s with heap := h', toks := tk } := by
    intro mf' h' tk α' T' Λ' Λ₃ ρ' st' se' hr
    refine wpAny_execs_cons (wpAny_Return_some (tR.2 tR.1 se'.ec st' ?_))
    rw [hr]
    intro v α'' T'' h'' tk'' _ _ ⟨M'', S''⟩ hv
    replace hv := hv.to_dat; cases hv with
    | dat hv => cases hv; exact h mf' h'' tk'' S''.fr
  refine wpAny_execs_cons (law_slice se st hl hi hlen ic' hC hS hm dbgS sw1 fun mf₁ h₁ tk₁ a st₁ se₁ => ?_)
  refine run_prefix (s := { s with heap := h₁, toks := tk₁ }) tm se₁ st₁ e1 fun α₂ T₂ mf₂ h₂ tk₂ _ _ st₂ se₂ => ?_
  refine wpAny_execs_cons (wpAny_Try_except ?_)
  refine wpAny_execs_cons (wpAny_Assign_Name (tE.2 tE.1 se₂.ec st₂ ?_) (sw2 _))
  rcases e4 with ⟨v, Λ₂, Λ₃, r1, r2⟩ | ⟨d, Λ₃, r1, r2⟩
  · rw [r1]
    intro w α₃ T₃ h₃ tk₃ p₃ t₃ st₃ hw
    refine store_own (s := { s with heap := h₃, toks := tk₃ }) (se₂.mono p₃ t₃) st₃ it' ht hw fun mf₄ h₄ st₄ se₄ => ?_
    exact wpAny_execs_nil (wpAny_execs_nil (fin st₄ se₄ r2))
  · rw [r1]
    intro e h₃ tk₃ F₃
    exact law_caught (s := { s with heap := h₃, toks := tk₃ }) xi bi se₂ above F₃ hb gP hx ht hu iu' it' e2 hut hux htx dbgx sw3 fun mf₄ h₄ tk₄ T₄ st₄ se₄ => fin st₄ se₄ r2
end
end Mine

end
section
set_option maxRecDepth 100000
set_option autoImplicit false
set_option genInjectivity false
set_option genSizeOf false
open PySem PySem.W PySem.Calls PyProof.Rows PyProof.V PySem.Spec
namespace Mine
noncomputable section
/-! functions, checked by computing -/
theorem zip_lookup : ∀ {ns : List Str} {vs : List Value} {x : Str} {v : Value}, ns.Nodup → (x, v) ∈ ns.zip vs → (ns.zip vs).lookup x = some v
  | n :: ns, u :: vs, x, v, hn, h => by
    rw [List.nodup_cons] at hn
    rw [List.zip_cons_cons, List.lookup_cons]
    rcases List.mem_cons.mp h with e | h
    · cases e; rw [beq_self_eq_true]
    · have : (x == n) = false := beq_eq_false_iff_ne.mpr fun e => hn.1 (e ▸ (List.of_mem_zip h).1)
      rw [this]; exact zip_lookup hn.2 h
theorem zip_back {L : Str → Option Value} : ∀ {ns : List Str} {vs : List Value}, vs.length = ns.length → (∀ x v, (x, v) ∈ ns.zip vs → L x = some v) → (ns.filterMap fun n => (L n).map (n, ·)) = ns.zip vs
  | [], [], _, _ => rfl
  | n :: ns, u :: vs, hl, h => by
    rw [List.filterMap_cons, h n u (.head _), Option.map_some, List.zip_cons_cons]
    exact congrArg _ (zip_back (by simpa using hl) fun x v hm => h x v (.tail _ hm))
theorem zip_none {L : Str → Option Value} : ∀ {ns : List Str} {vs : List Value}, vs.length = ns.length → (∀ x v, (x, v) ∈ ns.zip vs → L x = some v) → (ns.filter fun n => (L n).isNone) = []
  | [], [], _, _ => rfl
  | n :: ns, u :: vs, hl, h => by
    rw [List.filter_cons, h n u (.head _)]
    exact zip_none (by simpa using hl) fun x v hm => h x v (.tail _ hm)
theorem bind_plain {name qual : Str} {as : List Arg} {ns : List Str} {body : List Stmt} {sc : Scope} {kV doc pm cdv ct : Value} {an : Option Addr} {vs : List Value} (hn : ns.Nodup) (ha : as.map (·.arg) = ns) (hl : vs.length = ns.length) :
    bindArgs (fnOf name qual ⟨[], as, none, [], [], none, []⟩ body sc .none kV doc pm an cdv ct) ⟨vs, []⟩ = pure (ns.zip vs) := by
  have L : ∀ x v, (x, v) ∈ ns.zip vs → (ns.zip vs).lookup x = some v := fun x v h => zip_lookup hn h
  have e1 := zip_none hl L
  have e2 := zip_back hl L
  have e3 : ¬ (vs.length > ns.length) := by omega
  have e4 : ns.take ns.length = ns := List.take_length
  have e5 : ns.drop ns.length = [] := List.drop_length
  unfold bindArgs
  simp only [seqItems?, notAStandIn, List.map_nil, List.nil_append, ha, pure_bind, List.forIn_nil, Option.getD_none, Array.toList_empty, List.length_nil, Nat.zero_le, Nat.sub_zero, List.drop_nil, e3, e4, e5, e1, e2, List.isEmpty_nil, List.zip_nil_left, List.append_nil, Bool.not_true, Bool.false_eq_true, if_false, decide_false, Bool.false_and]
structure LkO (K : Frag) (a : Addr) where
  c : Value
  d : Option Addr
  dt : Data
  sl : Array (Option Value)
  is : K.lookup a = some ⟨c, d, dt, sl⟩
noncomputable def dLk (K : Frag) (a : Addr) : Option (LkO K a) := match h : K.lookup a with
  | some ⟨c, d, dt, sl⟩ => some ⟨c, d, dt, sl, h⟩
  | none => none
noncomputable def dFunc : (d : Data) → Option {f : FuncData // d = .func f}
  | .func f => some ⟨f, rfl⟩
  | _ => none
noncomputable def dBody : (b : FuncBody) → Option {l : List Stmt // b = .stmts l}
  | .stmts l => some ⟨l, rfl⟩
  | _ => none
noncomputable def dPar : (p : Arguments) → Option {as : List Arg // p = ⟨[], as, none, [], [], none, []⟩}
  | ⟨[], as, none, [], [], none, []⟩ => some ⟨as, rfl⟩
  | _ => none
noncomputable def dNoneV : (v : Value) → Option (PLift (v = .none))
  | .none => some ⟨rfl⟩
  | _ => none
/-- the bounds of a function's frame -/
noncomputable def ckFrame (fd : FuncData) (as : List Arg) (F : Fn) (ns : List Str) : Bool :=
  fd.globals == mainGlobals && fd.closure.isEmpty && fd.builtins == builtinsNs && decide (as.map (·.arg) = ns.take F.arity) && decide (ns.length = F.arity + F.locs) && decide ns.Nodup &&
  (ns.take F.arity).all (fun x => fd.scope.names.lookup x == some .local || fd.scope.names.lookup x == some .cell) && decide ((cellsFrom 0 fd.scope.names []).map (·.1)).Nodup && fd.scope.kind == .function && !fd.scope.isCoroutine && !fd.scope.isGenerator
theorem fn_of {φ : Fix} {K : Frag} {f : Nat} {F : Fn} {ns : List Str} {fd : FuncData} {as : List Arg} {body : List Stmt} (hk : φ.K = K) (ha : φ.addr = addrOf) (l : LkO K (addrOf f)) (e1 : l.dt = .func fd) (e2 : fd.body = .stmts body) (e3 : fd.params = ⟨[], as, none, [], [], none, []⟩) (e4 : fd.defaults = .none)
    (c : ckFrame fd as F ns = true) (cc : codeIn K fd.code fd.qualname = true) (g : GoodSs K fd.scope ns body F.body) : Nonempty (FnOk φ f F) := by
  subst hk
  obtain ⟨c1, d1, dt, sl, is⟩ := l
  dsimp only at e1
  subst e1
  obtain ⟨name, qual, params, bd, scope, gl, clo, dV, kV, doc, pm, an, cdv, ct, bi⟩ := fd
  dsimp only at e2 e3 e4 c cc g
  subst e2 e3 e4
  simp only [ckFrame, Bool.and_eq_true, beq_iff_eq, decide_eq_true_eq, List.isEmpty_iff, List.all_eq_true, Bool.or_eq_true, Bool.not_eq_true'] at c
  obtain ⟨⟨⟨⟨⟨⟨⟨⟨⟨⟨rfl, rfl⟩, rfl⟩, h1⟩, h2⟩, h3⟩, h4⟩, h5⟩, h6⟩, h7⟩, h8⟩ := c
  exact ⟨⟨name, qual, _, body, scope, .none, kV, doc, pm, cdv, ct, an, c1, d1, sl, ns, (by rw [ha]; exact is), cc, fun s vs hl => BindsTo.of_eq (bind_plain (h3.sublist (List.take_sublist _ _)) h1 (by rw [List.length_take]; omega)), h2, h3, h4, h5, h6, h7, h8, fun A => (g A).sound⟩⟩
/-- function f is F -/
noncomputable def ckFn (K : Frag) (f : Nat) (F : Fn) (ns : List Str) : Option (PLift (∀ φ : Fix, φ.K = K → φ.addr = addrOf → Nonempty (FnOk φ f F))) :=
  (dLk K (addrOf f)).bind fun l => (dFunc l.dt).bind fun d => (dBody d.1.body).bind fun b => (dPar d.1.params).bind fun p => (dNoneV d.1.defaults).bind fun v => (chk (ckFrame d.1 p.1 F ns)).bind fun c => (chk (codeIn K d.1.code d.1.qualname)).bind fun cc =>
    (ckSs K d.1.scope ns F.body b.1).bind fun g => some ⟨fun _ hk ha => fn_of hk ha l d.2 b.2 p.2 v.down c.down cc.down g.down⟩
/-- all of them -/
noncomputable def ckFns (K : Frag) : (n : Nat) → (Fs : List (Fn × List Str)) → Option (PLift (∀ φ : Fix, φ.K = K → φ.addr = addrOf → ∀ (i : Nat) (p : Fn × List Str), Fs[i]? = some p → Nonempty (FnOk φ (n + i) p.1)))
  | _, [] => some ⟨fun _ _ _ i p h => by simp at h⟩
  | n, F :: r => (ckFn K n F.1 F.2).bind fun g => (ckFns K (n + 1) r).bind fun g' => some ⟨fun φ hk ha i p h => by
      cases i with
      | zero => cases (show F = p by simpa using h); exact g.down φ hk ha
      | succ i => rw [show n + (i + 1) = n + 1 + i by omega]; exact g'.down φ hk ha i p (by simpa using h)⟩
/-- the tables -/
noncomputable def datVB : Value → Dat → Bool
  | .int i _, .int j => decide (i = j)
  | .str x _, .str y => decide (x = y)
  | _, _ => false
theorem datVB_ok {v : Value} {d : Dat} (h : datVB v d = true) : DatV v d := by
  unfold datVB at h
  split at h
  · rw [of_decide_eq_true h]; exact .int _ _
  · rw [of_decide_eq_true h]; exact .str _ _
  · cases h
noncomputable def dStrV : (v : Value) → Option {x : Str // ∃ t, v = .str x t}
  | .str x t => some ⟨x, t, rfl⟩
  | _ => none
theorem sa_cons {v : Value} {x : Str} {vs : List Value} {l : List Str} (h : ∃ t, v = .str x t) (hs : StrsAre vs l) : StrsAre (v :: vs) (x :: l) := by
  obtain ⟨t, rfl⟩ := h
  exact .cons x t hs
noncomputable def dStrsV : (vs : List Value) → Option {l : List Str // StrsAre vs l}
  | [] => some ⟨[], .nil⟩
  | v :: r => (dStrV v).bind fun x => (dStrsV r).bind fun l => some ⟨x.1 :: l.1, sa_cons x.2 l.2⟩
noncomputable def dSeq : (d : Data) → Option {x : Array Value × Nat // d = .seq x.1 x.2}
  | .seq a n => some ⟨(a, n), rfl⟩
  | _ => none
noncomputable def dRef : (v : Value) → Option {a : Addr // v = .ref a}
  | .ref a => some ⟨a, rfl⟩
  | _ => none
noncomputable def GsOk (K : Frag) (l : List Str) (v : Value) : Prop := ∃ a vs k dd sl, v = .ref a ∧ StrsAre vs l ∧ (K.lookup a = some ⟨.type "list", dd, .seq vs.toArray k, sl⟩ ∨ K.lookup a = some ⟨.type "tuple", dd, .seq vs.toArray k, sl⟩)
theorem gs_of {K : Frag} {a : Addr} {v : Value} {l m : List Str} {x : Array Value} {n : Nat} (hv : v = .ref a) (k : LkO K a) (hs : k.dt = .seq x n) (hl : StrsAre x.toList m) (e : m = l) (c : (k.c == .type "list" || k.c == .type "tuple") = true) : GsOk K l v := by
  obtain ⟨c1, d1, dt, sl, is⟩ := k
  dsimp only at hs c
  subst hs e
  refine ⟨a, x.toList, n, d1, sl, hv, hl, ?_⟩
  simp only [Bool.or_eq_true, beq_iff_eq] at c
  rcases c with rfl | rfl
  · exact .inl (by rw [is, Array.toArray_toList])
  · exact .inr (by rw [is, Array.toArray_toList])
noncomputable def ckGs (K : Frag) (l : List Str) (v : Value) : Option (PLift (GsOk K l v)) :=
  (dRef v).bind fun a => (dLk K a.1).bind fun k => (dSeq k.dt).bind fun s => (dStrsV s.1.1.toList).bind fun m => (chk (decide (m.1 = l))).bind fun e => (chk _).bind fun c => some ⟨gs_of a.2 k s.2 m.2 (of_decide_eq_true e.down) c.down⟩
noncomputable def nsVal (K : Frag) (x : Str) : Option {v : Value // nsIn K mainGlobals x = some (some v)} := match nsIn K mainGlobals x with
  | some (some v) => some ⟨v, rfl⟩
  | _ => none
noncomputable def ckGlobs (K : Frag) : (l : List (Str × Dat)) → Option (PLift (∀ x d v, l.lookup x = some d → nsIn K mainGlobals x = some (some v) → DatV v d))
  | [] => some ⟨fun _ _ _ h => by cases h⟩
  | (y, e) :: r => (nsVal K y).bind fun u => (chk (datVB u.1 e)).bind fun c => (ckGlobs K r).bind fun g => some ⟨fun x d v h hv => by
      rw [List.lookup_cons] at h
      split at h
      · rename_i q
        rw [beq_iff_eq.mp q, u.2] at hv
        cases hv
        cases h
        exact datVB_ok c.down
      · exact g.down x d v h hv⟩
noncomputable def ckGsL (K : Frag) : (l : List (Str × List Str)) → Option (PLift (∀ x d v, l.lookup x = some d → nsIn K mainGlobals x = some (some v) → GsOk K d v))
  | [] => some ⟨fun _ _ _ h => by cases h⟩
  | (y, e) :: r => (nsVal K y).bind fun u => (ckGs K e u.1).bind fun c => (ckGsL K r).bind fun g => some ⟨fun x d v h hv => by
      rw [List.lookup_cons] at h
      split at h
      · rename_i q
        rw [beq_iff_eq.mp q, u.2] at hv
        cases hv
        cases h
        exact c.down
      · exact g.down x d v h hv⟩
noncomputable def ckSym (K : Frag) (a : Addr) : Bool := makesIn K cCS && findIn K (.ref cCS) "__init__" == some (some (.ref a)) && isFn K (.ref a) && keepIn K (.ref cCS)
theorem ckSym_ok {φ : Fix} {K : Frag} {f : Nat} (hk : φ.K = K) (hc : φ.CS = cCS) (ha : φ.addr = addrOf) (h : ckSym K (addrOf f) = true) : SymIs φ f := by
  subst hk
  simp only [ckSym, Bool.and_eq_true, beq_iff_eq] at h
  rw [← hc, ← ha] at h
  exact ⟨h.1.1.1, h.1.1.2, h.1.2, h.2⟩
end
end Mine

end
section
set_option maxRecDepth 100000
set_option autoImplicit false
open PySem PySem.W
namespace Mine
section
/- printed by wip/gen.py -/
/-- fixed_atoms() :  -/
noncomputable def b_fixed_atoms : Ss :=
 (.cons (.ret (.tuple (.cons (.str (Str.ofString "[]")) (.cons (.str (Str.ofString ".")) (.cons (.str (Str.ofString "{}")) (.cons (.str (Str.ofString "-")) (.cons (.str (Str.ofString "+")) (.cons (.str (Str.ofString "*")) (.cons (.str (Str.ofString "/")) (.cons (.str (Str.ofString ",")) (.cons (.str (Str.ofString "|")) (.cons (.str (Str.ofString ";")) (.cons (.str (Str.ofString "->")) (.cons (.str (Str.ofString "\\+")) (.cons (.str (Str.ofString ":-")) (.cons (.str (Str.ofString "?-")) (.cons (.str (Str.ofString "-->")) (.cons (.str (Str.ofString "!")) (.cons (.str (Str.ofString "true")) (.cons (.str (Str.ofString "fail")) (.cons (.str (Str.ofString "false")) (.cons (.str (Str.ofString "call")) (.cons (.str (Str.ofString "=")) (.cons (.str (Str.ofString "^")) (.cons (.str (Str.ofString "error")) (.cons (.str (Str.ofString "")) (.cons (.str (Str.ofString "end_of_file")) (.cons (.str (Str.ofString "system")) (.cons (.str (Str.ofString "$VAR")) (.cons (.str (Str.ofString "catch")) (.cons (.str (Str.ofString "throw")) .nil)))))))))))))))))))))))))))))))
 .nil)
noncomputable def s_fixed_atoms : List Str := []
noncomputable def f_fixed_atoms : Fn := ⟨0, 0, 0, false, b_fixed_atoms⟩
/-- fixed_functors() :  -/
noncomputable def b_fixed_functors : Ss :=
 (.cons (.ret (.tuple (.cons (.tuple (.cons (.str (Str.ofString ".")) (.cons (.int 2) .nil))) (.cons (.tuple (.cons (.str (Str.ofString ",")) (.cons (.int 2) .nil))) (.cons (.tuple (.cons (.str (Str.ofString ";")) (.cons (.int 2) .nil))) (.cons (.tuple (.cons (.str (Str.ofString "->")) (.cons (.int 2) .nil))) (.cons (.tuple (.cons (.str (Str.ofString "\\+")) (.cons (.int 1) .nil))) (.cons (.tuple (.cons (.str (Str.ofString ":-")) (.cons (.int 2) .nil))) (.cons (.tuple (.cons (.str (Str.ofString ":-")) (.cons (.int 1) .nil))) (.cons (.tuple (.cons (.str (Str.ofString "?-")) (.cons (.int 1) .nil))) (.cons (.tuple (.cons (.str (Str.ofString "-->")) (.cons (.int 2) .nil))) (.cons (.tuple (.cons (.str (Str.ofString "{}")) (.cons (.int 1) .nil))) (.cons (.tuple (.cons (.str (Str.ofString "=")) (.cons (.int 2) .nil))) (.cons (.tuple (.cons (.str (Str.ofString "^")) (.cons (.int 2) .nil))) (.cons (.tuple (.cons (.str (Str.ofString "-")) (.cons (.int 1) .nil))) (.cons (.tuple (.cons (.str (Str.ofString "-")) (.cons (.int 2) .nil))) (.cons (.tuple (.cons (.str (Str.ofString "+")) (.cons (.int 2) .nil))) (.cons (.tuple (.cons (.str (Str.ofString "/")) (.cons (.int 2) .nil))) (.cons (.tuple (.cons (.str (Str.ofString "error")) (.cons (.int 2) .nil))) (.cons (.tuple (.cons (.str (Str.ofString "$VAR")) (.cons (.int 1) .nil))) (.cons (.tuple (.cons (.str (Str.ofString "catch")) (.cons (.int 3) .nil))) (.cons (.tuple (.cons (.str (Str.ofString "throw")) (.cons (.int 1) .nil))) (.cons (.tuple (.cons (.str (Str.ofString "!")) (.cons (.int 0) .nil))) (.cons (.tuple (.cons (.str (Str.ofString "true")) (.cons (.int 0) .nil))) (.cons (.tuple (.cons (.str (Str.ofString "fail")) (.cons (.int 0) .nil))) (.cons (.tuple (.cons (.str (Str.ofString "false")) (.cons (.int 0) .nil))) (.cons (.tuple (.cons (.str (Str.ofString "call")) (.cons (.int 1) .nil))) (.cons (.tuple (.cons (.str (Str.ofString "call")) (.cons (.int 2) .nil))) (.cons (.tuple (.cons (.str (Str.ofString "call")) (.cons (.int 3) .nil))) (.cons (.tuple (.cons (.str (Str.ofString "call")) (.cons (.int 4) .nil))) (.cons (.tuple (.cons (.str (Str.ofString "call")) (.cons (.int 5) .nil))) (.cons (.tuple (.cons (.str (Str.ofString "call")) (.cons (.int 6) .nil))) (.cons (.tuple (.cons (.str (Str.ofString "call")) (.cons (.int 7) .nil))) (.cons (.tuple (.cons (.str (Str.ofString "call")) (.cons (.int 8) .nil))) .nil))))))))))))))))))))))))))))))))))
 .nil)
noncomputable def s_fixed_functors : List Str := []
noncomputable def f_fixed_functors : Fn := ⟨0, 0, 0, false, b_fixed_functors⟩
/-- Symbols.__init__(self) : text, row -/
noncomputable def b_sym_init : Ss :=
 (.cons (.setAttr (.var 0) .texts (.list .nil))
 (.cons (.setAttr (.var 0) .anums .dict0)
 (.cons (.setAttr (.var 0) .functors (.list .nil))
 (.cons (.setAttr (.var 0) .fnums .dict0)
 (.cons (.forTup 1 (.call 0 .nil) (.cons (.expr (.meth 3 (.var 0) (.cons (.var 1) .nil)))
 .nil))
 (.cons (.forTup 2 (.call 1 .nil) (.cons (.expr (.meth 6 (.var 0) (.cons (.idx (.var 2) (.int 0)) (.cons (.idx (.var 2) (.int 1)) .nil))))
 .nil))
 .nil))))))
noncomputable def s_sym_init : List Str := [Str.ofString "self", Str.ofString "text", Str.ofString "row"]
noncomputable def f_sym_init : Fn := ⟨1, 2, 7, true, b_sym_init⟩
/-- Symbols.atom(self, text) : found, number -/
noncomputable def b_sym_atom : Ss :=
 (.cons (.assign 2 (.dget (.attr (.var 0) .anums) (.var 1) (-1)))
 (.cons (.ite (.cmp .ge (.var 2) (.int 0)) (.cons (.ret (.var 2))
 .nil) .nil)
 (.cons (.assign 3 (.len (.attr (.var 0) .texts)))
 (.cons (.expr (.append (.attr (.var 0) .texts) (.var 1)))
 (.cons (.setKey (.attr (.var 0) .anums) (.var 1) (.var 3))
 (.cons (.ret (.var 3))
 .nil))))))
noncomputable def s_sym_atom : List Str := [Str.ofString "self", Str.ofString "text", Str.ofString "found", Str.ofString "number"]
noncomputable def f_sym_atom : Fn := ⟨2, 2, 7, false, b_sym_atom⟩
/-- Symbols.text(self, number) :  -/
noncomputable def b_sym_text : Ss :=
 (.cons (.ret (.idx (.attr (.var 0) .texts) (.var 1)))
 .nil)
noncomputable def s_sym_text : List Str := [Str.ofString "self", Str.ofString "number"]
noncomputable def f_sym_text : Fn := ⟨2, 0, 7, false, b_sym_text⟩
/-- Symbols.functor(self, atom, arity) : key, found, number -/
noncomputable def b_sym_functor : Ss :=
 (.cons (.assign 3 (.tuple (.cons (.var 1) (.cons (.var 2) .nil))))
 (.cons (.assign 4 (.dget (.attr (.var 0) .fnums) (.var 3) (-1)))
 (.cons (.ite (.cmp .ge (.var 4) (.int 0)) (.cons (.ret (.var 4))
 .nil) .nil)
 (.cons (.assign 5 (.len (.attr (.var 0) .functors)))
 (.cons (.expr (.append (.attr (.var 0) .functors) (.var 3)))
 (.cons (.setKey (.attr (.var 0) .fnums) (.var 3) (.var 5))
 (.cons (.ret (.var 5))
 .nil)))))))
noncomputable def s_sym_functor : List Str := [Str.ofString "self", Str.ofString "atom", Str.ofString "arity", Str.ofString "key", Str.ofString "found", Str.ofString "number"]
noncomputable def f_sym_functor : Fn := ⟨3, 3, 7, false, b_sym_functor⟩
/-- Symbols.func(self, text, arity) :  -/
noncomputable def b_sym_func : Ss :=
 (.cons (.ret (.meth 5 (.var 0) (.cons (.meth 3 (.var 0) (.cons (.var 1) .nil)) (.cons (.var 2) .nil))))
 .nil)
noncomputable def s_sym_func : List Str := [Str.ofString "self", Str.ofString "text", Str.ofString "arity"]
noncomputable def f_sym_func : Fn := ⟨3, 0, 7, false, b_sym_func⟩
/-- Symbols.name(self, functor) :  -/
noncomputable def b_sym_name : Ss :=
 (.cons (.ret (.idx (.idx (.attr (.var 0) .functors) (.var 1)) (.int 0)))
 .nil)
noncomputable def s_sym_name : List Str := [Str.ofString "self", Str.ofString "functor"]
noncomputable def f_sym_name : Fn := ⟨2, 0, 7, false, b_sym_name⟩
/-- Symbols.arity(self, functor) :  -/
noncomputable def b_sym_arity : Ss :=
 (.cons (.ret (.idx (.idx (.attr (.var 0) .functors) (.var 1)) (.int 1)))
 .nil)
noncomputable def s_sym_arity : List Str := [Str.ofString "self", Str.ofString "functor"]
noncomputable def f_sym_arity : Fn := ⟨2, 0, 7, false, b_sym_arity⟩
/-- atom(number) :  -/
noncomputable def b_atom : Ss :=
 (.cons (.ret (.tuple (.cons (.str (Str.ofString "a")) (.cons (.var 0) .nil))))
 .nil)
noncomputable def s_atom : List Str := [Str.ofString "number"]
noncomputable def f_atom : Fn := ⟨1, 0, 0, false, b_atom⟩
/-- integer(whole) :  -/
noncomputable def b_integer : Ss :=
 (.cons (.ret (.tuple (.cons (.str (Str.ofString "i")) (.cons (.var 0) .nil))))
 .nil)
noncomputable def s_integer : List Str := [Str.ofString "whole"]
noncomputable def f_integer : Fn := ⟨1, 0, 0, false, b_integer⟩
/-- struct(functor, args) :  -/
noncomputable def b_struct : Ss :=
 (.cons (.ret (.tuple (.cons (.str (Str.ofString "s")) (.cons (.var 0) (.cons (.tupOf (.var 1)) .nil)))))
 .nil)
noncomputable def s_struct : List Str := [Str.ofString "functor", Str.ofString "args"]
noncomputable def f_struct : Fn := ⟨2, 0, 0, false, b_struct⟩
/-- system_error(formal) :  -/
noncomputable def b_system_error : Ss :=
 (.cons (.ret (.exn (.tuple (.cons (.str (Str.ofString "s")) (.cons (.glob (Str.ofString "F_ERROR")) (.cons (.tuple (.cons (.var 0) (.cons (.tuple (.cons (.str (Str.ofString "a")) (.cons (.glob (Str.ofString "A_SYSTEM")) .nil))) .nil))) .nil))))))
 .nil)
noncomputable def s_system_error : List Str := [Str.ofString "formal"]
noncomputable def f_system_error : Fn := ⟨1, 0, 0, false, b_system_error⟩
/-- formal_of(symbols, name, parts) : args, part -/
noncomputable def b_formal_of : Ss :=
 (.cons (.assign 3 (.list .nil))
 (.cons (.forTup 4 (.var 2) (.cons (.expr (.append (.var 3) (.ite (.isStr (.var 4)) (.tuple (.cons (.str (Str.ofString "a")) (.cons (.meth 3 (.var 0) (.cons (.var 4) .nil)) .nil))) (.var 4))))
 .nil))
 (.cons (.ret (.tuple (.cons (.str (Str.ofString "s")) (.cons (.meth 6 (.var 0) (.cons (.var 1) (.cons (.len (.var 3)) .nil))) (.cons (.tupOf (.var 3)) .nil)))))
 .nil)))
noncomputable def s_formal_of : List Str := [Str.ofString "symbols", Str.ofString "name", Str.ofString "parts", Str.ofString "args", Str.ofString "part"]
noncomputable def f_formal_of : Fn := ⟨3, 2, 7, false, b_formal_of⟩
/-- instantiation_error(symbols) :  -/
noncomputable def b_instantiation_error : Ss :=
 (.cons (.ret (.call 12 (.cons (.tuple (.cons (.str (Str.ofString "a")) (.cons (.meth 3 (.var 0) (.cons (.str (Str.ofString "instantiation_error")) .nil)) .nil))) .nil)))
 .nil)
noncomputable def s_instantiation_error : List Str := [Str.ofString "symbols"]
noncomputable def f_instantiation_error : Fn := ⟨1, 0, 7, false, b_instantiation_error⟩
/-- type_error(symbols, kind, culprit) :  -/
noncomputable def b_type_error : Ss :=
 (.cons (.ret (.call 12 (.cons (.call 13 (.cons (.var 0) (.cons (.str (Str.ofString "type_error")) (.cons (.tuple (.cons (.var 1) (.cons (.var 2) .nil))) .nil)))) .nil)))
 .nil)
noncomputable def s_type_error : List Str := [Str.ofString "symbols", Str.ofString "kind", Str.ofString "culprit"]
noncomputable def f_type_error : Fn := ⟨3, 0, 7, false, b_type_error⟩
/-- evaluation_error(symbols, what) :  -/
noncomputable def b_evaluation_error : Ss :=
 (.cons (.ret (.call 12 (.cons (.call 13 (.cons (.var 0) (.cons (.str (Str.ofString "evaluation_error")) (.cons (.tuple (.cons (.var 1) .nil)) .nil)))) .nil)))
 .nil)
noncomputable def s_evaluation_error : List Str := [Str.ofString "symbols", Str.ofString "what"]
noncomputable def f_evaluation_error : Fn := ⟨2, 0, 7, false, b_evaluation_error⟩
/-- resource_error(symbols, what) :  -/
noncomputable def b_resource_error : Ss :=
 (.cons (.ret (.call 12 (.cons (.call 13 (.cons (.var 0) (.cons (.str (Str.ofString "resource_error")) (.cons (.tuple (.cons (.var 1) .nil)) .nil)))) .nil)))
 .nil)
noncomputable def s_resource_error : List Str := [Str.ofString "symbols", Str.ofString "what"]
noncomputable def f_resource_error : Fn := ⟨2, 0, 7, false, b_resource_error⟩
/-- not_evaluable(symbols, name, arity) : culprit -/
noncomputable def b_not_evaluable : Ss :=
 (.cons (.assign 3 (.call 11 (.cons (.glob (Str.ofString "F_SLASH")) (.cons (.tuple (.cons (.call 9 (.cons (.var 1) .nil)) (.cons (.call 10 (.cons (.var 2) .nil)) .nil))) .nil))))
 (.cons (.ret (.call 15 (.cons (.var 0) (.cons (.str (Str.ofString "evaluable")) (.cons (.var 3) .nil)))))
 .nil))
noncomputable def s_not_evaluable : List Str := [Str.ofString "symbols", Str.ofString "name", Str.ofString "arity", Str.ofString "culprit"]
noncomputable def f_not_evaluable : Fn := ⟨3, 1, 7, false, b_not_evaluable⟩
/-- is_evaluable(text, arity) :  -/
noncomputable def b_is_evaluable : Ss :=
 (.cons (.ite (.cmp .eq (.var 1) (.int 1)) (.cons (.ret (.inV false (.var 0) (.gs (Str.ofString "UNARY_NAMES"))))
 .nil) .nil)
 (.cons (.ite (.cmp .eq (.var 1) (.int 2)) (.cons (.ret (.inV false (.var 0) (.gs (Str.ofString "BINARY_NAMES"))))
 .nil) .nil)
 (.cons (.ret (.bool false))
 .nil)))
noncomputable def s_is_evaluable : List Str := [Str.ofString "text", Str.ofString "arity"]
noncomputable def f_is_evaluable : Fn := ⟨2, 0, 0, false, b_is_evaluable⟩
/-- check_evaluable(symbols, functor) : name, arity -/
noncomputable def b_check_evaluable : Ss :=
 (.cons (.assign 2 (.meth 7 (.var 0) (.cons (.var 1) .nil)))
 (.cons (.assign 3 (.meth 8 (.var 0) (.cons (.var 1) .nil)))
 (.cons (.ite (.not (.call 19 (.cons (.meth 4 (.var 0) (.cons (.var 2) .nil)) (.cons (.var 3) .nil)))) (.cons (.raise (.call 18 (.cons (.var 0) (.cons (.var 2) (.cons (.var 3) .nil)))))
 .nil) .nil)
 .nil)))
noncomputable def s_check_evaluable : List Str := [Str.ofString "symbols", Str.ofString "functor", Str.ofString "name", Str.ofString "arity"]
noncomputable def f_check_evaluable : Fn := ⟨2, 2, 7, false, b_check_evaluable⟩
/-- check_size(symbols, value, max_bits) :  -/
noncomputable def b_check_size : Ss :=
 (.cons (.ite (.cmp .gt (.bitlen (.var 1)) (.var 2)) (.cons (.raise (.call 17 (.cons (.var 0) (.cons (.str (Str.ofString "memory")) .nil))))
 .nil) .nil)
 (.cons (.ret (.var 1))
 .nil))
noncomputable def s_check_size : List Str := [Str.ofString "symbols", Str.ofString "value", Str.ofString "max_bits"]
noncomputable def f_check_size : Fn := ⟨3, 0, 7, false, b_check_size⟩
/-- divide_toward_zero(first, second) : quotient -/
noncomputable def b_divide_toward_zero : Ss :=
 (.cons (.assign 2 (.bin .fdiv (.abs (.var 0)) (.abs (.var 1))))
 (.cons (.ite (.cmp .ne (.cmp .lt (.var 0) (.int 0)) (.cmp .lt (.var 1) (.int 0))) (.cons (.ret (.neg (.var 2)))
 .nil) .nil)
 (.cons (.ret (.var 2))
 .nil)))
noncomputable def s_divide_toward_zero : List Str := [Str.ofString "first", Str.ofString "second", Str.ofString "quotient"]
noncomputable def f_divide_toward_zero : Fn := ⟨2, 1, 0, false, b_divide_toward_zero⟩
/-- remainder(first, second) :  -/
noncomputable def b_remainder : Ss :=
 (.cons (.ret (.bin .sub (.var 0) (.bin .mul (.var 1) (.call 22 (.cons (.var 0) (.cons (.var 1) .nil))))))
 .nil)
noncomputable def s_remainder : List Str := [Str.ofString "first", Str.ofString "second"]
noncomputable def f_remainder : Fn := ⟨2, 0, 0, false, b_remainder⟩
/-- greatest_divisor(first, second) :  -/
noncomputable def b_greatest_divisor : Ss :=
 (.cons (.assign 0 (.abs (.var 0)))
 (.cons (.assign 1 (.abs (.var 1)))
 (.cons (.whil (.var 1) (.cons (.swap 0 1 (.var 1) (.bin .mod (.var 0) (.var 1)))
 .nil))
 (.cons (.ret (.var 0))
 .nil))))
noncomputable def s_greatest_divisor : List Str := [Str.ofString "first", Str.ofString "second"]
noncomputable def f_greatest_divisor : Fn := ⟨2, 0, 0, false, b_greatest_divisor⟩
/-- power(symbols, base, exponent, max_bits) :  -/
noncomputable def b_power : Ss :=
 (.cons (.ite (.cmp .eq (.var 1) (.int 1)) (.cons (.ret (.int 1))
 .nil) .nil)
 (.cons (.ite (.cmp .eq (.var 1) (.neg (.int 1))) (.cons (.ite (.cmp .eq (.bin .mod (.var 2) (.int 2)) (.int 0)) (.cons (.ret (.int 1))
 .nil) .nil)
 (.cons (.ret (.neg (.int 1)))
 .nil)) .nil)
 (.cons (.ite (.cmp .lt (.var 2) (.int 0)) (.cons (.raise (.call 15 (.cons (.var 0) (.cons (.str (Str.ofString "float")) (.cons (.call 10 (.cons (.var 1) .nil)) .nil)))))
 .nil) .nil)
 (.cons (.ite (.cmp .eq (.var 2) (.int 0)) (.cons (.ret (.int 1))
 .nil) .nil)
 (.cons (.ite (.cmp .eq (.var 1) (.int 0)) (.cons (.ret (.int 0))
 .nil) .nil)
 (.cons (.ite (.cmp .ge (.bin .mul (.bin .sub (.bitlen (.var 1)) (.int 1)) (.var 2)) (.var 3)) (.cons (.raise (.call 17 (.cons (.var 0) (.cons (.str (Str.ofString "memory")) .nil))))
 .nil) .nil)
 (.cons (.ret (.bin .pow (.var 1) (.var 2)))
 .nil)))))))
noncomputable def s_power : List Str := [Str.ofString "symbols", Str.ofString "base", Str.ofString "exponent", Str.ofString "max_bits"]
noncomputable def f_power : Fn := ⟨4, 0, 7, false, b_power⟩
/-- shift_left(symbols, value, count, max_bits) :  -/
noncomputable def b_shift_left : Ss :=
 (.cons (.ite (.cmp .lt (.var 2) (.int 0)) (.cons (.ret (.call 27 (.cons (.var 0) (.cons (.var 1) (.cons (.neg (.var 2)) (.cons (.var 3) .nil))))))
 .nil) .nil)
 (.cons (.ite (.cmp .eq (.var 1) (.int 0)) (.cons (.ret (.int 0))
 .nil) .nil)
 (.cons (.ite (.cmp .gt (.bin .add (.bitlen (.var 1)) (.var 2)) (.var 3)) (.cons (.raise (.call 17 (.cons (.var 0) (.cons (.str (Str.ofString "memory")) .nil))))
 .nil) .nil)
 (.cons (.ret (.bin .shl (.var 1) (.var 2)))
 .nil))))
noncomputable def s_shift_left : List Str := [Str.ofString "symbols", Str.ofString "value", Str.ofString "count", Str.ofString "max_bits"]
noncomputable def f_shift_left : Fn := ⟨4, 0, 7, false, b_shift_left⟩
/-- shift_right(symbols, value, count, max_bits) :  -/
noncomputable def b_shift_right : Ss :=
 (.cons (.ite (.cmp .lt (.var 2) (.int 0)) (.cons (.ret (.call 26 (.cons (.var 0) (.cons (.var 1) (.cons (.neg (.var 2)) (.cons (.var 3) .nil))))))
 .nil) .nil)
 (.cons (.ite (.cmp .ge (.var 2) (.bitlen (.var 1))) (.cons (.ite (.cmp .lt (.var 1) (.int 0)) (.cons (.ret (.neg (.int 1)))
 .nil) .nil)
 (.cons (.ret (.int 0))
 .nil)) .nil)
 (.cons (.ret (.bin .shr (.var 1) (.var 2)))
 .nil)))
noncomputable def s_shift_right : List Str := [Str.ofString "symbols", Str.ofString "value", Str.ofString "count", Str.ofString "max_bits"]
noncomputable def f_shift_right : Fn := ⟨4, 0, 7, false, b_shift_right⟩
/-- sign_of(value) :  -/
noncomputable def b_sign_of : Ss :=
 (.cons (.ite (.cmp .lt (.var 0) (.int 0)) (.cons (.ret (.neg (.int 1)))
 .nil) .nil)
 (.cons (.ite (.cmp .gt (.var 0) (.int 0)) (.cons (.ret (.int 1))
 .nil) .nil)
 (.cons (.ret (.int 0))
 .nil)))
noncomputable def s_sign_of : List Str := [Str.ofString "value"]
noncomputable def f_sign_of : Fn := ⟨1, 0, 0, false, b_sign_of⟩
/-- apply_unary(symbols, text, value) :  -/
noncomputable def b_apply_unary : Ss :=
 (.cons (.ite (.cmp .eq (.var 1) (.str (Str.ofString "-"))) (.cons (.ret (.neg (.var 2)))
 .nil) .nil)
 (.cons (.ite (.cmp .eq (.var 1) (.str (Str.ofString "abs"))) (.cons (.ret (.abs (.var 2)))
 .nil) .nil)
 (.cons (.ite (.cmp .eq (.var 1) (.str (Str.ofString "sign"))) (.cons (.ret (.call 28 (.cons (.var 2) .nil)))
 .nil) .nil)
 (.cons (.ite (.cmp .eq (.var 1) (.str (Str.ofString "\\"))) (.cons (.ret (.bin .sub (.neg (.var 2)) (.int 1)))
 .nil) .nil)
 (.cons (.ite (.cmp .eq (.var 1) (.str (Str.ofString "succ"))) (.cons (.ret (.bin .add (.var 2) (.int 1)))
 .nil) .nil)
 (.cons (.ite (.cmp .eq (.var 1) (.str (Str.ofString "msb"))) (.cons (.ite (.cmp .lt (.var 2) (.int 1)) (.cons (.raise (.call 15 (.cons (.var 0) (.cons (.str (Str.ofString "not_less_than_one")) (.cons (.call 10 (.cons (.var 2) .nil)) .nil)))))
 .nil) .nil)
 (.cons (.ret (.bin .sub (.bitlen (.var 2)) (.int 1)))
 .nil)) .nil)
 (.cons (.ret (.var 2))
 .nil)))))))
noncomputable def s_apply_unary : List Str := [Str.ofString "symbols", Str.ofString "text", Str.ofString "value"]
noncomputable def f_apply_unary : Fn := ⟨3, 0, 7, false, b_apply_unary⟩
/-- apply_division(symbols, text, first, second) :  -/
noncomputable def b_apply_division : Ss :=
 (.cons (.ite (.cmp .eq (.var 3) (.int 0)) (.cons (.raise (.call 16 (.cons (.var 0) (.cons (.str (Str.ofString "zero_divisor")) .nil))))
 .nil) .nil)
 (.cons (.ite (.cmp .eq (.var 1) (.str (Str.ofString "//"))) (.cons (.ret (.call 22 (.cons (.var 2) (.cons (.var 3) .nil))))
 .nil) .nil)
 (.cons (.ite (.cmp .eq (.var 1) (.str (Str.ofString "rem"))) (.cons (.ret (.call 23 (.cons (.var 2) (.cons (.var 3) .nil))))
 .nil) .nil)
 (.cons (.ite (.cmp .eq (.var 1) (.str (Str.ofString "mod"))) (.cons (.ret (.bin .mod (.var 2) (.var 3)))
 .nil) .nil)
 (.cons (.ret (.bin .fdiv (.var 2) (.var 3)))
 .nil)))))
noncomputable def s_apply_division : List Str := [Str.ofString "symbols", Str.ofString "text", Str.ofString "first", Str.ofString "second"]
noncomputable def f_apply_division : Fn := ⟨4, 0, 7, false, b_apply_division⟩
/-- apply_bits(symbols, text, first, second, max_bits) :  -/
noncomputable def b_apply_bits : Ss :=
 (.cons (.ite (.cmp .eq (.var 1) (.str (Str.ofString ">>"))) (.cons (.ret (.call 27 (.cons (.var 0) (.cons (.var 2) (.cons (.var 3) (.cons (.var 4) .nil))))))
 .nil) .nil)
 (.cons (.ite (.cmp .eq (.var 1) (.str (Str.ofString "<<"))) (.cons (.ret (.call 26 (.cons (.var 0) (.cons (.var 2) (.cons (.var 3) (.cons (.var 4) .nil))))))
 .nil) .nil)
 (.cons (.ite (.cmp .eq (.var 1) (.str (Str.ofString "/\\"))) (.cons (.ret (.bin .band (.var 2) (.var 3)))
 .nil) .nil)
 (.cons (.ite (.cmp .eq (.var 1) (.str (Str.ofString "\\/"))) (.cons (.ret (.bin .bor (.var 2) (.var 3)))
 .nil) .nil)
 (.cons (.ret (.bin .bxor (.var 2) (.var 3)))
 .nil)))))
noncomputable def s_apply_bits : List Str := [Str.ofString "symbols", Str.ofString "text", Str.ofString "first", Str.ofString "second", Str.ofString "max_bits"]
noncomputable def f_apply_bits : Fn := ⟨5, 0, 7, false, b_apply_bits⟩
/-- apply_binary(symbols, text, first, second, max_bits) :  -/
noncomputable def b_apply_binary : Ss :=
 (.cons (.ite (.or (.cmp .eq (.var 1) (.str (Str.ofString "+"))) (.cmp .eq (.var 1) (.str (Str.ofString "plus")))) (.cons (.ret (.bin .add (.var 2) (.var 3)))
 .nil) .nil)
 (.cons (.ite (.cmp .eq (.var 1) (.str (Str.ofString "-"))) (.cons (.ret (.bin .sub (.var 2) (.var 3)))
 .nil) .nil)
 (.cons (.ite (.cmp .eq (.var 1) (.str (Str.ofString "*"))) (.cons (.ret (.bin .mul (.var 2) (.var 3)))
 .nil) .nil)
 (.cons (.ite (.inStrs false (.var 1) [Str.ofString "//", Str.ofString "rem", Str.ofString "mod", Str.ofString "div"]) (.cons (.ret (.call 30 (.cons (.var 0) (.cons (.var 1) (.cons (.var 2) (.cons (.var 3) .nil))))))
 .nil) .nil)
 (.cons (.ite (.or (.cmp .eq (.var 1) (.str (Str.ofString "^"))) (.cmp .eq (.var 1) (.str (Str.ofString "**")))) (.cons (.ret (.call 25 (.cons (.var 0) (.cons (.var 2) (.cons (.var 3) (.cons (.var 4) .nil))))))
 .nil) .nil)
 (.cons (.ite (.cmp .eq (.var 1) (.str (Str.ofString "min"))) (.cons (.ite (.cmp .lt (.var 3) (.var 2)) (.cons (.ret (.var 3))
 .nil) .nil)
 (.cons (.ret (.var 2))
 .nil)) .nil)
 (.cons (.ite (.cmp .eq (.var 1) (.str (Str.ofString "max"))) (.cons (.ite (.cmp .gt (.var 3) (.var 2)) (.cons (.ret (.var 3))
 .nil) .nil)
 (.cons (.ret (.var 2))
 .nil)) .nil)
 (.cons (.ite (.cmp .eq (.var 1) (.str (Str.ofString "gcd"))) (.cons (.ret (.call 24 (.cons (.var 2) (.cons (.var 3) .nil))))
 .nil) .nil)
 (.cons (.ret (.call 31 (.cons (.var 0) (.cons (.var 1) (.cons (.var 2) (.cons (.var 3) (.cons (.var 4) .nil)))))))
 .nil)))))))))
noncomputable def s_apply_binary : List Str := [Str.ofString "symbols", Str.ofString "text", Str.ofString "first", Str.ofString "second", Str.ofString "max_bits"]
noncomputable def f_apply_binary : Fn := ⟨5, 0, 7, false, b_apply_binary⟩
/-- apply_functor(symbols, functor, values, max_bits) : text, second, value, first -/
noncomputable def b_apply_functor : Ss :=
 (.cons (.assign 4 (.meth 4 (.var 0) (.cons (.meth 7 (.var 0) (.cons (.var 1) .nil)) .nil)))
 (.cons (.assign 5 (.pop (.var 2)))
 (.cons (.ite (.cmp .eq (.meth 8 (.var 0) (.cons (.var 1) .nil)) (.int 1)) (.cons (.assign 6 (.call 29 (.cons (.var 0) (.cons (.var 4) (.cons (.var 5) .nil)))))
 .nil) (.cons (.assign 7 (.pop (.var 2)))
 (.cons (.assign 6 (.call 32 (.cons (.var 0) (.cons (.var 4) (.cons (.var 7) (.cons (.var 5) (.cons (.var 3) .nil)))))))
 .nil)))
 (.cons (.expr (.append (.var 2) (.call 21 (.cons (.var 0) (.cons (.var 6) (.cons (.var 3) .nil))))))
 .nil))))
noncomputable def s_apply_functor : List Str := [Str.ofString "symbols", Str.ofString "functor", Str.ofString "values", Str.ofString "max_bits", Str.ofString "text", Str.ofString "second", Str.ofString "value", Str.ofString "first"]
noncomputable def f_apply_functor : Fn := ⟨4, 4, 9, false, b_apply_functor⟩
/-- evaluate_term(symbols, term, max_bits) : todo, values, item, kind, argument -/
noncomputable def b_evaluate_term : Ss :=
 (.cons (.assign 3 (.list (.cons (.var 1) .nil)))
 (.cons (.assign 4 (.list .nil))
 (.cons (.whil (.var 3) (.cons (.assign 5 (.pop (.var 3)))
 (.cons (.assign 6 (.idx (.var 5) (.int 0)))
 (.cons (.ite (.cmp .eq (.var 6) (.glob (Str.ofString "APPLY"))) (.cons (.expr (.call 33 (.cons (.var 0) (.cons (.idx (.var 5) (.int 1)) (.cons (.var 4) (.cons (.var 2) .nil))))))
 .nil) (.cons (.ite (.cmp .eq (.var 6) (.str (Str.ofString "i"))) (.cons (.expr (.append (.var 4) (.idx (.var 5) (.int 1))))
 .nil) (.cons (.ite (.cmp .eq (.var 6) (.str (Str.ofString "a"))) (.cons (.raise (.call 18 (.cons (.var 0) (.cons (.idx (.var 5) (.int 1)) (.cons (.int 0) .nil)))))
 .nil) (.cons (.ite (.cmp .eq (.var 6) (.str (Str.ofString "s"))) (.cons (.expr (.call 20 (.cons (.var 0) (.cons (.idx (.var 5) (.int 1)) .nil))))
 (.cons (.expr (.append (.var 3) (.tuple (.cons (.glob (Str.ofString "APPLY")) (.cons (.idx (.var 5) (.int 1)) .nil)))))
 (.cons (.forRev 7 (.idx (.var 5) (.int 2)) (.cons (.expr (.append (.var 3) (.var 7)))
 .nil))
 .nil))) (.cons (.raise (.call 14 (.cons (.var 0) .nil)))
 .nil))
 .nil))
 .nil))
 .nil))
 .nil))))
 (.cons (.ret (.idx (.var 4) (.int 0)))
 .nil))))
noncomputable def s_evaluate_term : List Str := [Str.ofString "symbols", Str.ofString "term", Str.ofString "max_bits", Str.ofString "todo", Str.ofString "values", Str.ofString "item", Str.ofString "kind", Str.ofString "argument"]
noncomputable def f_evaluate_term : Fn := ⟨3, 5, 7, false, b_evaluate_term⟩
/-- _law_pick(hand, limit) : digit, number -/
noncomputable def b_law_pick : Ss :=
 (.cons (.ite (.cmp .eq (.idx (.var 0) (.int 2)) (.int 0)) (.cons (.ite (.cmp .eq (.idx (.var 0) (.int 1)) (.len (.idx (.var 0) (.int 0)))) (.cons (.setIdx (.var 0) (.int 3) (.bin .mod (.bin .mul (.idx (.var 0) (.int 3)) (.int 48271)) (.int 2147483647)))
 (.cons (.ret (.bin .mod (.bin .fdiv (.idx (.var 0) (.int 3)) (.int 7)) (.var 1)))
 .nil)) .nil)
 (.cons (.assign 3 (.idx (.idx (.var 0) (.int 0)) (.idx (.var 0) (.int 1))))
 (.cons (.setIdx (.var 0) (.int 1) (.bin .add (.idx (.var 0) (.int 1)) (.int 1)))
 (.cons (.setIdx (.var 0) (.int 2) (.ite (.cmp .ge (.var 3) (.int 0)) (.var 3) (.neg (.var 3))))
 .nil)))) .nil)
 (.cons (.assign 2 (.bin .mod (.idx (.var 0) (.int 2)) (.var 1)))
 (.cons (.setIdx (.var 0) (.int 2) (.bin .fdiv (.idx (.var 0) (.int 2)) (.var 1)))
 (.cons (.ret (.var 2))
 .nil))))
noncomputable def s_law_pick : List Str := [Str.ofString "hand", Str.ofString "limit", Str.ofString "digit", Str.ofString "number"]
noncomputable def f_law_pick : Fn := ⟨2, 2, 2, false, b_law_pick⟩
/-- _law_leaf(hand, names) : kind -/
noncomputable def b_law_leaf : Ss :=
 (.cons (.assign 2 (.call 35 (.cons (.var 0) (.cons (.int 24) .nil))))
 (.cons (.ite (.cmp .eq (.var 2) (.int 0)) (.cons (.ret (.tuple (.cons (.str (Str.ofString "v")) (.cons (.bin .add (.int 1) (.call 35 (.cons (.var 0) (.cons (.int 2) .nil)))) .nil))))
 .nil) .nil)
 (.cons (.ite (.cmp .eq (.var 2) (.int 1)) (.cons (.ret (.tuple (.cons (.str (Str.ofString "a")) (.cons (.meth 3 (.var 1) (.cons (.menu [Str.ofString "pi", Str.ofString "[]", Str.ofString "+"] (.call 35 (.cons (.var 0) (.cons (.int 3) .nil)))) .nil)) .nil))))
 .nil) .nil)
 (.cons (.ite (.cmp .lt (.var 2) (.int 7)) (.cons (.ret (.tuple (.cons (.str (Str.ofString "i")) (.cons (.bin .sub (.call 35 (.cons (.var 0) (.cons (.bin .pow (.int 10) (.int 30)) .nil))) (.bin .pow (.int 10) (.int 29))) .nil))))
 .nil) .nil)
 (.cons (.ite (.cmp .lt (.var 2) (.int 11)) (.cons (.ret (.tuple (.cons (.str (Str.ofString "i")) (.cons (.bin .sub (.call 35 (.cons (.var 0) (.cons (.int 200) .nil))) (.int 100)) .nil))))
 .nil) .nil)
 (.cons (.ret (.tuple (.cons (.str (Str.ofString "i")) (.cons (.bin .sub (.call 35 (.cons (.var 0) (.cons (.int 9) .nil))) (.int 4)) .nil))))
 .nil))))))
noncomputable def s_law_leaf : List Str := [Str.ofString "hand", Str.ofString "names", Str.ofString "kind"]
noncomputable def f_law_leaf : Fn := ⟨2, 1, 7, false, b_law_leaf⟩
/-- _law_tree(hand, names, depth) : kind, arity, place, shape, _ -/
noncomputable def b_law_tree : Ss :=
 (.cons (.assign 3 (.call 35 (.cons (.var 0) (.cons (.int 10) .nil))))
 (.cons (.ite (.or (.cmp .lt (.var 3) (.int 2)) (.or (.cmp .eq (.var 2) (.int 0)) (.cmp .eq (.idx (.var 0) (.int 4)) (.int 0)))) (.cons (.ret (.call 36 (.cons (.var 0) (.cons (.var 1) .nil))))
 .nil) .nil)
 (.cons (.setIdx (.var 0) (.int 4) (.bin .sub (.idx (.var 0) (.int 4)) (.int 1)))
 (.cons (.assign 4 (.ite (.cmp .lt (.var 3) (.int 5)) (.int 1) (.int 2)))
 (.cons (.assign 5 (.ite (.cmp .eq (.var 4) (.int 1)) (.call 35 (.cons (.var 0) (.cons (.int 12) .nil))) (.call 35 (.cons (.var 0) (.cons (.int 19) .nil)))))
 (.cons (.ite (.cmp .eq (.var 4) (.int 1)) (.cons (.assign 6 (.ite (.cmp .eq (.var 5) (.int 11)) (.meth 6 (.var 1) (.cons (.str (Str.ofString "min")) (.cons (.int 1) .nil))) (.meth 6 (.var 1) (.cons (.idx (.gs (Str.ofString "_law_unary")) (.var 5)) (.cons (.int 1) .nil)))))
 .nil) (.cons (.ite (.cmp .eq (.var 5) (.int 18)) (.cons (.assign 6 (.ite (.cmp .eq (.call 35 (.cons (.var 0) (.cons (.int 2) .nil))) (.int 0)) (.glob (Str.ofString "F_DOT")) (.meth 6 (.var 1) (.cons (.str (Str.ofString "abs")) (.cons (.int 2) .nil)))))
 .nil) (.cons (.assign 6 (.meth 6 (.var 1) (.cons (.idx (.gs (Str.ofString "_law_binary")) (.var 5)) (.cons (.int 2) .nil))))
 .nil))
 .nil))
 (.cons (.ret (.tuple (.cons (.str (Str.ofString "s")) (.cons (.var 6) (.cons (.tupOf (.lcomp 7 (.call 37 (.cons (.var 0) (.cons (.var 1) (.cons (.bin .sub (.var 2) (.int 1)) .nil)))) (.var 4))) .nil)))))
 .nil)))))))
noncomputable def s_law_tree : List Str := [Str.ofString "hand", Str.ofString "names", Str.ofString "depth", Str.ofString "kind", Str.ofString "arity", Str.ofString "place", Str.ofString "shape", Str.ofString "_"]
noncomputable def f_law_tree : Fn := ⟨3, 5, 7, false, b_law_tree⟩
/-- _law_error(names, kind, parts) : formal -/
noncomputable def b_law_error : Ss :=
 (.cons (.assign 3 (.tuple (.cons (.str (Str.ofString "s")) (.cons (.meth 6 (.var 0) (.cons (.var 1) (.cons (.len (.var 2)) .nil))) (.cons (.tupOf (.var 2)) .nil)))))
 (.cons (.ite (.isNil (.var 2)) (.cons (.assign 3 (.tuple (.cons (.str (Str.ofString "a")) (.cons (.meth 3 (.var 0) (.cons (.var 1) .nil)) .nil))))
 .nil) .nil)
 (.cons (.ret (.tuple (.cons (.bool false) (.cons (.tuple (.cons (.str (Str.ofString "s")) (.cons (.glob (Str.ofString "F_ERROR")) (.cons (.tuple (.cons (.var 3) (.cons (.tuple (.cons (.str (Str.ofString "a")) (.cons (.glob (Str.ofString "A_SYSTEM")) .nil))) .nil))) .nil)))) .nil))))
 .nil)))
noncomputable def s_law_error : List Str := [Str.ofString "names", Str.ofString "kind", Str.ofString "parts", Str.ofString "formal"]
noncomputable def f_law_error : Fn := ⟨3, 1, 8, true, b_law_error⟩
/-- _law_bits(left, right) : total, weight -/
noncomputable def b_law_bits : Ss :=
 (.cons (.assign 2 (.int 0))
 (.cons (.assign 3 (.int 1))
 (.cons (.whil (.or (.inInts true (.var 0) [0, (-1)]) (.inInts true (.var 1) [0, (-1)])) (.cons (.ite (.and (.cmp .eq (.bin .mod (.var 0) (.int 2)) (.int 1)) (.cmp .eq (.bin .mod (.var 1) (.int 2)) (.int 1))) (.cons (.augAdd 2 (.var 3))
 .nil) .nil)
 (.cons (.assign 0 (.bin .fdiv (.var 0) (.int 2)))
 (.cons (.assign 1 (.bin .fdiv (.var 1) (.int 2)))
 (.cons (.assign 3 (.bin .mul (.var 3) (.int 2)))
 .nil)))))
 (.cons (.ret (.ite (.and (.cmp .eq (.var 0) (.neg (.int 1))) (.cmp .eq (.var 1) (.neg (.int 1)))) (.bin .sub (.var 2) (.var 3)) (.var 2)))
 .nil))))
noncomputable def s_law_bits : List Str := [Str.ofString "left", Str.ofString "right", Str.ofString "total", Str.ofString "weight"]
noncomputable def f_law_bits : Fn := ⟨2, 2, 0, false, b_law_bits⟩
/-- _law_shift(value, count, most) :  -/
noncomputable def b_law_shift : Ss :=
 (.cons (.ite (.cmp .ge (.var 1) (.int 0)) (.cons (.ite (.cmp .eq (.var 0) (.int 0)) (.cons (.ret (.int 0))
 .nil) .nil)
 (.cons (.ret (.ite (.cmp .le (.var 1) (.var 2)) (.bin .mul (.var 0) (.bin .pow (.int 2) (.var 1))) (.bin .pow (.int 2) (.bin .add (.var 2) (.int 1)))))
 .nil)) .nil)
 (.cons (.ite (.cmp .lt (.var 1) (.neg (.int 400))) (.cons (.ret (.ite (.cmp .lt (.var 0) (.int 0)) (.neg (.int 1)) (.int 0)))
 .nil) .nil)
 (.cons (.ret (.bin .fdiv (.var 0) (.bin .pow (.int 2) (.neg (.var 1)))))
 .nil)))
noncomputable def s_law_shift : List Str := [Str.ofString "value", Str.ofString "count", Str.ofString "most"]
noncomputable def f_law_shift : Fn := ⟨3, 0, 0, false, b_law_shift⟩
/-- _law_power(base, exponent, most) : result, _ -/
noncomputable def b_law_power : Ss :=
 (.cons (.assign 3 (.int 1))
 (.cons (.forRange 4 (.ite (.cmp .le (.var 1) (.bin .mul (.int 2) (.var 2))) (.var 1) (.bin .add (.bin .mul (.int 2) (.var 2)) (.bin .mod (.var 1) (.int 2)))) (.cons (.assign 3 (.bin .mul (.var 3) (.var 0)))
 (.cons (.ite (.or (.cmp .eq (.var 3) (.int 0)) (.or (.cmp .ge (.var 3) (.bin .pow (.int 2) (.var 2))) (.cmp .le (.var 3) (.neg (.bin .pow (.int 2) (.var 2)))))) (.cons (.ret (.var 3))
 .nil) .nil)
 .nil)))
 (.cons (.ret (.var 3))
 .nil)))
noncomputable def s_law_power : List Str := [Str.ofString "base", Str.ofString "exponent", Str.ofString "most", Str.ofString "result", Str.ofString "_"]
noncomputable def f_law_power : Fn := ⟨3, 2, 0, false, b_law_power⟩
/-- _law_common(left, right) :  -/
noncomputable def b_law_common : Ss :=
 (.cons (.whil (.and (.cmp .ne (.var 0) (.int 0)) (.cmp .ne (.var 1) (.int 0))) (.cons (.ite (.cmp .gt (.var 0) (.var 1)) (.cons (.assign 0 (.bin .mod (.var 0) (.var 1)))
 .nil) (.cons (.assign 1 (.bin .mod (.var 1) (.var 0)))
 .nil))
 .nil))
 (.cons (.ret (.bin .add (.var 0) (.var 1)))
 .nil))
noncomputable def s_law_common : List Str := [Str.ofString "left", Str.ofString "right"]
noncomputable def f_law_common : Fn := ⟨2, 0, 0, false, b_law_common⟩
/-- _law_one(names, text, value) : step -/
noncomputable def b_law_one : Ss :=
 (.cons (.ite (.cmp .eq (.var 1) (.str (Str.ofString "msb"))) (.cons (.ite (.cmp .lt (.var 2) (.int 1)) (.cons (.ret (.call 38 (.cons (.var 0) (.cons (.str (Str.ofString "type_error")) (.cons (.list (.cons (.tuple (.cons (.str (Str.ofString "a")) (.cons (.meth 3 (.var 0) (.cons (.str (Str.ofString "not_less_than_one")) .nil)) .nil))) (.cons (.tuple (.cons (.str (Str.ofString "i")) (.cons (.var 2) .nil))) .nil))) .nil)))))
 .nil) .nil)
 (.cons (.ret (.tuple (.cons (.bool true) (.cons (.bin .sub (.len (.lcompIf 3 (.var 3) (.cmp .le (.bin .pow (.int 2) (.var 3)) (.var 2)) (.int 400))) (.int 1)) .nil))))
 .nil)) .nil)
 (.cons (.ite (.cmp .eq (.var 1) (.str (Str.ofString "-"))) (.cons (.ret (.tuple (.cons (.bool true) (.cons (.bin .sub (.int 0) (.var 2)) .nil))))
 .nil) .nil)
 (.cons (.ite (.cmp .eq (.var 1) (.str (Str.ofString "abs"))) (.cons (.ret (.tuple (.cons (.bool true) (.cons (.sort2 (.var 2) (.bin .sub (.int 0) (.var 2)) (.int 1)) .nil))))
 .nil) .nil)
 (.cons (.ite (.cmp .eq (.var 1) (.str (Str.ofString "sign"))) (.cons (.ret (.tuple (.cons (.bool true) (.cons (.ite (.cmp .eq (.var 2) (.int 0)) (.int 0) (.bin .fdiv (.var 2) (.sort2 (.var 2) (.bin .sub (.int 0) (.var 2)) (.int 1)))) .nil))))
 .nil) .nil)
 (.cons (.ite (.cmp .eq (.var 1) (.str (Str.ofString "\\"))) (.cons (.ret (.tuple (.cons (.bool true) (.cons (.bin .sub (.neg (.int 1)) (.var 2)) .nil))))
 .nil) .nil)
 (.cons (.ret (.tuple (.cons (.bool true) (.cons (.ite (.cmp .eq (.var 1) (.str (Str.ofString "succ"))) (.bin .add (.var 2) (.int 1)) (.var 2)) .nil))))
 .nil))))))
noncomputable def s_law_one : List Str := [Str.ofString "names", Str.ofString "text", Str.ofString "value", Str.ofString "step"]
noncomputable def f_law_one : Fn := ⟨3, 1, 7, false, b_law_one⟩
/-- _law_two(names, text, left, right, most) : down, near, both -/
noncomputable def b_law_two : Ss :=
 (.cons (.ite (.inStrs false (.var 1) [Str.ofString "//", Str.ofString "rem", Str.ofString "mod", Str.ofString "div"]) (.cons (.ite (.cmp .eq (.var 3) (.int 0)) (.cons (.ret (.call 38 (.cons (.var 0) (.cons (.str (Str.ofString "evaluation_error")) (.cons (.list (.cons (.tuple (.cons (.str (Str.ofString "a")) (.cons (.meth 3 (.var 0) (.cons (.str (Str.ofString "zero_divisor")) .nil)) .nil))) .nil)) .nil)))))
 .nil) .nil)
 (.cons (.assign 5 (.bin .fdiv (.bin .sub (.var 2) (.bin .mod (.var 2) (.var 3))) (.var 3)))
 (.cons (.assign 6 (.ite (.and (.cmp .lt (.var 5) (.int 0)) (.cmp .ne (.bin .mul (.var 5) (.var 3)) (.var 2))) (.bin .add (.var 5) (.int 1)) (.var 5)))
 (.cons (.ret (.tuple (.cons (.bool true) (.cons (.pickd [Str.ofString "//", Str.ofString "rem", Str.ofString "mod", Str.ofString "div"] (.cons (.var 6) (.cons (.bin .sub (.var 2) (.bin .mul (.var 6) (.var 3))) (.cons (.bin .sub (.var 2) (.bin .mul (.var 5) (.var 3))) (.cons (.var 5) .nil)))) (.var 1)) .nil))))
 .nil)))) .nil)
 (.cons (.ite (.inStrs false (.var 1) [Str.ofString "^", Str.ofString "**"]) (.cons (.ite (.and (.cmp .lt (.var 3) (.int 0)) (.inInts true (.var 2) [1, (-1)])) (.cons (.ret (.call 38 (.cons (.var 0) (.cons (.str (Str.ofString "type_error")) (.cons (.list (.cons (.tuple (.cons (.str (Str.ofString "a")) (.cons (.meth 3 (.var 0) (.cons (.str (Str.ofString "float")) .nil)) .nil))) (.cons (.tuple (.cons (.str (Str.ofString "i")) (.cons (.var 2) .nil))) .nil))) .nil)))))
 .nil) .nil)
 (.cons (.ret (.tuple (.cons (.bool true) (.cons (.call 41 (.cons (.var 2) (.cons (.ite (.cmp .ge (.var 3) (.int 0)) (.var 3) (.bin .mod (.var 3) (.int 2))) (.cons (.var 4) .nil)))) .nil))))
 .nil)) .nil)
 (.cons (.ite (.inStrs false (.var 1) [Str.ofString "min", Str.ofString "max"]) (.cons (.ret (.tuple (.cons (.bool true) (.cons (.sort2 (.var 2) (.var 3) (.ite (.cmp .eq (.var 1) (.str (Str.ofString "min"))) (.int 0) (.int 1))) .nil))))
 .nil) .nil)
 (.cons (.ite (.cmp .eq (.var 1) (.str (Str.ofString "gcd"))) (.cons (.ret (.tuple (.cons (.bool true) (.cons (.call 42 (.cons (.sort2 (.var 2) (.bin .sub (.int 0) (.var 2)) (.int 1)) (.cons (.sort2 (.var 3) (.bin .sub (.int 0) (.var 3)) (.int 1)) .nil))) .nil))))
 .nil) .nil)
 (.cons (.ite (.cmp .eq (.var 1) (.str (Str.ofString ">>"))) (.cons (.ret (.tuple (.cons (.bool true) (.cons (.call 40 (.cons (.var 2) (.cons (.bin .sub (.int 0) (.var 3)) (.cons (.var 4) .nil)))) .nil))))
 .nil) .nil)
 (.cons (.ite (.cmp .eq (.var 1) (.str (Str.ofString "<<"))) (.cons (.ret (.tuple (.cons (.bool true) (.cons (.call 40 (.cons (.var 2) (.cons (.var 3) (.cons (.var 4) .nil)))) .nil))))
 .nil) .nil)
 (.cons (.ite (.inStrs false (.var 1) [Str.ofString "/\\", Str.ofString "\\/", Str.ofString "xor"]) (.cons (.assign 7 (.call 39 (.cons (.var 2) (.cons (.var 3) .nil))))
 (.cons (.ret (.tuple (.cons (.bool true) (.cons (.pickd [Str.ofString "/\\", Str.ofString "\\/", Str.ofString "xor"] (.cons (.var 7) (.cons (.bin .sub (.bin .add (.var 2) (.var 3)) (.var 7)) (.cons (.bin .sub (.bin .add (.var 2) (.var 3)) (.bin .mul (.int 2) (.var 7))) .nil))) (.var 1)) .nil))))
 .nil)) .nil)
 (.cons (.ret (.tuple (.cons (.bool true) (.cons (.pickd [Str.ofString "+", Str.ofString "plus", Str.ofString "-", Str.ofString "*"] (.cons (.bin .add (.var 2) (.var 3)) (.cons (.bin .add (.var 2) (.var 3)) (.cons (.bin .sub (.var 2) (.var 3)) (.cons (.bin .mul (.var 2) (.var 3)) .nil)))) (.var 1)) .nil))))
 .nil))))))))
noncomputable def s_law_two : List Str := [Str.ofString "names", Str.ofString "text", Str.ofString "left", Str.ofString "right", Str.ofString "most", Str.ofString "down", Str.ofString "near", Str.ofString "both"]
noncomputable def f_law_two : Fn := ⟨5, 3, 7, false, b_law_two⟩
/-- _law_value(names, tree, most) : text, parts, part, found, culprit -/
noncomputable def b_law_value : Ss :=
 (.cons (.ite (.cmp .eq (.idx (.var 1) (.int 0)) (.str (Str.ofString "i"))) (.cons (.ret (.tuple (.cons (.bool true) (.cons (.idx (.var 1) (.int 1)) .nil))))
 .nil) .nil)
 (.cons (.ite (.cmp .eq (.idx (.var 1) (.int 0)) (.str (Str.ofString "v"))) (.cons (.ret (.call 38 (.cons (.var 0) (.cons (.str (Str.ofString "instantiation_error")) (.cons (.list .nil) .nil)))))
 .nil) .nil)
 (.cons (.ite (.cmp .eq (.idx (.var 1) (.int 0)) (.str (Str.ofString "a"))) (.cons (.assign 7 (.tuple (.cons (.str (Str.ofString "s")) (.cons (.glob (Str.ofString "F_SLASH")) (.cons (.tuple (.cons (.var 1) (.cons (.tuple (.cons (.str (Str.ofString "i")) (.cons (.int 0) .nil))) .nil))) .nil)))))
 (.cons (.ret (.call 38 (.cons (.var 0) (.cons (.str (Str.ofString "type_error")) (.cons (.list (.cons (.tuple (.cons (.str (Str.ofString "a")) (.cons (.meth 3 (.var 0) (.cons (.str (Str.ofString "evaluable")) .nil)) .nil))) (.cons (.var 7) .nil))) .nil)))))
 .nil)) .nil)
 (.cons (.assign 3 (.meth 4 (.var 0) (.cons (.meth 7 (.var 0) (.cons (.idx (.var 1) (.int 1)) .nil)) .nil)))
 (.cons (.ite (.inV true (.var 3) (.ite (.cmp .eq (.len (.idx (.var 1) (.int 2))) (.int 1)) (.gs (Str.ofString "_law_unary")) (.gs (Str.ofString "_law_binary")))) (.cons (.assign 7 (.tuple (.cons (.str (Str.ofString "s")) (.cons (.glob (Str.ofString "F_SLASH")) (.cons (.tuple (.cons (.tuple (.cons (.str (Str.ofString "a")) (.cons (.meth 7 (.var 0) (.cons (.idx (.var 1) (.int 1)) .nil)) .nil))) (.cons (.tuple (.cons (.str (Str.ofString "i")) (.cons (.len (.idx (.var 1) (.int 2))) .nil))) .nil))) .nil)))))
 (.cons (.ret (.call 38 (.cons (.var 0) (.cons (.str (Str.ofString "type_error")) (.cons (.list (.cons (.tuple (.cons (.str (Str.ofString "a")) (.cons (.meth 3 (.var 0) (.cons (.str (Str.ofString "evaluable")) .nil)) .nil))) (.cons (.var 7) .nil))) .nil)))))
 .nil)) .nil)
 (.cons (.assign 4 (.list .nil))
 (.cons (.forTup 5 (.idx (.var 1) (.int 2)) (.cons (.assign 6 (.call 45 (.cons (.var 0) (.cons (.var 5) (.cons (.var 2) .nil)))))
 (.cons (.ite (.not (.idx (.var 6) (.int 0))) (.cons (.ret (.var 6))
 .nil) .nil)
 (.cons (.expr (.append (.var 4) (.idx (.var 6) (.int 1))))
 .nil))))
 (.cons (.assign 6 (.ite (.cmp .eq (.len (.var 4)) (.int 1)) (.call 43 (.cons (.var 0) (.cons (.var 3) (.cons (.idx (.var 4) (.int 0)) .nil)))) (.call 44 (.cons (.var 0) (.cons (.var 3) (.cons (.idx (.var 4) (.int 0)) (.cons (.idx (.var 4) (.int 1)) (.cons (.var 2) .nil))))))))
 (.cons (.ite (.and (.idx (.var 6) (.int 0)) (.or (.cmp .ge (.idx (.var 6) (.int 1)) (.bin .pow (.int 2) (.var 2))) (.cmp .le (.idx (.var 6) (.int 1)) (.neg (.bin .pow (.int 2) (.var 2)))))) (.cons (.ret (.call 38 (.cons (.var 0) (.cons (.str (Str.ofString "resource_error")) (.cons (.list (.cons (.tuple (.cons (.str (Str.ofString "a")) (.cons (.meth 3 (.var 0) (.cons (.str (Str.ofString "memory")) .nil)) .nil))) .nil)) .nil)))))
 .nil) .nil)
 (.cons (.ret (.var 6))
 .nil))))))))))
noncomputable def s_law_value : List Str := [Str.ofString "names", Str.ofString "tree", Str.ofString "most", Str.ofString "text", Str.ofString "parts", Str.ofString "part", Str.ofString "found", Str.ofString "culprit"]
noncomputable def f_law_value : Fn := ⟨3, 5, 7, false, b_law_value⟩
noncomputable def fnsL : List (Fn × List Str) := [(f_fixed_atoms, s_fixed_atoms), (f_fixed_functors, s_fixed_functors), (f_sym_init, s_sym_init), (f_sym_atom, s_sym_atom), (f_sym_text, s_sym_text), (f_sym_functor, s_sym_functor), (f_sym_func, s_sym_func), (f_sym_name, s_sym_name), (f_sym_arity, s_sym_arity), (f_atom, s_atom), (f_integer, s_integer), (f_struct, s_struct), (f_system_error, s_system_error), (f_formal_of, s_formal_of), (f_instantiation_error, s_instantiation_error), (f_type_error, s_type_error), (f_evaluation_error, s_evaluation_error), (f_resource_error, s_resource_error), (f_not_evaluable, s_not_evaluable), (f_is_evaluable, s_is_evaluable), (f_check_evaluable, s_check_evaluable), (f_check_size, s_check_size), (f_divide_toward_zero, s_divide_toward_zero), (f_remainder, s_remainder), (f_greatest_divisor, s_greatest_divisor), (f_power, s_power), (f_shift_left, s_shift_left), (f_shift_right, s_shift_right), (f_sign_of, s_sign_of), (f_apply_unary, s_apply_unary), (f_apply_division, s_apply_division), (f_apply_bits, s_apply_bits), (f_apply_binary, s_apply_binary), (f_apply_functor, s_apply_functor), (f_evaluate_term, s_evaluate_term), (f_law_pick, s_law_pick), (f_law_leaf, s_law_leaf), (f_law_tree, s_law_tree), (f_law_error, s_law_error), (f_law_bits, s_law_bits), (f_law_shift, s_law_shift), (f_law_power, s_law_power), (f_law_common, s_law_common), (f_law_one, s_law_one), (f_law_two, s_law_two), (f_law_value, s_law_value)]
-- 0 fixed_atoms
-- 1 fixed_functors
-- 2 Symbols.__init__
-- 3 Symbols.atom
-- 4 Symbols.text
-- 5 Symbols.functor
-- 6 Symbols.func
-- 7 Symbols.name
-- 8 Symbols.arity
-- 9 atom
-- 10 integer
-- 11 struct
-- 12 system_error
-- 13 formal_of
-- 14 instantiation_error
-- 15 type_error
-- 16 evaluation_error
-- 17 resource_error
-- 18 not_evaluable
-- 19 is_evaluable
-- 20 check_evaluable
-- 21 check_size
-- 22 divide_toward_zero
-- 23 remainder
-- 24 greatest_divisor
-- 25 power
-- 26 shift_left
-- 27 shift_right
-- 28 sign_of
-- 29 apply_unary
-- 30 apply_division
-- 31 apply_bits
-- 32 apply_binary
-- 33 apply_functor
-- 34 evaluate_term
-- 35 _law_pick
-- 36 _law_leaf
-- 37 _law_tree
-- 38 _law_error
-- 39 _law_bits
-- 40 _law_shift
-- 41 _law_power
-- 42 _law_common
-- 43 _law_one
-- 44 _law_two
-- 45 _law_value

noncomputable def globL : List (Str × Dat) := [(Str.ofString "A_SYSTEM", .int 25), (Str.ofString "F_DOT", .int 0), (Str.ofString "F_SLASH", .int 15), (Str.ofString "F_ERROR", .int 16), (Str.ofString "APPLY", .str (Str.ofString "apply"))]
noncomputable def unaryL : List Str := [Str.ofString "-", Str.ofString "+", Str.ofString "abs", Str.ofString "sign", Str.ofString "\\", Str.ofString "msb", Str.ofString "succ", Str.ofString "truncate", Str.ofString "round", Str.ofString "ceiling", Str.ofString "floor"]
noncomputable def binaryL : List Str := [Str.ofString "+", Str.ofString "-", Str.ofString "*", Str.ofString "//", Str.ofString "rem", Str.ofString "mod", Str.ofString "div", Str.ofString "min", Str.ofString "max", Str.ofString "gcd", Str.ofString ">>", Str.ofString "<<", Str.ofString "/\\", Str.ofString "\\/", Str.ofString "xor", Str.ofString "^", Str.ofString "**", Str.ofString "plus"]
noncomputable def gsL : List (Str × List Str) := [(Str.ofString "UNARY_NAMES", unaryL), (Str.ofString "BINARY_NAMES", binaryL), (Str.ofString "_law_unary", unaryL), (Str.ofString "_law_binary", binaryL)]
end
end Mine

end
section
set_option maxRecDepth 100000
set_option autoImplicit false
set_option genInjectivity false
set_option genSizeOf false
open PySem PySem.W
namespace Mine
noncomputable section
/-! the machine, read backwards: what must hold ahead, for what is to hold behind -/
noncomputable def Rs.p {α : Type} (r : Rs α) (Q : α → Hp → Prop) (X : Dat → Prop) : Prop := match r with
  | .ok a Λ => Q a Λ
  | .err d => X d
  | .bad => False
noncomputable def RS.p (r : RS) (N : Env → Hp → Prop) (R : V → Hp → Prop) (X : Dat → Prop) : Prop := match r with
  | .next ρ Λ => N ρ Λ
  | .ret v Λ => R v Λ
  | .err d => X d
  | .bad => False
noncomputable def wO {α : Type} (o : Option α) (K : α → Prop) : Prop := match o with
  | some a => K a
  | none => False
noncomputable def sel (b : Bool) (A B : Prop) : Prop := match b with
  | true => A
  | false => B
section
variable {α β : Type} {X : Dat → Prop}
theorem p_bind {r : Rs α} {f : α → Hp → Rs β} {Q : β → Hp → Prop} (h : r.p (fun a Λ => (f a Λ).p Q X) X) : (r.bind f).p Q X := by cases r <;> exact h
theorem p_then {r : Rs α} {f : α → Hp → RS} {N : Env → Hp → Prop} {R : V → Hp → Prop} (h : r.p (fun a Λ => (f a Λ).p N R X) X) : (r.then f).p N R X := by cases r <;> exact h
theorem p_seq {r : RS} {f : Env → Hp → RS} {N : Env → Hp → Prop} {R : V → Hp → Prop} (h : r.p (fun ρ Λ => (f ρ Λ).p N R X) R X) : (r.seq f).p N R X := by cases r <;> exact h
theorem p_lift {o : Option α} {Λ : Hp} {Q : α → Hp → Prop} (h : wO o fun a => Q a Λ) : (lift o Λ).p Q X := by cases o <;> exact h
theorem p_mono {r : Rs α} {Q Q' : α → Hp → Prop} {X' : Dat → Prop} (h : r.p Q X) (q : ∀ a Λ, Q a Λ → Q' a Λ) (x : ∀ d, X d → X' d) : r.p Q' X' := by
  cases r with
  | ok a Λ => exact q a Λ h
  | err d => exact x d h
  | bad => exact h
theorem p_calm {r : Rs α} {Q : α → Hp → Prop} (h : r.p Q fun _ => False) : (calm r).p Q X := by
  cases r with
  | ok a Λ => exact h
  | err d => exact h.elim
  | bad => exact h
theorem sel_of {b : Bool} {A B : Prop} (h1 : b = true → A) (h0 : b = false → B) : sel b A B := by cases b; exact h0 rfl; exact h1 rfl
theorem sel_t {b : Bool} {A B : Prop} (h : b = true) (a : A) : sel b A B := by subst h; exact a
theorem sel_f {b : Bool} {A B : Prop} (h : b = false) (a : B) : sel b A B := by subst h; exact a
theorem p_if {b : Bool} {r r' : Rs α} {Q : α → Hp → Prop} (h : sel b (r.p Q X) (r'.p Q X)) : (if b then r else r').p Q X := by cases b <;> exact h
theorem p_ifS {b : Bool} {r r' : RS} {N : Env → Hp → Prop} {R : V → Hp → Prop} (h : sel b (r.p N R X) (r'.p N R X)) : (if b then r else r').p N R X := by cases b <;> exact h
theorem wO_if {c : Prop} [Decidable c] {o : Option α} {K : α → Prop} (h : c) (k : wO o K) : wO (if c then o else none) K := by rw [if_pos h]; exact k
theorem wO_ifn {c : Prop} [Decidable c] {o : Option α} {K : α → Prop} (h : ¬c) (k : wO o K) : wO (if c then none else o) K := by rw [if_neg h]; exact k
end
noncomputable def wBin (o : Bop) (x y : V) (K : V → Prop) : Prop := match x with
  | .dat (.int a) => (match y with
    | .dat (.int b) => wO (bopI o a b) fun i => K (.dat (.int i))
    | _ => False)
  | _ => False
theorem wBin_ok {o : Bop} {x y : V} {K : V → Prop} (h : wBin o x y K) : wO (vBin o x y) K := by
  unfold wBin at h
  split at h
  · split at h
    · show wO ((bopI o _ _).map _) K
      cases q : bopI o _ _ with
      | some i => rw [q] at h; exact h
      | none => rw [q] at h; exact h
    · exact h.elim
  · exact h.elim
/-- the runs of a comprehension -/
noncomputable def wComp (f : Nat → Hp → (Hp → Prop) → Prop) : Nat → Nat → Hp → (Hp → Prop) → Prop
  | 0, _, Λ, K => K Λ
  | n + 1, i, Λ, K => f i Λ fun Λ' => wComp f n (i + 1) Λ' K
theorem wComp_ok {f : Nat → Hp → (Hp → Prop) → Prop} {g : Nat → Hp → Rs Unit} (hf : ∀ i Λ (K : Hp → Prop), f i Λ K → (g i Λ).p (fun _ Λ => K Λ) fun _ => False) {X : Dat → Prop} : ∀ {n i : Nat} {Λ : Hp} {K : Hp → Prop}, wComp f n i Λ K → (compLoop g n i Λ).p (fun _ Λ => K Λ) X
  | 0, _, _, _, h => h
  | n + 1, i, Λ, K, h => p_bind (p_calm (p_mono (hf i Λ _ h) (fun _ _ q => wComp_ok hf q) fun _ q => q))
/-- a comprehension, by what stays true -/
theorem wComp_inv {f : Nat → Hp → (Hp → Prop) → Prop} {I : Nat → Hp → Prop} {K : Hp → Prop} : ∀ {m i : Nat} {Λ : Hp}, (∀ j Λ (K : Hp → Prop), j < i + m → I j Λ → (∀ Λ', I (j + 1) Λ' → K Λ') → f j Λ K) → I i Λ → (∀ Λ, I (i + m) Λ → K Λ) → wComp f m i Λ K
  | 0, _, Λ, _, h, k => k Λ h
  | m + 1, i, Λ, s, h, k => s i Λ _ (by omega) h fun Λ' h' => wComp_inv (m := m) (i := i + 1) (fun j Λ K hj => s j Λ K (by omega)) h' fun Λ h => k Λ (by rw [show i + (m + 1) = i + 1 + m by omega]; exact h)
theorem lt_blt {x y : Nat} (h : Nat.blt x y = true) : x < y := Nat.le_of_ble_eq_true h
theorem sel_and {b : Bool} {A : Prop} (h : sel b A False) : b = true ∧ A := by cases b; exact h.elim; exact ⟨rfl, h⟩
noncomputable def wFor (x : Nat) (f : Env → Hp → (Env → Hp → Prop) → Prop) (N : Env → Hp → Prop) : List V → Env → Hp → Prop
  | [], ρ, Λ => N ρ Λ
  | v :: vs, ρ, Λ => sel (Nat.blt x ρ.length) (f (ρ.set x v) Λ (wFor x f N vs)) False
theorem wFor_ok {x : Nat} {f : Env → Hp → (Env → Hp → Prop) → Prop} {g : Env → Hp → RS} {N : Env → Hp → Prop} {R : V → Hp → Prop} {X : Dat → Prop} (hf : ∀ ρ Λ (N' : Env → Hp → Prop), f ρ Λ N' → (g ρ Λ).p N' R X) : ∀ {l : List V} {ρ : Env} {Λ : Hp}, wFor x f N l ρ Λ → (forl x g l ρ Λ).p N R X
  | [], _, _, h => h
  | v :: vs, ρ, Λ, h => by
    obtain ⟨h1, h2⟩ := sel_and h
    unfold forl
    rw [if_pos (lt_blt h1)]
    have := hf _ _ _ h2
    exact p_seq (by
      cases q : g (ρ.set x v) Λ with
      | next ρ' Λ' => rw [q] at this; exact wFor_ok hf this
      | ret v' Λ' => rw [q] at this; exact this
      | err d => rw [q] at this; exact this
      | bad => rw [q] at this; exact this)
noncomputable def wPut (x : Nat) (v : V) (ρ : Env) (Λ : Hp) (N : Env → Hp → Prop) : Prop := sel (Nat.blt x ρ.length) (N (ρ.set x v) Λ) False
theorem wPut_ok {x : Nat} {v : V} {ρ : Env} {Λ : Hp} {N : Env → Hp → Prop} {R : V → Hp → Prop} {X : Dat → Prop} (h : wPut x v ρ Λ N) : (put x v ρ Λ).p N R X := by
  obtain ⟨h1, h2⟩ := sel_and h
  unfold put; rw [if_pos (lt_blt h1)]; exact h2
noncomputable def wAdd (j : Nat) (v : V) (Λ : Hp) (K : Hp → Prop) : Prop := (vAppend Λ (.ref j) v).p (fun _ Λ => K Λ) fun _ => False
section
variable (tb : Tabs) (cl : Nat → List V → Hp → Rs V)
mutual
noncomputable def wE (ρ : Env) : E → Hp → (V → Hp → Prop) → (Dat → Prop) → Prop
  | .none, Λ, Q, _ => Q (.dat .none) Λ
  | .bool b, Λ, Q, _ => Q (.dat (.bool b)) Λ
  | .int i, Λ, Q, _ => Q (.dat (.int i)) Λ
  | .str x, Λ, Q, _ => Q (.dat (.str x)) Λ
  | .var i, Λ, Q, _ => (match ρ[i]? with
    | some .bot => False
    | some v => Q v Λ
    | none => False)
  | .glob x, Λ, Q, _ => wO (tb.glob x) fun d => Q (.dat d) Λ
  | .gs x, Λ, Q, _ => wO (tb.gs x) fun l => Q (.strs l) Λ
  | .bin o a b, Λ, Q, X => wE ρ a Λ (fun x Λ => wE ρ b Λ (fun y Λ => wBin o x y fun z => Q z Λ) X) X
  | .neg a, Λ, Q, X => wE ρ a Λ (fun x Λ => wO (vNeg x) fun z => Q z Λ) X
  | .not a, Λ, Q, X => wE ρ a Λ (fun x Λ => wO (vTruth Λ x) fun b => Q (.dat (.bool !b)) Λ) X
  | .cmp o a b, Λ, Q, X => wE ρ a Λ (fun x Λ => wE ρ b Λ (fun y Λ => wO (vCmp o x y) fun z => Q z Λ) X) X
  | .and a b, Λ, Q, X => wE ρ a Λ (fun x Λ => wO (vTruth Λ x) fun t => sel t (wE ρ b Λ Q X) (Q x Λ)) X
  | .or a b, Λ, Q, X => wE ρ a Λ (fun x Λ => wO (vTruth Λ x) fun t => sel t (Q x Λ) (wE ρ b Λ Q X)) X
  | .ite t a b, Λ, Q, X => wE ρ t Λ (fun x Λ => wO (vTruth Λ x) fun t => sel t (wE ρ a Λ Q X) (wE ρ b Λ Q X)) X
  | .call f as, Λ, Q, X => wEs ρ as Λ (fun vs Λ => (cl f vs Λ).p Q X) X
  | .meth f o as, Λ, Q, X => wE ρ o Λ (fun x Λ => (match x with
    | .ref n => (match Λ[n]? with
      | some (.inst _) => wEs ρ as Λ (fun vs Λ => (cl f (x :: vs) Λ).p Q X) X
      | _ => False)
    | _ => False)) X
  | .exn a, Λ, Q, X => wE ρ a Λ (fun x Λ => wO (vExn x) fun z => Q z Λ) X
  | .newSym, Λ, Q, X => (cl tb.init [.ref Λ.length] (Λ ++ [.inst []])).p (fun v Λ' => wO (isNone v) fun _ => Q (.ref Λ.length) Λ') X
  | .len a, Λ, Q, X => wE ρ a Λ (fun x Λ => wO (vLen Λ x) fun z => Q z Λ) X
  | .abs a, Λ, Q, X => wE ρ a Λ (fun x Λ => wO (vAbs x) fun z => Q z Λ) X
  | .isStr a, Λ, Q, X => wE ρ a Λ (fun x Λ => wO (vIsStr x) fun z => Q z Λ) X
  | .isBool a, Λ, Q, X => wE ρ a Λ (fun x Λ => wO (vIsBool x) fun z => Q z Λ) X
  | .tupOf a, Λ, Q, X => wE ρ a Λ (fun x Λ => wO (vTupOf Λ x) fun z => Q z Λ) X
  | .idx a i, Λ, Q, X => wE ρ a Λ (fun x Λ => wE ρ i Λ (fun y Λ => wO (vIdx Λ x y) fun z => Q z Λ) X) X
  | .attr a x, Λ, Q, X => wE ρ a Λ (fun v Λ => wO (vAttr Λ x v) fun z => Q z Λ) X
  | .tuple es, Λ, Q, X => wEs ρ es Λ (fun vs Λ => wO (vTuple vs) fun z => Q z Λ) X
  | .list es, Λ, Q, X => wEs ρ es Λ (fun vs Λ => (vList vs Λ).p Q X) X
  | .dict0, Λ, Q, _ => Q (.ref Λ.length) (Λ ++ [.ed])
  | .pickd ks es k, Λ, Q, X => wEs ρ es Λ (fun vs Λ => wE ρ k Λ (fun x Λ => wO (vPickd ks vs x) fun z => Q z Λ) X) X
  | .sort2 a b i, Λ, Q, X => wE ρ a Λ (fun x Λ => wE ρ b Λ (fun y Λ => wO (isII x y) fun _ => wE ρ i Λ (fun z Λ => wO (vSort2 x y z) fun u => Q u Λ) X) X) X
  | .menu l i, Λ, Q, X => wE ρ i Λ (fun x Λ => wO (vMenu l x) fun z => Q z Λ) X
  | .inInts n a l, Λ, Q, X => wE ρ a Λ (fun x Λ => wO (vInInts n l x) fun z => Q z Λ) X
  | .inStrs n a l, Λ, Q, X => wE ρ a Λ (fun x Λ => wO (vInStrs n l x) fun z => Q z Λ) X
  | .inV n a b, Λ, Q, X => wE ρ a Λ (fun x Λ => wE ρ b Λ (fun y Λ => wO (vInV n x y) fun z => Q z Λ) X) X
  | .isNil a, Λ, Q, X => wE ρ a Λ (fun x Λ => wO (vIsNil Λ x) fun z => Q z Λ) X
  | .eqTold a b, Λ, Q, X => wE ρ a Λ (fun x Λ => wE ρ b Λ (fun y Λ => wO (vEqTold x y) fun z => Q z Λ) X) X
  | .append o a, Λ, Q, X => wE ρ o Λ (fun x Λ => wO (isL Λ x) fun _ => wE ρ a Λ (fun y Λ => (vAppend Λ x y).p Q X) X) X
  | .pop o, Λ, Q, X => wE ρ o Λ (fun x Λ => (vPop Λ x).p Q X) X
  | .dget o k d, Λ, Q, X => wE ρ o Λ (fun x Λ => wO (isD Λ x) fun _ => wE ρ k Λ (fun y Λ => wO (vDget Λ d x y) fun z => Q z Λ) X) X
  | .bitlen a, Λ, Q, X => wE ρ a Λ (fun x Λ => wO (vBits x) fun z => Q z Λ) X
  | .sumOf a, Λ, Q, X => wE ρ a Λ (fun x Λ => wO (vSum Λ x) fun z => Q z Λ) X
  | .lcomp x e n, Λ, Q, X => wE ρ n Λ (fun v Λ => wO (rangeOf v) fun k =>
      wComp (fun i Λ' K => wE (ρ.set x (.dat (.int i))) e Λ' (fun d Λ' => wAdd Λ.length d Λ' K) fun _ => False) k 0 (Λ ++ [.dl []]) fun Λ' => Q (.ref Λ.length) Λ') X
  | .lcompIf x e c n, Λ, Q, X => wE ρ n Λ (fun v Λ => wO (rangeOf v) fun k =>
      ∃ I : Nat → Hp → Prop, I 0 (Λ ++ [.dl []]) ∧ (∀ (i : Nat) (Λ' : Hp) (K : Hp → Prop), i < k → I i Λ' → (∀ Λ'', I (i + 1) Λ'' → K Λ'') → wE (ρ.set x (.dat (.int i))) c Λ' (fun b Λ' => wO (vTruth Λ' b) fun b =>
        sel b (wE (ρ.set x (.dat (.int i))) e Λ' (fun d Λ' => wAdd Λ.length d Λ' K) fun _ => False) (K Λ')) fun _ => False) ∧ ∀ Λ', I k Λ' → Q (.ref Λ.length) Λ') X
noncomputable def wEs (ρ : Env) : Es → Hp → (List V → Hp → Prop) → (Dat → Prop) → Prop
  | .nil, Λ, Q, _ => Q [] Λ
  | .cons e es, Λ, Q, X => wE ρ e Λ (fun v Λ => wEs ρ es Λ (fun vs Λ => Q (v :: vs) Λ) X) X
end
mutual
noncomputable def wS (R : V → Hp → Prop) (X : Dat → Prop) : S → Env → Hp → (Env → Hp → Prop) → Prop
  | .assign x e, ρ, Λ, N => wE tb cl ρ e Λ (fun v Λ => wPut x v ρ Λ N) X
  | .setAttr o x e, ρ, Λ, N => wE tb cl ρ e Λ (fun v Λ => wE tb cl ρ o Λ (fun w Λ => wO (vSetAttr Λ x w v) fun Λ => N ρ Λ) X) X
  | .setIdx o i e, ρ, Λ, N => wE tb cl ρ e Λ (fun v Λ => wE tb cl ρ o Λ (fun w Λ => wE tb cl ρ i Λ (fun j Λ => wO (vSetIdx Λ w j v) fun Λ => N ρ Λ) X) X) X
  | .setKey o k e, ρ, Λ, N => wE tb cl ρ e Λ (fun v Λ => wE tb cl ρ o Λ (fun w Λ => wE tb cl ρ k Λ (fun j Λ => wO (vSetKey Λ w j v) fun Λ => N ρ Λ) X) X) X
  | .swap x y a b, ρ, Λ, N => wE tb cl ρ a Λ (fun v Λ => wE tb cl ρ b Λ (fun w Λ => wPut x v ρ Λ fun ρ Λ => wPut y w ρ Λ N) X) X
  | .augAdd x e, ρ, Λ, N => wE tb cl ρ (.bin .add (.var x) e) Λ (fun v Λ => wPut x v ρ Λ N) X
  | .ite t a b, ρ, Λ, N => wE tb cl ρ t Λ (fun x Λ => wO (vTruth Λ x) fun t => sel t (wSs R X a ρ Λ N) (wSs R X b ρ Λ N)) X
  | .whil t b, ρ, Λ, N => ∃ (I : Nat → Env → Hp → Prop) (k : Nat), k < tb.loop ∧ I k ρ Λ ∧ ∀ k ρ Λ, I k ρ Λ → wE tb cl ρ t Λ (fun x Λ => wO (vTruth Λ x) fun c => sel c (wSs R X b ρ Λ fun ρ Λ => ∃ j, j < k ∧ I j ρ Λ) (N ρ Λ)) X
  | .forTup x e b, ρ, Λ, N => wE tb cl ρ e Λ (fun v Λ => wO (itemsOf v) fun l => wFor x (fun ρ Λ N => wSs R X b ρ Λ N) N (l.map .dat) ρ Λ) X
  | .forRange x e b, ρ, Λ, N => wE tb cl ρ e Λ (fun v Λ => wO (rangeOf v) fun n => wFor x (fun ρ Λ N => wSs R X b ρ Λ N) N ((List.range n).map fun (i : Nat) => .dat (.int (i : Int))) ρ Λ) X
  | .forRev x e b, ρ, Λ, N => wE tb cl ρ e Λ (fun v Λ => wO (itemsOf v) fun l => wFor x (fun ρ Λ N => wSs R X b ρ Λ N) N (l.reverse.map .dat) ρ Λ) X
  | .ret e, ρ, Λ, _ => wE tb cl ρ e Λ R X
  | .raise e, ρ, Λ, _ => wE tb cl ρ e Λ (fun v _ => match v with | .exn d => X d | _ => False) X
  | .expr e, ρ, Λ, N => wE tb cl ρ e Λ (fun _ Λ => N ρ Λ) X
noncomputable def wSs (R : V → Hp → Prop) (X : Dat → Prop) : Ss → Env → Hp → (Env → Hp → Prop) → Prop
  | .nil, ρ, Λ, N => N ρ Λ
  | .cons s ss, ρ, Λ, N => wS R X s ρ Λ fun ρ Λ => wSs R X ss ρ Λ N
end
end
end
end Mine

end
section
set_option maxRecDepth 100000
set_option autoImplicit false
set_option genInjectivity false
set_option genSizeOf false
open PySem PySem.W
namespace Mine
noncomputable section
theorem st1 {α β : Type} {r : Rs α} {f : α → Hp → Rs β} {P : α → Hp → Prop} {Q : β → Hp → Prop} {X : Dat → Prop} (h : r.p P X) (k : ∀ a Λ, P a Λ → (f a Λ).p Q X) : (r.bind f).p Q X := p_bind (p_mono h k fun _ q => q)
theorem st2 {α : Type} {r : Rs α} {f : α → Hp → RS} {P : α → Hp → Prop} {N : Env → Hp → Prop} {R : V → Hp → Prop} {X : Dat → Prop} (h : r.p P X) (k : ∀ a Λ, P a Λ → (f a Λ).p N R X) : (r.then f).p N R X := p_then (p_mono h k fun _ q => q)
theorem sl {α β : Type} {o : Option α} {Λ : Hp} {f : α → Hp → Rs β} {Q : β → Hp → Prop} {X : Dat → Prop} (h : wO o fun a => (f a Λ).p Q X) : ((lift o Λ).bind f).p Q X := p_bind (p_lift h)
theorem sl2 {α : Type} {o : Option α} {Λ : Hp} {f : α → Hp → RS} {N : Env → Hp → Prop} {R : V → Hp → Prop} {X : Dat → Prop} (h : wO o fun a => (f a Λ).p N R X) : ((lift o Λ).then f).p N R X := p_then (p_lift h)
theorem wO_mono {α : Type} {o : Option α} {K K' : α → Prop} (h : wO o K) (k : ∀ a, K a → K' a) : wO o K' := by cases o with | none => exact h | some a => exact k a h
theorem sel_mono {b : Bool} {A A' B B' : Prop} (h : sel b A B) (a : A → A') (k : B → B') : sel b A' B' := by cases b; exact k h; exact a h
section
variable {tb : Tabs} {cl : Nat → List V → Hp → Rs V}
mutual
theorem wE_ok : ∀ (e : E) {ρ : Env} {Λ : Hp} {Q : V → Hp → Prop} {X : Dat → Prop}, wE tb cl ρ e Λ Q X → (evE tb cl ρ e Λ).p Q X
  | .none, _, _, _, _, h => h
  | .bool _, _, _, _, _, h => h
  | .int _, _, _, _, _, h => h
  | .str _, _, _, _, _, h => h
  | .var i, ρ, Λ, Q, X, h => by
    revert h
    show (match ρ[i]? with | some .bot => False | some v => Q v Λ | none => False) → Rs.p (match ρ[i]? with | some .bot => .bad | some v => .ok v Λ | none => .bad) Q X
    cases ρ[i]? with
    | none => exact id
    | some v => cases v <;> exact id
  | .glob x, _, Λ, Q, _, h => p_lift (o := (tb.glob _).map Mine.V.dat) (by revert h; show wO (tb.glob x) (fun d => Q (.dat d) Λ) → _; cases tb.glob x <;> exact id)
  | .gs x, _, Λ, Q, _, h => p_lift (o := (tb.gs _).map Mine.V.strs) (by revert h; show wO (tb.gs x) (fun d => Q (.strs d) Λ) → _; cases tb.gs x <;> exact id)
  | .bin _ a b, _, _, _, _, h => st1 (wE_ok a h) fun _ _ q => st1 (wE_ok b q) fun _ _ q => p_lift (wBin_ok q)
  | .neg a, _, _, _, _, h => st1 (wE_ok a h) fun _ _ q => p_lift q
  | .not a, _, _, _, _, h => st1 (wE_ok a h) fun x Λ q => p_lift (o := vNot Λ x) (by revert q; unfold vNot; cases vTruth Λ x <;> exact id)
  | .cmp _ a b, _, _, _, _, h => st1 (wE_ok a h) fun _ _ q => st1 (wE_ok b q) fun _ _ q => p_lift q
  | .and a b, _, _, _, _, h => st1 (wE_ok a h) fun _ _ q => sl (wO_mono q fun _ q => p_if (sel_mono q (wE_ok b) id))
  | .or a b, _, _, _, _, h => st1 (wE_ok a h) fun _ _ q => sl (wO_mono q fun _ q => p_if (sel_mono q id (wE_ok b)))
  | .ite t a b, _, _, _, _, h => st1 (wE_ok t h) fun _ _ q => sl (wO_mono q fun _ q => p_if (sel_mono q (wE_ok a) (wE_ok b)))
  | .call _ as, _, _, _, _, h => st1 (wEs_ok as h) fun _ _ q => q
  | .meth f o as, ρ, _, Q, X, h => st1 (wE_ok o h) fun x Λ q => by
    cases x with
    | ref n =>
      show Rs.p (match Λ[n]? with | some (.inst _) => (evEs tb cl ρ as Λ).bind fun vs Λ => cl f (.ref n :: vs) Λ | _ => .bad) Q X
      dsimp only at q
      revert q
      cases Λ[n]? with
      | none => exact False.elim
      | some c =>
        cases c with
        | inst l => exact fun q => st1 (wEs_ok as q) fun _ _ q => q
        | _ => exact False.elim
    | _ => exact q.elim
  | .exn a, _, _, _, _, h => st1 (wE_ok a h) fun _ _ q => p_lift q
  | .newSym, _, _, _, _, h => st1 h fun _ _ q => sl (wO_mono q fun _ q => q)
  | .len a, _, _, _, _, h => st1 (wE_ok a h) fun _ _ q => p_lift q
  | .abs a, _, _, _, _, h => st1 (wE_ok a h) fun _ _ q => p_lift q
  | .isStr a, _, _, _, _, h => st1 (wE_ok a h) fun _ _ q => p_lift q
  | .isBool a, _, _, _, _, h => st1 (wE_ok a h) fun _ _ q => p_lift q
  | .tupOf a, _, _, _, _, h => st1 (wE_ok a h) fun _ _ q => p_lift q
  | .idx a i, _, _, _, _, h => st1 (wE_ok a h) fun _ _ q => st1 (wE_ok i q) fun _ _ q => p_lift q
  | .attr a _, _, _, _, _, h => st1 (wE_ok a h) fun _ _ q => p_lift q
  | .tuple es, _, _, _, _, h => st1 (wEs_ok es h) fun _ _ q => p_lift q
  | .list es, _, _, _, _, h => st1 (wEs_ok es h) fun _ _ q => q
  | .dict0, _, _, _, _, h => h
  | .pickd _ es k, _, _, _, _, h => st1 (wEs_ok es h) fun _ _ q => st1 (wE_ok k q) fun _ _ q => p_lift q
  | .sort2 a b i, _, _, _, _, h => st1 (wE_ok a h) fun _ _ q => st1 (wE_ok b q) fun _ _ q => sl (wO_mono q fun _ q => st1 (wE_ok i q) fun _ _ q => p_lift q)
  | .menu _ i, _, _, _, _, h => st1 (wE_ok i h) fun _ _ q => p_lift q
  | .inInts _ a _, _, _, _, _, h => st1 (wE_ok a h) fun _ _ q => p_lift q
  | .inStrs _ a _, _, _, _, _, h => st1 (wE_ok a h) fun _ _ q => p_lift q
  | .inV _ a b, _, _, _, _, h => st1 (wE_ok a h) fun _ _ q => st1 (wE_ok b q) fun _ _ q => p_lift q
  | .isNil a, _, _, _, _, h => st1 (wE_ok a h) fun _ _ q => p_lift q
  | .eqTold a b, _, _, _, _, h => st1 (wE_ok a h) fun _ _ q => st1 (wE_ok b q) fun _ _ q => p_lift q
  | .append o a, _, _, _, _, h => st1 (wE_ok o h) fun _ _ q => sl (wO_mono q fun _ q => st1 (wE_ok a q) fun _ _ q => q)
  | .pop o, _, _, _, _, h => st1 (wE_ok o h) fun _ _ q => q
  | .dget o k _, _, _, _, _, h => st1 (wE_ok o h) fun _ _ q => sl (wO_mono q fun _ q => st1 (wE_ok k q) fun _ _ q => p_lift q)
  | .bitlen a, _, _, _, _, h => st1 (wE_ok a h) fun _ _ q => p_lift q
  | .sumOf a, _, _, _, _, h => st1 (wE_ok a h) fun _ _ q => p_lift q
  | .lcomp x e n, _, _, _, _, h => st1 (wE_ok n h) fun _ Λ q => sl (wO_mono q fun _ q => st1 (wComp_ok (fun i Λ' K h => st1 (wE_ok e h) fun d Λ'' q => st1 q fun _ _ q => q) q) fun _ _ q => q)
  | .lcompIf x e c n, ρ, _, Q, _, h => st1 (wE_ok n h) fun _ Λ q => sl (wO_mono q fun k q => by
      obtain ⟨I, h0, hs, hK⟩ := q
      exact st1 (wComp_ok (g := fun i Λ' => (evE tb cl (ρ.set x (.dat (.int i))) c Λ').bind fun b Λ' => (lift (vTruth Λ' b) Λ').bind fun b Λ' => if b then (evE tb cl (ρ.set x (.dat (.int i))) e Λ').bind fun d Λ' => addTo Λ.length d Λ' else .ok () Λ') (f := fun i Λ' K => wE tb cl (ρ.set x (.dat (.int i))) c Λ' (fun b Λ' => wO (vTruth Λ' b) fun b => sel b (wE tb cl (ρ.set x (.dat (.int i))) e Λ' (fun d Λ' => wAdd Λ.length d Λ' K) fun _ => False) (K Λ')) fun _ => False)
        (fun i Λ' K h => st1 (wE_ok c h) fun b Λ'' q => sl (wO_mono q fun _ q => p_if (sel_mono q (fun q => st1 (wE_ok e q) fun d Λ'' q => st1 q fun _ _ q => q) id)))
        (wComp_inv (I := I) (fun j Λ' K hj => hs j Λ' K (by omega)) h0 fun Λ' h => hK Λ' (by rw [Nat.zero_add] at h; exact h))) fun _ _ q => q)
theorem wEs_ok : ∀ (es : Es) {ρ : Env} {Λ : Hp} {Q : List V → Hp → Prop} {X : Dat → Prop}, wEs tb cl ρ es Λ Q X → (evEs tb cl ρ es Λ).p Q X
  | .nil, _, _, _, _, h => h
  | .cons e es, _, _, _, _, h => st1 (wE_ok e h) fun _ _ q => st1 (wEs_ok es q) fun _ _ q => q
end
theorem whl_ok {t : Env → Hp → Rs Bool} {b : Env → Hp → RS} {I : Nat → Env → Hp → Prop} {N : Env → Hp → Prop} {R : V → Hp → Prop} {X : Dat → Prop}
    (h : ∀ k ρ Λ, I k ρ Λ → (t ρ Λ).p (fun c Λ => sel c ((b ρ Λ).p (fun ρ Λ => ∃ j, j < k ∧ I j ρ Λ) R X) (N ρ Λ)) X) : ∀ {n k : Nat} {ρ : Env} {Λ : Hp}, k < n → I k ρ Λ → (whl t b n ρ Λ).p N R X
  | 0, _, _, _, hk, _ => absurd hk (Nat.not_lt_zero _)
  | n + 1, k, ρ, Λ, hk, hI => st2 (h k ρ Λ hI) fun c Λ q => p_ifS (sel_mono q (fun q => p_seq (by
      cases e : b ρ Λ with
      | next ρ' Λ' =>
        rw [e] at q
        obtain ⟨j, hj, q⟩ := q
        exact whl_ok h (Nat.lt_of_lt_of_le hj (Nat.le_of_lt_succ hk)) q
      | ret v' Λ' => rw [e] at q; exact q
      | err d => rw [e] at q; exact q
      | bad => rw [e] at q; exact q)) id)
mutual
theorem wS_ok {R : V → Hp → Prop} {X : Dat → Prop} : ∀ (s : S) {ρ : Env} {Λ : Hp} {N : Env → Hp → Prop}, wS tb cl R X s ρ Λ N → (exS tb cl s ρ Λ).p N R X
  | .assign _ e, _, _, _, h => st2 (wE_ok e h) fun _ _ q => wPut_ok q
  | .setAttr o _ e, _, _, _, h => st2 (wE_ok e h) fun _ _ q => st2 (wE_ok o q) fun w Λ q => by revert q; cases vSetAttr Λ _ w _ <;> exact id
  | .setIdx o i e, _, _, _, h => st2 (wE_ok e h) fun _ _ q => st2 (wE_ok o q) fun _ _ q => st2 (wE_ok i q) fun j Λ q => by revert q; cases vSetIdx Λ _ j _ <;> exact id
  | .setKey o k e, _, _, _, h => st2 (wE_ok e h) fun _ _ q => st2 (wE_ok o q) fun _ _ q => st2 (wE_ok k q) fun j Λ q => by revert q; cases vSetKey Λ _ j _ <;> exact id
  | .swap _ _ a b, _, _, _, h => st2 (wE_ok a h) fun _ _ q => st2 (wE_ok b q) fun _ _ q => p_seq (by
      obtain ⟨q1, q2⟩ := sel_and q
      unfold put
      rw [if_pos (lt_blt q1)]
      exact wPut_ok q2)
  | .augAdd _ e, _, _, _, h => st2 (wE_ok (.bin .add (.var _) e) h) fun _ _ q => wPut_ok q
  | .ite t a b, _, _, _, h => st2 (wE_ok t h) fun _ _ q => sl2 (wO_mono q fun _ q => p_ifS (sel_mono q (wSs_ok a) (wSs_ok b)))
  | .whil t b, _, _, _, h => by
    obtain ⟨I, k, hk, hI, h⟩ := h
    exact whl_ok (fun k ρ Λ hI => st1 (wE_ok t (h k ρ Λ hI)) fun _ _ q => p_lift (wO_mono q fun _ q => sel_mono q (wSs_ok b) id)) hk hI
  | .forTup _ e b, _, _, _, h => st2 (wE_ok e h) fun _ _ q => sl2 (wO_mono q fun _ q => wFor_ok (fun _ _ _ h => wSs_ok b h) q)
  | .forRange _ e b, _, _, _, h => st2 (wE_ok e h) fun _ _ q => sl2 (wO_mono q fun _ q => wFor_ok (fun _ _ _ h => wSs_ok b h) q)
  | .forRev _ e b, _, _, _, h => st2 (wE_ok e h) fun _ _ q => sl2 (wO_mono q fun _ q => wFor_ok (fun _ _ _ h => wSs_ok b h) q)
  | .ret e, _, _, _, h => st2 (wE_ok e h) fun _ _ q => q
  | .raise e, _, _, _, h => st2 (wE_ok e h) fun v _ q => by
    cases v with
    | exn d => exact q
    | _ => exact q.elim
  | .expr e, _, _, _, h => st2 (wE_ok e h) fun _ _ q => q
theorem wSs_ok {R : V → Hp → Prop} {X : Dat → Prop} : ∀ (ss : Ss) {ρ : Env} {Λ : Hp} {N : Env → Hp → Prop}, wSs tb cl R X ss ρ Λ N → (exSs tb cl ss ρ Λ).p N R X
  | .nil, _, _, _, h => h
  | .cons s ss, ρ, Λ, _, h => p_seq (by
      have := wS_ok s h
      cases e : exS tb cl s ρ Λ with
      | next ρ' Λ' => rw [e] at this; exact wSs_ok ss this
      | ret v' Λ' => rw [e] at this; exact this
      | err d => rw [e] at this; exact this
      | bad => rw [e] at this; exact this)
end
end
theorem p_ifc {α : Type} {c : Prop} [Decidable c] {r : Rs α} {Q : α → Hp → Prop} {X : Dat → Prop} (h : c) (k : r.p Q X) : (if c then r else .bad).p Q X := by rw [if_pos h]; exact k
theorem wO_eq {α : Type} {o : Option α} {a : α} {K : α → Prop} (h : o = some a) (k : K a) : wO o K := by subst h; exact k
/-- a call -/
noncomputable def wFin (F : Fn) (k : Nat) (Λ : Hp) (Q : V → Hp → Prop) (v : V) (Λ' : Hp) : Prop :=
  match F.keep with
  | true => sel (Nat.ble k Λ'.length) (Q v Λ') False
  | false => sel (Nat.ble k Λ'.length && (refOk k v && (Λ'.take k).all (cellOk k))) (Q v (Λ'.take k ++ Λ.drop k)) False
theorem wFin_ok {F : Fn} {k : Nat} {Λ : Hp} {Q : V → Hp → Prop} {X : Dat → Prop} {v : V} {Λ' : Hp} (h : wFin F k Λ Q v Λ') : (finCall F k Λ v Λ').p Q X := by
  unfold wFin at h
  unfold finCall
  split at h
  · rename_i hk
    obtain ⟨h1, h2⟩ := sel_and h
    rw [hk, if_pos rfl, if_pos (Nat.le_of_ble_eq_true h1)]; exact h2
  · rename_i hk
    obtain ⟨h1, h2⟩ := sel_and h
    simp only [Bool.and_eq_true, Nat.ble_eq] at h1
    rw [hk, if_neg (by decide), if_pos ⟨h1.1, h1.2.1, h1.2.2⟩]; exact h2
theorem call_p {tb : Tabs} {n f : Nat} {F : Fn} {args : List V} {Λ : Hp} {Q : V → Hp → Prop} {X : Dat → Prop} (hf : tb.fn f = some F)
    (h1 : (Nat.beq args.length F.arity && (Nat.ble (viewOf F Λ) Λ.length && (args.all (refOk (viewOf F Λ)) && (Λ.take (viewOf F Λ)).all (cellOk (viewOf F Λ))))) = true)
    (hw : wSs tb (evCall tb n) (wFin F (viewOf F Λ) Λ Q) X F.body (args ++ List.replicate F.locs .bot) (Λ.take (viewOf F Λ)) (fun _ Λ' => wFin F (viewOf F Λ) Λ Q (.dat .none) Λ')) : (evCall tb (n + 1) f args Λ).p Q X := by
  simp only [Bool.and_eq_true, Nat.ble_eq] at h1
  unfold evCall
  rw [hf]
  dsimp only
  rw [if_pos ⟨Nat.eq_of_beq_eq_true h1.1, h1.2.1, h1.2.2.1, h1.2.2.2⟩]
  have := wSs_ok F.body hw
  unfold outCall
  revert this
  cases exSs tb (evCall tb n) F.body (args ++ List.replicate F.locs .bot) (Λ.take (viewOf F Λ)) with
  | next ρ Λ' => exact wFin_ok
  | ret v Λ' => exact wFin_ok
  | err d => exact id
  | bad => exact id
end
end Mine

end
section
set_option maxRecDepth 100000
set_option autoImplicit false
set_option genInjectivity false
set_option genSizeOf false
open PySem PySem.W
namespace Mine
noncomputable section
/-! the symbols -/
noncomputable def tbl : Tabs := ⟨fun x => globL.lookup x, fun x => gsL.lookup x, fun i => (fnsL[i]?).map (·.1), 2, 1000⟩
structure Sy where
  ts : List Str
  fs : List (Int × Int)
noncomputable def num {α : Type} (l : List α) : List (α × Int) := l.zipIdx.map fun p => (p.1, (p.2 : Int))
noncomputable def prD (p : Int × Int) : Dat := .tuple [.int p.1, .int p.2]
structure Hd where
  a : Dat
  b : Dat
  c : Dat
  d : Dat
noncomputable abbrev sto (l : List Dat) (h : Hd) (S : Sy) (ext : List Cell) : Hp :=
  .dl l :: .vl [.ref 0, .dat h.a, .dat h.b, .dat h.c, .dat h.d] :: .inst [.ref 3, .ref 4, .ref 5, .ref 6] :: .dl (S.ts.map .str) :: .sd (num S.ts) :: .dl (S.fs.map prD) :: .pd (num S.fs) :: ext
section
variable {α : Type} [BEq α] [LawfulBEq α]
noncomputable def ix (l : List α) (x : α) : Option Int := (num l).lookup x
noncomputable def no (l : List α) (x : α) : Int := (ix l x).getD l.length
noncomputable def add (l : List α) (x : α) : List α := match ix l x with
  | some _ => l
  | none => l ++ [x]
omit [BEq α] [LawfulBEq α] in
theorem num_app (l : List α) (x : α) : num (l ++ [x]) = num l ++ [(x, (l.length : Int))] := by
  unfold num
  rw [List.zipIdx_append, List.map_append]
  simp
omit [LawfulBEq α] in
theorem ix_pos {l : List α} {x : α} {i : Int} (h : ix l x = some i) : 0 ≤ i := by
  unfold ix num at h
  generalize l.zipIdx = z at h
  induction z with
  | nil => cases h
  | cons p z ih =>
    rw [List.map_cons, List.lookup_cons] at h
    split at h
    · cases h; omega
    · exact ih h
end
noncomputable def addA (S : Sy) (x : Str) : Sy := ⟨add S.ts x, S.fs⟩
noncomputable def addF (S : Sy) (p : Int × Int) : Sy := ⟨S.ts, add S.fs p⟩
section
variable {n : Nat} {l : List Dat} {h : Hd} {S : Sy} {ext : List Cell} {Q : V → Hp → Prop} {X : Dat → Prop}
theorem p_atom {x : Str} (hs : S.ts.length < 1000000) (q : Q (.dat (.int (no S.ts x))) (sto l h (addA S x) ext)) : (evCall tbl (n + 1) 3 [.ref 2, .dat (.str x)] (sto l h S ext)).p Q X := by
  refine call_p (F := f_sym_atom) rfl rfl ?_
  revert q
  unfold no addA add
  cases hi : ix S.ts x with
  | some i =>
    have e : ((num S.ts).lookup x).getD (-1) = i := by rw [show (num S.ts).lookup x = some i from hi]; rfl
    intro q
    refine sel_t (b := decide (0 ≤ ((num S.ts).lookup x).getD (-1))) (by rw [e]; exact decide_eq_true (ix_pos hi)) ?_
    show Q (.dat (.int (((num S.ts).lookup x).getD (-1)))) (sto l h S ext)
    rw [e]; exact q
  | none =>
    have e : ((num S.ts).lookup x).getD (-1) = -1 := by rw [show (num S.ts).lookup x = none from hi]; rfl
    intro q
    have hl : (S.ts.map Dat.str).length < 1000000 := by rw [List.length_map]; exact hs
    refine sel_f (b := decide (0 ≤ ((num S.ts).lookup x).getD (-1))) (by rw [e]; rfl) ?_
    refine wO_if (c := (S.ts.map Dat.str).length < 1000000) hl ?_
    refine p_ifc (c := (S.ts.map Dat.str).length < 1000000) hl ?_
    refine wO_ifn (c := ((num S.ts).lookup x).isSome = true ∨ 1000000 ≤ (num S.ts).length) ?_ ?_
    · rw [show (num S.ts).lookup x = none from hi]
      unfold num
      rw [List.length_map, List.length_zipIdx]
      rintro (a | a)
      · cases a
      · omega
    · show Q (.dat (.int ((S.ts.map Dat.str).length : Int))) (.dl l :: .vl [.ref 0, .dat h.a, .dat h.b, .dat h.c, .dat h.d] :: .inst [.ref 3, .ref 4, .ref 5, .ref 6] :: .dl (S.ts.map .str ++ [.str x]) :: .sd (num S.ts ++ [(x, ((S.ts.map Dat.str).length : Int))]) :: .dl (S.fs.map prD) :: .pd (num S.fs) :: ext)
      have e1 : S.ts.map Dat.str ++ [.str x] = (S.ts ++ [x]).map .str := by simp
      rw [List.length_map, ← num_app, e1]
      exact q
theorem natIx_of {i : Int} (h0 : 0 ≤ i) (h1 : i < 1000000) : natIx i = some i.toNat := if_pos ⟨h0, h1⟩
theorem vIdx_t {i : Int} {x : Str} (h0 : 0 ≤ i) (h1 : i < 1000000) (hx : S.ts[i.toNat]? = some x) : vIdx (sto l h S ext) (.ref 3) (.dat (.int i)) = some (.dat (.str x)) := by
  show (natIx i).bind (fun k => ((S.ts.map Dat.str)[k]?).map Mine.V.dat) = _
  rw [natIx_of h0 h1, Option.bind_some, List.getElem?_map, hx]; rfl
theorem vIdx_f {i : Int} {p : Int × Int} (h0 : 0 ≤ i) (h1 : i < 1000000) (hx : S.fs[i.toNat]? = some p) : vIdx (sto l h S ext) (.ref 5) (.dat (.int i)) = some (.dat (prD p)) := by
  show (natIx i).bind (fun k => ((S.fs.map prD)[k]?).map Mine.V.dat) = _
  rw [natIx_of h0 h1, Option.bind_some, List.getElem?_map, hx]; rfl
theorem p_text {i : Int} {x : Str} (h0 : 0 ≤ i) (h1 : i < 1000000) (hx : S.ts[i.toNat]? = some x) (q : Q (.dat (.str x)) (sto l h S ext)) : (evCall tbl (n + 1) 4 [.ref 2, .dat (.int i)] (sto l h S ext)).p Q X := by
  refine call_p (F := f_sym_text) rfl rfl ?_
  exact wO_eq (vIdx_t (ext := []) h0 h1 hx) q
theorem p_name {i : Int} {p : Int × Int} (h0 : 0 ≤ i) (h1 : i < 1000000) (hx : S.fs[i.toNat]? = some p) (q : Q (.dat (.int p.1)) (sto l h S ext)) : (evCall tbl (n + 1) 7 [.ref 2, .dat (.int i)] (sto l h S ext)).p Q X := by
  refine call_p (F := f_sym_name) rfl rfl ?_
  exact wO_eq (vIdx_f (ext := []) h0 h1 hx) q
theorem p_arity {i : Int} {p : Int × Int} (h0 : 0 ≤ i) (h1 : i < 1000000) (hx : S.fs[i.toNat]? = some p) (q : Q (.dat (.int p.2)) (sto l h S ext)) : (evCall tbl (n + 1) 8 [.ref 2, .dat (.int i)] (sto l h S ext)).p Q X := by
  refine call_p (F := f_sym_arity) rfl rfl ?_
  exact wO_eq (vIdx_f (ext := []) h0 h1 hx) q
theorem p_functor {a b : Int} (hs : S.fs.length < 1000000) (q : Q (.dat (.int (no S.fs (a, b)))) (sto l h (addF S (a, b)) ext)) : (evCall tbl (n + 1) 5 [.ref 2, .dat (.int a), .dat (.int b)] (sto l h S ext)).p Q X := by
  refine call_p (F := f_sym_functor) rfl rfl ?_
  revert q
  unfold no addF add
  cases hi : ix S.fs (a, b) with
  | some i =>
    have e : ((num S.fs).lookup (a, b)).getD (-1) = i := by rw [show (num S.fs).lookup (a, b) = some i from hi]; rfl
    intro q
    refine sel_t (b := decide (0 ≤ ((num S.fs).lookup (a, b)).getD (-1))) (by rw [e]; exact decide_eq_true (ix_pos hi)) ?_
    show Q (.dat (.int (((num S.fs).lookup (a, b)).getD (-1)))) (sto l h S ext)
    rw [e]; exact q
  | none =>
    have e : ((num S.fs).lookup (a, b)).getD (-1) = -1 := by rw [show (num S.fs).lookup (a, b) = none from hi]; rfl
    intro q
    have hl : (S.fs.map prD).length < 1000000 := by rw [List.length_map]; exact hs
    refine sel_f (b := decide (0 ≤ ((num S.fs).lookup (a, b)).getD (-1))) (by rw [e]; rfl) ?_
    refine wO_if (c := (S.fs.map prD).length < 1000000) hl ?_
    refine p_ifc (c := (S.fs.map prD).length < 1000000) hl ?_
    refine wO_ifn (c := ((num S.fs).lookup (a, b)).isSome = true ∨ 1000000 ≤ (num S.fs).length) ?_ ?_
    · rw [show (num S.fs).lookup (a, b) = none from hi]
      unfold num
      rw [List.length_map, List.length_zipIdx]
      rintro (a | a)
      · cases a
      · omega
    · show Q (.dat (.int ((S.fs.map prD).length : Int))) (.dl l :: .vl [.ref 0, .dat h.a, .dat h.b, .dat h.c, .dat h.d] :: .inst [.ref 3, .ref 4, .ref 5, .ref 6] :: .dl (S.ts.map .str) :: .sd (num S.ts) :: .dl (S.fs.map prD ++ [prD (a, b)]) :: .pd (num S.fs ++ [((a, b), ((S.fs.map prD).length : Int))]) :: ext)
      have e1 : S.fs.map prD ++ [prD (a, b)] = (S.fs ++ [(a, b)]).map prD := by simp
      rw [List.length_map, ← num_app, e1]
      exact q
/-- the functor of a name -/
noncomputable def fno (S : Sy) (x : Str) (k : Int) : Int := no S.fs (no S.ts x, k)
noncomputable def addFn (S : Sy) (x : Str) (k : Int) : Sy := addF (addA S x) (no S.ts x, k)
theorem p_func {x : Str} {k : Int} (hs : S.ts.length < 1000000) (hf : S.fs.length < 1000000) (q : Q (.dat (.int (fno S x k))) (sto l h (addFn S x k) ext)) : (evCall tbl (n + 2) 6 [.ref 2, .dat (.str x), .dat (.int k)] (sto l h S ext)).p Q X := by
  refine call_p (F := f_sym_func) rfl rfl ?_
  refine p_atom (n := n) (S := S) (ext := []) hs ?_
  refine p_functor (n := n) (S := addA S x) (ext := []) hf ?_
  exact q
end
end
end Mine

end
section
set_option maxRecDepth 100000
set_option autoImplicit false
set_option genInjectivity false
set_option genSizeOf false
open PySem PySem.W
namespace Mine
noncomputable section
noncomputable def s0ts : List Str := ["[]", ".", "{}", "-", "+", "*", "/", ",", "|", ";", "->", "\\+", ":-", "?-", "-->", "!", "true", "fail", "false", "call", "=", "^", "error", "", "end_of_file", "system", "$VAR", "catch", "throw"]
noncomputable def s0fs : List (Int × Int) := [(1, 2), (7, 2), (9, 2), (10, 2), (11, 1), (12, 2), (12, 1), (13, 1), (14, 2), (2, 1), (20, 2), (21, 2), (3, 1), (3, 2), (4, 2), (6, 2), (22, 2), (26, 1), (27, 3), (28, 1), (15, 0), (16, 0), (17, 0), (18, 0), (19, 1), (19, 2), (19, 3), (19, 4), (19, 5), (19, 6), (19, 7), (19, 8)]
noncomputable def sy0 : Sy := ⟨s0ts, s0fs⟩
theorem init_eq (n : Nat) (l : List Dat) (h : Hd) : evCall tbl (n + 4) 2 [.ref 2] (.dl l :: .vl [.ref 0, .dat h.a, .dat h.b, .dat h.c, .dat h.d] :: [.inst []]) = .ok (.dat .none) (sto l h sy0 []) := by kernel_rfl
end
end Mine

end
section
set_option maxRecDepth 100000
set_option autoImplicit false
set_option genInjectivity false
set_option genSizeOf false
open PySem PySem.W
namespace Mine
noncomputable section
/-! growth of the symbols -/
structure Sy.Le (S T : Sy) : Prop where
  ts : S.ts <+: T.ts
  fs : S.fs <+: T.fs
theorem Sy.Le.refl (S : Sy) : S.Le S := ⟨List.prefix_rfl, List.prefix_rfl⟩
theorem Sy.Le.trans {S T U : Sy} (a : S.Le T) (b : T.Le U) : S.Le U := ⟨a.ts.trans b.ts, a.fs.trans b.fs⟩
section
variable {α : Type} [BEq α] [LawfulBEq α] {l l' : List α} {x : α}
omit [LawfulBEq α] in
theorem ix_app {y : α} {i : Int} (h : ix l x = some i) : ix (l ++ [y]) x = some i := by
  unfold ix at *
  rw [num_app, List.lookup_append, h]; rfl
omit [LawfulBEq α] in
theorem ix_pre {r : List α} {i : Int} (h : ix l x = some i) : ix (l ++ r) x = some i := by
  induction r generalizing l with
  | nil => rw [List.append_nil]; exact h
  | cons y r ih =>
    rw [show l ++ y :: r = (l ++ [y]) ++ r by simp]
    exact ih (ix_app h)
theorem ix_add : ix (add l x) x = some (no l x) := by
  unfold add no
  cases h : ix l x with
  | some i => exact h
  | none =>
    unfold ix at *
    rw [num_app, List.lookup_append, h]
    simp
theorem no_of {i : Int} (h : ix l x = some i) : no l x = i := by unfold no; rw [h]; rfl
omit [LawfulBEq α] in
theorem add_of {i : Int} (h : ix l x = some i) : add l x = l := by unfold add; rw [h]
omit [LawfulBEq α] in
theorem add_pre (l : List α) (x : α) : l <+: add l x := by
  unfold add
  split
  · exact List.prefix_rfl
  · exact List.prefix_append _ _
/-- once there, there for good -/
theorem no_keeps (h : add l x <+: l') : no l' x = no l x ∧ add l' x = l' := by
  obtain ⟨r, rfl⟩ := h
  have := ix_pre (r := r) (ix_add (l := l) (x := x))
  exact ⟨no_of this, add_of this⟩
theorem lk_get : ∀ (l : List α) (k : Nat) (i : Int), ((l.zipIdx k).map fun p => (p.1, (p.2 : Int))).lookup x = some i → (k : Int) ≤ i ∧ l[(i - k).toNat]? = some x
  | [], _, _, h => by cases h
  | y :: l, k, i, h => by
    rw [List.zipIdx_cons, List.map_cons, List.lookup_cons] at h
    split at h
    · rename_i q
      cases h
      rw [beq_iff_eq.mp q]
      simp
    · obtain ⟨h1, h2⟩ := lk_get l (k + 1) i h
      refine ⟨by omega, ?_⟩
      rw [show (i - k).toNat = (i - (k + 1 : Nat)).toNat + 1 by omega]
      exact h2
/-- where the number leads -/
theorem no_get (l : List α) (x : α) : 0 ≤ no l x ∧ (add l x)[(no l x).toNat]? = some x := by
  have h := ix_add (l := l) (x := x)
  unfold ix num at h
  obtain ⟨h1, h2⟩ := lk_get _ 0 _ h
  exact ⟨by simpa using h1, by simpa using h2⟩
omit [LawfulBEq α] in
theorem add_len (l : List α) (x : α) : (add l x).length ≤ l.length + 1 := by
  unfold add
  split
  · exact Nat.le_succ _
  · rw [List.length_append]; exact Nat.le_refl _
theorem pre_get {i : Nat} (h : l <+: l') (e : l[i]? = some x) : l'[i]? = some x := by
  obtain ⟨r, rfl⟩ := h
  rw [List.getElem?_append_left (List.getElem?_eq_some_iff.mp e).1]; exact e
end
theorem leA (S : Sy) (x : Str) : S.Le (addA S x) := ⟨add_pre _ _, List.prefix_rfl⟩
theorem leF (S : Sy) (p : Int × Int) : S.Le (addF S p) := ⟨List.prefix_rfl, add_pre _ _⟩
theorem leFn (S : Sy) (x : Str) (k : Int) : S.Le (addFn S x k) := (leA S x).trans (leF _ _)
noncomputable def Sy.sz (S : Sy) : Nat := S.ts.length + S.fs.length
theorem szA (S : Sy) (x : Str) : (addA S x).sz ≤ S.sz + 1 := by have := add_len S.ts x; unfold Sy.sz addA; dsimp only; omega
theorem szF (S : Sy) (p : Int × Int) : (addF S p).sz ≤ S.sz + 1 := by have := add_len S.fs p; unfold Sy.sz addF; dsimp only; omega
theorem szFn (S : Sy) (x : Str) (k : Int) : (addFn S x k).sz ≤ S.sz + 2 := Nat.le_trans (szF _ _) (Nat.succ_le_succ (szA _ _))
theorem sz_ts {S : Sy} {m : Nat} (h : S.sz < m) : S.ts.length < m := Nat.lt_of_le_of_lt (Nat.le_add_right _ _) h
theorem sz_fs {S : Sy} {m : Nat} (h : S.sz < m) : S.fs.length < m := Nat.lt_of_le_of_lt (Nat.le_add_left _ _) h
theorem sz_fsA {S : Sy} {m : Nat} (h : S.sz < m) (x : Str) : (addA S x).fs.length < m := sz_fs (S := S) h

/-! errors -/
inductive Er where
  | inst
  | g (kind k : Str) (n : Int) (more : List Dat)
/-- the error's own term, the symbols behind it -/
noncomputable def formD (S : Sy) : Er → Dat
  | .inst => .tuple [.str "a", .int (no S.ts "instantiation_error")]
  | .g kind k n more => .tuple [.str "s", .int (fno (addA S k) kind n), .tuple (.tuple [.str "a", .int (no S.ts k)] :: more)]
noncomputable def raiseS (S : Sy) : Er → Sy
  | .inst => addFn S "instantiation_error" 0
  | .g kind k n _ => addFn (addA S k) kind n
noncomputable def ballD (d : Dat) : Dat := .tuple [.str "s", .int 16, .tuple [d, .tuple [.str "a", .int 25]]]
theorem le_raise (S : Sy) : ∀ e, S.Le (raiseS S e)
  | .inst => leFn _ _ _
  | .g _ _ _ _ => (leA _ _).trans (leFn _ _ _)
theorem addA_keeps {S T : Sy} {x : Str} (h : (addA S x).Le T) : no T.ts x = no S.ts x ∧ addA T x = T := by
  obtain ⟨a, b⟩ := no_keeps h.ts
  exact ⟨a, by unfold addA; rw [b]⟩
theorem fno_keeps {S T : Sy} {x : Str} {k : Int} (h : (addFn S x k).Le T) : fno T x k = fno S x k ∧ addFn T x k = T := by
  obtain ⟨a, b⟩ := addA_keeps ((leF _ _).trans h)
  obtain ⟨c, d⟩ := no_keeps h.fs
  unfold fno addFn
  rw [a, b]
  exact ⟨c, by unfold addF; rw [show add T.fs (no S.ts x, k) = T.fs from d]⟩
/-- an error raised again -/
theorem raise_again {S T : Sy} : ∀ {e : Er}, (raiseS S e).Le T → formD T e = formD S e
  | .inst, h => by
    obtain ⟨a, _⟩ := addA_keeps ((leF _ _).trans h)
    exact congrArg (fun z => Dat.tuple [.str "a", .int z]) a
  | .g kind k n more, h => by
    obtain ⟨a, b⟩ := addA_keeps ((leFn _ _ _).trans h)
    obtain ⟨c, _⟩ := fno_keeps h
    show Dat.tuple [.str "s", .int (fno (addA T k) kind n), .tuple (.tuple [.str "a", .int (no T.ts k)] :: more)] = Dat.tuple [.str "s", .int (fno (addA S k) kind n), .tuple (.tuple [.str "a", .int (no S.ts k)] :: more)]
    rw [b, a, c]
end
end Mine

end
section
set_option maxRecDepth 100000
set_option autoImplicit false
set_option genInjectivity false
set_option genSizeOf false
open PySem PySem.W
namespace Mine
noncomputable section
section
variable {n : Nat} {l : List Dat} {h : Hd} {S : Sy} {ext : List Cell} {Q : V → Hp → Prop} {X : Dat → Prop}
theorem p_formal1 {kind k : Str} (hs : S.sz < 900000) (q : Q (.dat (formD S (.g kind k 1 []))) (sto l h (raiseS S (.g kind k 1 [])) ext)) : (evCall tbl (n + 3) 13 [.ref 2, .dat (.str kind), .dat (.tuple [.str k])] (sto l h S ext)).p Q X := by
  refine call_p (F := f_formal_of) rfl rfl ?_
  refine p_atom (n := n + 1) (S := S) (ext := [.dl []]) (by have := sz_ts hs; omega) ?_
  refine p_func (n := n) (S := addA S k) (ext := [.dl [.tuple [.str "a", .int (no S.ts k)]]]) (x := kind) (k := 1) (by have := szA S k; exact sz_ts (m := 1000000) (by first | exact Nat.lt_of_lt_of_le hs (by decide) | assumption | decide | omega)) (by have := szA S k; exact sz_fs (m := 1000000) (by first | exact Nat.lt_of_lt_of_le hs (by decide) | assumption | decide | omega)) ?_
  exact q
theorem p_formal2 {kind k : Str} {cs : List Dat} (hs : S.sz < 900000) (q : Q (.dat (formD S (.g kind k 2 [.tuple cs]))) (sto l h (raiseS S (.g kind k 2 [.tuple cs])) ext)) : (evCall tbl (n + 3) 13 [.ref 2, .dat (.str kind), .dat (.tuple [.str k, .tuple cs])] (sto l h S ext)).p Q X := by
  refine call_p (F := f_formal_of) rfl rfl ?_
  refine p_atom (n := n + 1) (S := S) (ext := [.dl []]) (by have := sz_ts hs; omega) ?_
  refine p_func (n := n) (S := addA S k) (ext := [.dl [.tuple [.str "a", .int (no S.ts k)], .tuple cs]]) (x := kind) (k := 2) (by have := szA S k; exact sz_ts (m := 1000000) (by first | exact Nat.lt_of_lt_of_le hs (by decide) | assumption | decide | omega)) (by have := szA S k; exact sz_fs (m := 1000000) (by first | exact Nat.lt_of_lt_of_le hs (by decide) | assumption | decide | omega)) ?_
  exact q
noncomputable def exnOf (S : Sy) (e : Er) : V := .exn (ballD (formD S e))
theorem p_inst (hs : S.sz < 900000) (q : Q (exnOf S .inst) (sto l h (addA S "instantiation_error") ext)) : (evCall tbl (n + 2) 14 [.ref 2] (sto l h S ext)).p Q X := by
  refine call_p (F := f_instantiation_error) rfl rfl ?_
  refine p_atom (n := n) (S := S) (ext := []) (by have := sz_ts hs; omega) ?_
  exact q
theorem p_tyerr {k : Str} {cs : List Dat} (hs : S.sz < 900000) (q : Q (exnOf S (.g "type_error" k 2 [.tuple cs])) (sto l h (raiseS S (.g "type_error" k 2 [.tuple cs])) ext)) : (evCall tbl (n + 4) 15 [.ref 2, .dat (.str k), .dat (.tuple cs)] (sto l h S ext)).p Q X := by
  refine call_p (F := f_type_error) rfl rfl ?_
  refine p_formal2 (n := n) (S := S) (ext := []) hs ?_
  exact q
theorem p_everr {k : Str} (hs : S.sz < 900000) (q : Q (exnOf S (.g "evaluation_error" k 1 [])) (sto l h (raiseS S (.g "evaluation_error" k 1 [])) ext)) : (evCall tbl (n + 4) 16 [.ref 2, .dat (.str k)] (sto l h S ext)).p Q X := by
  refine call_p (F := f_evaluation_error) rfl rfl ?_
  refine p_formal1 (n := n) (S := S) (ext := []) hs ?_
  exact q
theorem p_reserr {k : Str} (hs : S.sz < 900000) (q : Q (exnOf S (.g "resource_error" k 1 [])) (sto l h (raiseS S (.g "resource_error" k 1 [])) ext)) : (evCall tbl (n + 4) 17 [.ref 2, .dat (.str k)] (sto l h S ext)).p Q X := by
  refine call_p (F := f_resource_error) rfl rfl ?_
  refine p_formal1 (n := n) (S := S) (ext := []) hs ?_
  exact q
/-- what cannot be evaluated -/
noncomputable def neEr (a k : Int) : Er := .g "type_error" "evaluable" 2 [.tuple [.str "s", .int 15, .tuple [.tuple [.str "a", .int a], .tuple [.str "i", .int k]]]]
noncomputable def resEr : Er := .g "resource_error" "memory" 1 []
noncomputable def zeroEr : Er := .g "evaluation_error" "zero_divisor" 1 []
theorem p_notev {a k : Int} (hs : S.sz < 900000) (q : Q (exnOf S (neEr a k)) (sto l h (raiseS S (neEr a k)) ext)) : (evCall tbl (n + 5) 18 [.ref 2, .dat (.int a), .dat (.int k)] (sto l h S ext)).p Q X := by
  refine call_p (F := f_not_evaluable) rfl rfl ?_
  refine p_tyerr (n := n) (S := S) (ext := []) hs ?_
  exact q
end
end
end Mine

end
section
set_option maxRecDepth 100000
set_option autoImplicit false
set_option genInjectivity false
set_option genSizeOf false
open PySem PySem.W
namespace Mine
noncomputable section
section
variable {n : Nat} {l : List Dat} {h : Hd} {S : Sy} {ext : List Cell} {Q : V → Hp → Prop} {X : Dat → Prop}
theorem p_lerr70 {kind : Str} (hs : S.sz < 900000) (q : Q (.dat (.tuple [.bool false, ballD (.tuple [.str "a", .int (no (addFn S kind 0).ts kind)])])) (sto l h (addA (addFn S kind 0) kind) [.dl []])) : (evCall tbl (n + 3) 38 [.ref 2, .dat (.str kind), .ref 7] (sto l h S [.dl []])).p Q X := by
  refine call_p (F := f_law_error) rfl rfl ?_
  refine p_func (n := n) (S := S) (ext := [.dl []]) (x := kind) (k := 0) (by have := sz_ts hs; omega) (by have := sz_fs hs; omega) ?_
  refine p_atom (n := n + 1) (S := addFn S kind 0) (ext := [.dl []]) (by have := szFn S kind 0; exact sz_ts (m := 1000000) (by first | exact Nat.lt_of_lt_of_le hs (by decide) | assumption | decide | omega)) ?_
  exact q

theorem p_lerr71 {kind : Str} {p : Dat} (hs : S.sz < 900000) (hk : [p].all (kqdOk 8) = true) (q : Q (.dat (.tuple [.bool false, ballD (.tuple [.str "s", .int (fno S kind 1), .tuple [p]])])) (sto l h (addFn S kind 1) [.dl [p]])) : (evCall tbl (n + 3) 38 [.ref 2, .dat (.str kind), .ref 7] (sto l h S [.dl [p]])).p Q X := by
  refine call_p (F := f_law_error) rfl rfl ?_
  refine p_func (n := n) (S := S) (ext := [.dl [p]]) (x := kind) (k := 1) (by have := sz_ts hs; omega) (by have := sz_fs hs; omega) ?_
  refine wO_if (c := [p].all (kqdOk 8) = true) hk ?_
  exact q

theorem p_lerr72 {kind : Str} {p c : Dat} (hs : S.sz < 900000) (hk : [p, c].all (kqdOk 8) = true) (q : Q (.dat (.tuple [.bool false, ballD (.tuple [.str "s", .int (fno S kind 2), .tuple [p, c]])])) (sto l h (addFn S kind 2) [.dl [p, c]])) : (evCall tbl (n + 3) 38 [.ref 2, .dat (.str kind), .ref 7] (sto l h S [.dl [p, c]])).p Q X := by
  refine call_p (F := f_law_error) rfl rfl ?_
  refine p_func (n := n) (S := S) (ext := [.dl [p, c]]) (x := kind) (k := 2) (by have := sz_ts hs; omega) (by have := sz_fs hs; omega) ?_
  refine wO_if (c := [p, c].all (kqdOk 8) = true) hk ?_
  exact q

theorem p_lerr81 {kind : Str} {p : Dat} {vs : List Dat} (hs : S.sz < 900000) (hk : [p].all (kqdOk 8) = true) (q : Q (.dat (.tuple [.bool false, ballD (.tuple [.str "s", .int (fno S kind 1), .tuple [p]])])) (sto l h (addFn S kind 1) [.dl vs, .dl [p]])) : (evCall tbl (n + 3) 38 [.ref 2, .dat (.str kind), .ref 8] (sto l h S [.dl vs, .dl [p]])).p Q X := by
  refine call_p (F := f_law_error) rfl rfl ?_
  refine p_func (n := n) (S := S) (ext := [.dl vs, .dl [p]]) (x := kind) (k := 1) (by have := sz_ts hs; omega) (by have := sz_fs hs; omega) ?_
  refine wO_if (c := [p].all (kqdOk 8) = true) hk ?_
  exact q
end
end
end Mine

end
section
set_option maxRecDepth 100000
set_option autoImplicit false
set_option genInjectivity false
set_option genSizeOf false
open PySem PySem.W
namespace Mine
noncomputable section
/-! outcomes -/
noncomputable abbrev Out := Except Er Int
noncomputable def oc (r : Out) (K : Int → Prop) (X : Er → Prop) : Prop := match r with
  | .ok z => K z
  | .error e => X e
noncomputable def resD (S : Sy) : Out → Dat
  | .ok z => .tuple [.bool true, .int z]
  | .error e => .tuple [.bool false, ballD (formD S e)]
noncomputable def resS (S : Sy) : Out → Sy
  | .ok _ => S
  | .error e => raiseS S e
noncomputable def Bd (x : Int) : Prop := x.natAbs < 2 ^ 128
noncomputable abbrev bits (x : Int) : Nat := Builtin.Int.intBits x
/-- one operand -/
noncomputable def un (t : Str) (x : Int) : Out :=
  if t = "-" then .ok (-x) else if t = "abs" then .ok (x.natAbs : Int) else if t = "sign" then .ok (if x < 0 then -1 else if 0 < x then 1 else 0)
  else if t = "\\" then .ok (-x - 1) else if t = "succ" then .ok (x + 1)
  else if t = "msb" then (if x < 1 then .error (.g "type_error" "not_less_than_one" 2 [.tuple [.str "i", .int x]]) else .ok ((bits x : Int) - 1)) else .ok x
section
variable {n : Nat} {l : List Dat} {h : Hd} {S : Sy} {ext : List Cell} {Q : V → Hp → Prop} {X : Dat → Prop}
theorem p_sign {x : Int} {Λ : Hp} (q : Q (.dat (.int (if x < 0 then -1 else if 0 < x then 1 else 0))) Λ) : (evCall tbl (n + 1) 28 [.dat (.int x)] Λ).p Q X := by
  refine call_p (F := f_sign_of) rfl rfl ?_
  refine sel_of (b := decide (x < 0)) (fun e => ?_) (fun e => ?_)
  · rw [if_pos (of_decide_eq_true e)] at q; exact q
  · rw [if_neg (of_decide_eq_false e)] at q
    refine sel_of (b := decide (0 < x)) (fun e => ?_) (fun e => ?_)
    · rw [if_pos (of_decide_eq_true e)] at q; exact q
    · rw [if_neg (of_decide_eq_false e)] at q; exact q
theorem p_aun {t : Str} {x : Int} (hs : S.sz < 900000) (q : oc (un t x) (fun z => Q (.dat (.int z)) (sto l h S ext)) (fun e => X (ballD (formD S e)))) : (evCall tbl (n + 5) 29 [.ref 2, .dat (.str t), .dat (.int x)] (sto l h S ext)).p Q X := by
  refine call_p (F := f_apply_unary) rfl rfl ?_
  unfold un at q
  refine sel_of (b := decide (t = "-")) (fun e => ?_) (fun e => ?_)
  · rw [if_pos (of_decide_eq_true e)] at q; exact q
  · rw [if_neg (of_decide_eq_false e)] at q
    refine sel_of (b := decide (t = "abs")) (fun e => ?_) (fun e => ?_)
    · rw [if_pos (of_decide_eq_true e)] at q; exact q
    · rw [if_neg (of_decide_eq_false e)] at q
      refine sel_of (b := decide (t = "sign")) (fun e => ?_) (fun e => ?_)
      · rw [if_pos (of_decide_eq_true e)] at q; exact p_sign (n := n + 3) q
      · rw [if_neg (of_decide_eq_false e)] at q
        refine sel_of (b := decide (t = "\\")) (fun e => ?_) (fun e => ?_)
        · rw [if_pos (of_decide_eq_true e)] at q; exact q
        · rw [if_neg (of_decide_eq_false e)] at q
          refine sel_of (b := decide (t = "succ")) (fun e => ?_) (fun e => ?_)
          · rw [if_pos (of_decide_eq_true e)] at q; exact q
          · rw [if_neg (of_decide_eq_false e)] at q
            refine sel_of (b := decide (t = "msb")) (fun e => ?_) (fun e => ?_)
            · rw [if_pos (of_decide_eq_true e)] at q
              refine sel_of (b := decide (x < 1)) (fun e => ?_) (fun e => ?_)
              · rw [if_pos (of_decide_eq_true e)] at q
                exact p_tyerr (n := n) (S := S) (ext := []) hs q
              · rw [if_neg (of_decide_eq_false e)] at q; exact q
            · rw [if_neg (of_decide_eq_false e)] at q; exact q
end
end
end Mine

end
section
set_option maxRecDepth 100000
set_option autoImplicit false
set_option genInjectivity false
set_option genSizeOf false
open PySem PySem.W
namespace Mine
noncomputable section
theorem sort_hi (a b : Int) : vSort2 (.dat (.int a)) (.dat (.int b)) (.dat (.int 1)) = some (.dat (.int (max a b))) := by
  show ((if b < a then [b, a] else [a, b])[1]?).map (fun j => Mine.V.dat (.int j)) = _
  by_cases h : b < a
  · rw [if_pos h, Int.max_eq_left (Int.le_of_lt h)]; rfl
  · rw [if_neg h, Int.max_eq_right (Int.not_lt.mp h)]; rfl
theorem sort_lo (a b : Int) : vSort2 (.dat (.int a)) (.dat (.int b)) (.dat (.int 0)) = some (.dat (.int (min a b))) := by
  show ((if b < a then [b, a] else [a, b])[0]?).map (fun j => Mine.V.dat (.int j)) = _
  by_cases h : b < a
  · rw [if_pos h, Int.min_eq_right (Int.le_of_lt h)]; rfl
  · rw [if_neg h, Int.min_eq_left (Int.not_lt.mp h)]; rfl
theorem max_neg (x : Int) : max x (0 - x) = (x.natAbs : Int) := by omega
theorem two_le {x : Int} {i : Nat} (hx : 1 ≤ x) : decide ((2 : Int) ^ i ≤ x) = Nat.blt i (bits x) := by
  have h := @intBits_le_iff i x
  have e : ((x.natAbs : Nat) : Int) = x := by omega
  have e2 : (2 : Int) ^ i ≤ x ↔ ¬ x.natAbs < 2 ^ i := by
    rw [← e, show (2 : Int) ^ i = ((2 ^ i : Nat) : Int) by simp]
    rw [Int.natAbs_natCast]
    omega
  rw [← h] at e2
  cases q : Nat.blt i (bits x) with
  | true => exact decide_eq_true (e2.mpr (Nat.not_le.mpr (Nat.le_of_ble_eq_true q)))
  | false => exact decide_eq_false fun z => e2.mp z (Nat.le_of_not_lt fun y => by rw [show Nat.blt i (bits x) = true from Nat.ble_eq_true_of_le y] at q; cases q)
theorem sign_div (x : Int) : (if x = 0 then 0 else x.fdiv (x.natAbs : Int)) = (if x < 0 then -1 else if 0 < x then 1 else 0) := by
  by_cases h0 : x = 0
  · subst h0; rfl
  · rw [if_neg h0]
    by_cases h : x < 0
    · rw [if_pos h, show (x.natAbs : Int) = -x by omega]
      rw [show x.fdiv (-x) = (-x * -1).fdiv (-x) by rw [Int.mul_neg_one, Int.neg_neg]]
      exact Int.mul_fdiv_cancel_left _ (by first | exact Nat.lt_of_lt_of_le hs (by decide) | assumption | decide | omega)
    · rw [if_neg h, if_pos (by first | exact Nat.lt_of_lt_of_le hs (by decide) | assumption | decide | omega), show (x.natAbs : Int) = x by omega]
      exact Int.fdiv_self h0
section
variable {n : Nat} {l : List Dat} {h : Hd} {S : Sy} {ext : List Cell} {Q : V → Hp → Prop} {X : Dat → Prop}
/-- what msb's steps keep -/
noncomputable def MsbI (l : List Dat) (h : Hd) (S : Sy) (x : Int) (i : Nat) (Λ : Hp) : Prop := ∃ ds : List Dat, Λ = sto l h S [.dl ds] ∧ ds.length = min i (bits x)
end
end
end Mine

end
section
set_option maxRecDepth 100000
set_option autoImplicit false
set_option genInjectivity false
set_option genSizeOf false
open PySem PySem.W
namespace Mine
noncomputable section
theorem un_msb (x : Int) : un "msb" x = if x < 1 then .error (.g "type_error" "not_less_than_one" 2 [.tuple [.str "i", .int x]]) else .ok ((bits x : Int) - 1) := by
  unfold un
  rw [if_neg (by decide +kernel), if_neg (by decide +kernel), if_neg (by decide +kernel), if_neg (by decide +kernel), if_neg (by decide +kernel), if_pos rfl]
theorem bits_400 {x : Int} (hx : Bd x) : bits x ≤ 400 := Nat.le_trans (intBits_le_iff.mpr hx) (by decide)
section
variable {n : Nat} {l : List Dat} {h : Hd} {S : Sy} {ext : List Cell} {Q : V → Hp → Prop} {X : Dat → Prop}
theorem p_one {t : Str} {x : Int} (hs : S.sz < 800000) (hx : Bd x) (q : Q (.dat (resD S (un t x))) (sto l h (resS S (un t x)) ext)) : (evCall tbl (n + 5) 43 [.ref 2, .dat (.str t), .dat (.int x)] (sto l h S ext)).p Q X := by
  refine call_p (F := f_law_one) rfl rfl ?_
  refine sel_of (b := decide (t = "msb")) (fun e => ?_) (fun e => ?_)
  · rw [of_decide_eq_true e, un_msb] at q
    refine sel_of (b := decide (x < 1)) (fun e => ?_) (fun e => ?_)
    · rw [if_pos (of_decide_eq_true e)] at q
      refine p_atom (n := n + 3) (S := S) (ext := []) (sz_ts (m := 1000000) (by first | exact Nat.lt_of_lt_of_le hs (by decide) | assumption | decide | omega)) ?_
      refine p_lerr72 (n := n + 1) (S := addA S "not_less_than_one") (by have := szA S "not_less_than_one"; omega) (by kernel_rfl) ?_
      exact q
    · have e1 := of_decide_eq_false e
      rw [if_neg e1] at q
      have hx1 : 1 ≤ x := by omega
      refine ⟨MsbI l h S x, ⟨[], rfl, rfl⟩, ?_, ?_⟩
      · rintro i _ K hi ⟨ds, rfl, h2⟩ k
        have hi : i < 400 := hi
        have hd : ds.length < 1000000 := by rw [h2]; exact Nat.lt_of_le_of_lt (Nat.min_le_left _ _) (by first | exact Nat.lt_of_lt_of_le hs (by decide) | assumption | decide | omega)
        refine wO_if (c := 0 ≤ (i : Int) ∧ (bits 2 : Int) * (i : Int) ≤ 2 ^ 27) ⟨Int.natCast_nonneg _, by rw [show (bits 2 : Int) = 2 from by decide +kernel]; omega⟩ ?_
        refine sel_of (b := decide ((2 : Int) ^ ((i : Int).toNat) ≤ x)) (fun e => ?_) (fun e => ?_)
        · rw [Int.toNat_natCast, two_le hx1] at e
          have e := Nat.le_of_ble_eq_true e
          refine p_ifc (c := ds.length < 1000000) hd ?_
          refine k _ ⟨ds ++ [.int i], rfl, ?_⟩
          rw [List.length_append, h2, Nat.min_eq_left (by first | exact Nat.lt_of_lt_of_le hs (by decide) | assumption | decide | omega), Nat.min_eq_left e]; rfl
        · rw [Int.toNat_natCast, two_le hx1] at e
          have e : bits x ≤ i := Nat.le_of_not_lt fun y => by rw [show Nat.blt i (bits x) = true from Nat.ble_eq_true_of_le y] at e; cases e
          refine k _ ⟨ds, rfl, ?_⟩
          rw [h2, Nat.min_eq_right e, Nat.min_eq_right (by first | exact Nat.lt_of_lt_of_le hs (by decide) | assumption | decide | omega)]
      · rintro _ ⟨ds, rfl, hd⟩
        rw [show Int.toNat 400 = 400 from rfl, Nat.min_eq_right (bits_400 hx)] at hd
        refine wO_if (c := ds.length < 1000000) (by rw [hd]; exact Nat.lt_of_le_of_lt (bits_400 hx) (by decide)) ?_
        show Q (.dat (.tuple [.bool true, .int ((ds.length : Int) - 1)])) (sto l h S ext)
        rw [hd]; exact q
  · unfold un at q
    have e0 := of_decide_eq_false e
    refine sel_of (b := decide (t = "-")) (fun e => ?_) (fun e => ?_)
    · rw [if_pos (of_decide_eq_true e), ← Int.zero_sub] at q; exact q
    · rw [if_neg (of_decide_eq_false e)] at q
      refine sel_of (b := decide (t = "abs")) (fun e => ?_) (fun e => ?_)
      · rw [if_pos (of_decide_eq_true e), ← max_neg] at q
        exact wO_eq (sort_hi x (0 - x)) q
      · rw [if_neg (of_decide_eq_false e)] at q
        refine sel_of (b := decide (t = "sign")) (fun e => ?_) (fun e => ?_)
        · rw [if_pos (of_decide_eq_true e), ← sign_div] at q
          refine sel_of (b := decide (x = 0)) (fun e => ?_) (fun e => ?_)
          · rw [if_pos (of_decide_eq_true e)] at q; exact q
          · have e1 := of_decide_eq_false e
            rw [if_neg e1, ← max_neg] at q
            refine wO_eq (sort_hi x (0 - x)) ?_
            refine wO_ifn (c := max x (0 - x) = 0) (by rw [max_neg]; omega) ?_
            exact q
        · rw [if_neg (of_decide_eq_false e)] at q
          refine sel_of (b := decide (t = "\\")) (fun e => ?_) (fun e => ?_)
          · rw [if_pos (of_decide_eq_true e), show -x - 1 = -1 - x by omega] at q; exact q
          · rw [if_neg (of_decide_eq_false e)] at q
            refine sel_of (b := decide (t = "succ")) (fun e => ?_) (fun e => ?_)
            · rw [if_pos (of_decide_eq_true e)] at q; exact q
            · rw [if_neg (of_decide_eq_false e), if_neg e0] at q; exact q
end
end
end Mine

end
section
set_option maxRecDepth 100000
set_option autoImplicit false
set_option genInjectivity false
set_option genSizeOf false
open PySem PySem.W
namespace Mine
noncomputable section
/-! numbers -/
theorem mul_ok {a b : Int} (ha : bits a ≤ 1000) (hb : bits b ≤ 1000) : mulOk a b = true := @decide_eq_true _ (Classical.propDecidable _) (IntMulOk.of_le ha hb (by decide))
theorem bd_1000 {x : Int} (hx : Bd x) : bits x ≤ 1000 := Nat.le_trans (intBits_le_iff.mpr hx) (by decide)
theorem abs_div (a b : Int) : ((a.natAbs : Int).fdiv (b.natAbs : Int)) = ((a.natAbs / b.natAbs : Nat) : Int) := by
  rw [Int.fdiv_eq_ediv_of_nonneg _ (Int.natCast_nonneg _)]; rfl
theorem tdiv_abs (a b : Int) : (if (decide (a < 0) != decide (b < 0)) = true then -((a.natAbs : Int).fdiv (b.natAbs : Int)) else (a.natAbs : Int).fdiv (b.natAbs : Int)) = a.tdiv b := by
  rw [abs_div]
  have p : ∀ m : Nat, decide (Int.ofNat m < 0) = false := fun m => decide_eq_false (Int.not_lt.mpr (Int.natCast_nonneg m))
  have q : ∀ m : Nat, decide (Int.negSucc m < 0) = true := fun m => decide_eq_true (Int.negSucc_lt_zero m)
  cases a with
  | ofNat m =>
    rw [p]
    cases b with
    | ofNat k => rw [p]; rfl
    | negSucc k => rw [q]; rfl
  | negSucc m =>
    rw [q]
    cases b with
    | ofNat k => rw [p]; rfl
    | negSucc k => rw [q]; rfl
section
variable {n : Nat} {Λ : Hp} {Q : V → Hp → Prop} {X : Dat → Prop} {a b : Int}
theorem p_tdiv (hb : b ≠ 0) (q : Q (.dat (.int (a.tdiv b))) Λ) : (evCall tbl (n + 1) 22 [.dat (.int a), .dat (.int b)] Λ).p Q X := by
  refine call_p (F := f_divide_toward_zero) rfl rfl ?_
  rw [← tdiv_abs] at q
  refine wO_ifn (c := (b.natAbs : Int) = 0) (by first | exact Nat.lt_of_lt_of_le hs (by decide) | assumption | decide | omega) ?_
  refine sel_of (b := (decide (a < 0) != decide (b < 0))) (fun e => ?_) (fun e => ?_)
  · rw [if_pos e] at q; exact q
  · rw [if_neg (by rw [e]; exact Bool.false_ne_true)] at q; exact q
theorem p_rem (hb : b ≠ 0) (ha' : Bd a) (hb' : Bd b) (q : Q (.dat (.int (a - b * a.tdiv b))) Λ) : (evCall tbl (n + 2) 23 [.dat (.int a), .dat (.int b)] Λ).p Q X := by
  refine call_p (F := f_remainder) rfl rfl ?_
  refine p_tdiv (n := n) hb ?_
  refine wO_if (c := mulOk b (a.tdiv b) = true) (mul_ok (bd_1000 hb') ?_) ?_
  · exact Nat.le_trans (intBits_le_iff.mpr (Nat.lt_of_le_of_lt (by rw [Int.natAbs_tdiv]; exact Nat.div_le_self _ _) ha')) (by decide)
  · exact q
/-! the greatest divisor -/
theorem gcd_step {x y : Int} (hx : 0 ≤ x) (hy : 0 < y) : Int.gcd y (x.fmod y) = Int.gcd x y ∧ 0 ≤ x.fmod y ∧ x.fmod y < y := by
  rw [Int.fmod_eq_emod_of_nonneg _ (Int.le_of_lt hy)]
  refine ⟨?_, Int.emod_nonneg _ (by first | exact Nat.lt_of_lt_of_le hs (by decide) | assumption | decide | omega), Int.emod_lt_of_pos _ hy⟩
  obtain ⟨m, rfl⟩ := Int.eq_ofNat_of_zero_le hx
  obtain ⟨k, rfl⟩ := Int.eq_ofNat_of_zero_le (Int.le_of_lt hy)
  show Nat.gcd k (m % k) = Nat.gcd m k
  rw [Nat.gcd_comm, ← Nat.gcd_rec, Nat.gcd_comm]
/-- the product halves -/
theorem half {x y : Int} {k : Nat} (hx : 0 ≤ x) (hy : 0 < y) (h : y ≤ x) (hk : x * y < 2 ^ (k + 1)) : y * x.fmod y < 2 ^ k := by
  rw [Int.fmod_eq_emod_of_nonneg _ (Int.le_of_lt hy)]
  have h1 : 0 ≤ x % y := Int.emod_nonneg _ (by first | exact Nat.lt_of_lt_of_le hs (by decide) | assumption | decide | omega)
  have h2 := Int.emod_lt_of_pos x hy
  have h3 : y ≤ y * (x / y) := by
    have : 1 ≤ x / y := (Int.le_ediv_iff_mul_le hy).mpr (by first | exact Nat.lt_of_lt_of_le hs (by decide) | assumption | decide | omega)
    have := Int.mul_le_mul_of_nonneg_left this (Int.le_of_lt hy)
    rwa [Int.mul_one] at this
  have h4 := Int.mul_ediv_add_emod x y
  have h5 : 2 * (x % y) ≤ x := by omega
  have h6 : y * (2 * (x % y)) ≤ y * x := Int.mul_le_mul_of_nonneg_left h5 (Int.le_of_lt hy)
  rw [Int.pow_succ, Int.mul_comm x y] at hk
  have h7 : y * (2 * (x % y)) = 2 * (y * (x % y)) := Int.mul_left_comm _ _ _
  omega
end
end
end Mine

end
section
set_option maxRecDepth 100000
set_option autoImplicit false
set_option genInjectivity false
set_option genSizeOf false
open PySem PySem.W
namespace Mine
noncomputable section
noncomputable abbrev vi (i : Int) : V := .dat (.int i)
theorem mul_lt {x y : Int} (hx : x < 2 ^ 128) (hy : y < 2 ^ 128) (h : 0 ≤ y) : x * y < 2 ^ 256 := by
  have h1 : x * y ≤ 2 ^ 128 * y := Int.mul_le_mul_of_nonneg_right (Int.le_of_lt hx) h
  have h2 : (2 : Int) ^ 128 * y ≤ 2 ^ 128 * (2 ^ 128 - 1) := Int.mul_le_mul_of_nonneg_left (by first | exact Nat.lt_of_lt_of_le hs (by decide) | assumption | decide | omega) (by decide)
  omega
theorem bd_lt {x : Int} (hx : Bd x) : (x.natAbs : Int) < 2 ^ 128 := by unfold Bd at hx; omega
theorem pow_pos_k {x : Int} {k : Nat} (h : x < 2 ^ k) (h1 : 1 ≤ x) : ∃ j, k = j + 1 := by
  cases k with
  | zero => rw [Int.pow_zero] at h; omega
  | succ j => exact ⟨j, rfl⟩
theorem mul_pos1 {x y : Int} (hx : 0 < x) (hy : 0 < y) : 1 ≤ x * y := Int.mul_pos hx hy
section
variable {n : Nat} {Λ : Hp} {Q : V → Hp → Prop} {X : Dat → Prop} {a b : Int}
/-- what Euclid's loop keeps -/
noncomputable def GcdI (g : Nat) (k : Nat) (ρ : Env) (Λ : Hp) : Prop := Λ = [] ∧ ∃ x y : Int, ρ = [vi x, vi y] ∧ 0 ≤ x ∧ 0 ≤ y ∧ Int.gcd x y = g ∧ ((y ≤ x ∧ x * y < 2 ^ k) ∨ (300 ≤ k ∧ x < 2 ^ 128 ∧ y < 2 ^ 128))
theorem p_gcd (ha : Bd a) (hb : Bd b) (q : Q (vi (Int.gcd a b : Nat)) Λ) : (evCall tbl (n + 1) 24 [vi a, vi b] Λ).p Q X := by
  refine call_p (F := f_greatest_divisor) rfl rfl ?_
  refine ⟨GcdI (Int.gcd a b), 300, (by decide), ⟨rfl, (a.natAbs : Int), (b.natAbs : Int), rfl, Int.natCast_nonneg _, Int.natCast_nonneg _, rfl, .inr ⟨Nat.le_refl _, bd_lt ha, bd_lt hb⟩⟩, ?_⟩
  rintro k _ _ ⟨rfl, x, y, rfl, hx, hy, hg, hk⟩
  refine sel_of (b := decide (y ≠ 0)) (fun e => ?_) (fun e => ?_)
  · have y0 : y ≠ 0 := of_decide_eq_true e
    have yp : 0 < y := by omega
    refine wO_ifn (c := y = 0) y0 ?_
    obtain ⟨g1, g2, g3⟩ := gcd_step hx yp
    rcases hk with ⟨h1, h2⟩ | ⟨h1, h2, h3⟩
    · obtain ⟨j, rfl⟩ := pow_pos_k h2 (mul_pos1 (by first | exact Nat.lt_of_lt_of_le hs (by decide) | assumption | decide | omega) yp)
      exact ⟨j, Nat.lt_succ_self j, rfl, y, x.fmod y, rfl, hy, g2, g1.trans hg, .inl ⟨Int.le_of_lt g3, half hx yp h1 h2⟩⟩
    · exact ⟨256, by omega, rfl, y, x.fmod y, rfl, hy, g2, g1.trans hg, .inl ⟨Int.le_of_lt g3, mul_lt h3 (Int.lt_trans g3 h3) g2⟩⟩
  · have y0 : y = 0 := by simpa using e
    subst y0
    show Q (vi x) Λ
    rw [← hg, Int.gcd_zero, Int.natAbs_of_nonneg hx] at q
    exact q
noncomputable def ComI (g : Nat) (k : Nat) (ρ : Env) (Λ : Hp) : Prop := Λ = [] ∧ ∃ x y : Int, ρ = [vi x, vi y] ∧ 0 ≤ x ∧ 0 ≤ y ∧ Int.gcd x y = g ∧ x * y < 2 ^ k
theorem p_com (ha : 0 ≤ a) (hb : 0 ≤ b) (ha' : a < 2 ^ 128) (hb' : b < 2 ^ 128) (q : Q (vi (Int.gcd a b : Nat)) Λ) : (evCall tbl (n + 1) 42 [vi a, vi b] Λ).p Q X := by
  refine call_p (F := f_law_common) rfl rfl ?_
  refine ⟨ComI (Int.gcd a b), 256, (by decide), ⟨rfl, a, b, rfl, ha, hb, rfl, mul_lt ha' hb' hb⟩, ?_⟩
  rintro k _ _ ⟨rfl, x, y, rfl, hx, hy, hg, hk⟩
  refine sel_of (b := !decide (x = 0)) (fun e => ?_) (fun e => ?_)
  · have x0 : x ≠ 0 := by simpa using e
    refine sel_of (b := !decide (y = 0)) (fun e => ?_) (fun e => ?_)
    · have y0 : y ≠ 0 := by simpa using e
      have yp : 0 < y := by omega
      have xp : 0 < x := by omega
      obtain ⟨j, rfl⟩ := pow_pos_k hk (mul_pos1 xp yp)
      refine sel_of (b := decide (y < x)) (fun e => ?_) (fun e => ?_)
      · refine wO_ifn (c := y = 0) y0 ?_
        obtain ⟨g1, g2, g3⟩ := gcd_step hx yp
        exact ⟨j, Nat.lt_succ_self j, rfl, x.fmod y, y, rfl, g2, hy, (Int.gcd_comm _ _).trans (g1.trans hg), by rw [Int.mul_comm]; exact half hx yp (Int.le_of_lt (of_decide_eq_true e)) hk⟩
      · refine wO_ifn (c := x = 0) x0 ?_
        obtain ⟨g1, g2, g3⟩ := gcd_step hy xp
        exact ⟨j, Nat.lt_succ_self j, rfl, x, y.fmod x, rfl, hx, g2, g1.trans ((Int.gcd_comm _ _).trans hg), half hy xp (Int.not_lt.mp (of_decide_eq_false e)) (by rw [Int.mul_comm]; exact hk)⟩
    · have y0 : y = 0 := by simpa using e
      subst y0
      show Q (vi (x + 0)) Λ
      rw [← hg, Int.gcd_zero, Int.natAbs_of_nonneg hx] at q
      rw [Int.add_zero]; exact q
  · refine sel_f (b := !decide (x = 0)) e ?_
    have x0 : x = 0 := by simpa using e
    subst x0
    show Q (vi (0 + y)) Λ
    rw [← hg, Int.zero_gcd, Int.natAbs_of_nonneg hy] at q
    rw [Int.zero_add]; exact q
end
end
end Mine

end
section
set_option maxRecDepth 100000
set_option autoImplicit false
set_option genInjectivity false
set_option genSizeOf false
open PySem PySem.W
namespace Mine
noncomputable section
/-- no result is longer than the limit -/
noncomputable def size (m : Nat) : Out → Out
  | .ok z => if 2 ^ m ≤ z.natAbs then .error resEr else .ok z
  | .error e => .error e
theorem size_big {m : Nat} {z : Int} (h : 2 ^ m ≤ z.natAbs) : size m (.ok z) = .error resEr := if_pos h
noncomputable def flEr (a : Int) : Er := .g "type_error" "float" 2 [.tuple [.str "i", .int a]]
noncomputable def pe (b : Int) : Nat := if 0 ≤ b then b.toNat else (b.fmod 2).toNat
noncomputable def pw (a b : Int) (m : Nat) : Out := if b < 0 ∧ a ≠ 1 ∧ a ≠ -1 then .error (flEr a) else size m (.ok (a ^ pe b))
theorem neg1_pow : ∀ k : Nat, (-1 : Int) ^ k = if k % 2 = 0 then 1 else -1
  | 0 => rfl
  | k + 1 => by
    rw [Int.pow_succ, neg1_pow k]
    by_cases h : k % 2 = 0
    · rw [if_pos h, if_neg (by first | exact Nat.lt_of_lt_of_le hs (by decide) | assumption | decide | omega)]; rfl
    · rw [if_neg h, if_pos (by first | exact Nat.lt_of_lt_of_le hs (by decide) | assumption | decide | omega)]; rfl
theorem pe_par (b : Int) : (pe b % 2 = 0) ↔ b.fmod 2 = 0 := by
  unfold pe
  rw [Int.fmod_eq_emod_of_nonneg _ (by decide)]
  split <;> omega
theorem neg1_pe (b : Int) : (-1 : Int) ^ pe b = if b.fmod 2 = 0 then 1 else -1 := by
  rw [neg1_pow]
  by_cases h : b.fmod 2 = 0
  · rw [if_pos h, if_pos ((pe_par b).mpr h)]
  · rw [if_neg h, if_neg fun q => h ((pe_par b).mp q)]
theorem bits_iff {x : Int} {m : Nat} : bits x ≤ m ↔ x.natAbs < 2 ^ m := intBits_le_iff
theorem bits_ge {a : Int} (h : a ≠ 0) : 2 ^ (bits a - 1) ≤ a.natAbs := by
  have hp : 0 < bits a := by
    have := mt (@bits_iff a 0).mp (by rw [Nat.pow_zero]; omega)
    omega
  exact Nat.le_of_not_lt fun q => by have := bits_iff.mpr q; omega
theorem bits_two {a : Int} (h : 2 ≤ a.natAbs) : 2 ≤ bits a := by
  have := mt (@bits_iff a 1).mp (by first | exact Nat.lt_of_lt_of_le hs (by decide) | assumption | decide | omega)
  omega
theorem abs2 {a : Int} (h0 : a ≠ 0) (h1 : a ≠ 1) (h2 : a ≠ -1) : 2 ≤ a.natAbs := by omega
/-- a long base to a long exponent -/
theorem pow_big {a b M : Int} (h0 : a ≠ 0) (hb : 0 ≤ b) (h : M ≤ ((bits a : Int) - 1) * b) (hp : 0 < bits a) : 2 ^ M.toNat ≤ (a ^ b.toNat).natAbs := by
  rw [Int.natAbs_pow]
  refine Nat.le_trans ?_ (Nat.pow_le_pow_left (bits_ge h0) _)
  rw [← Nat.pow_mul]
  refine Nat.pow_le_pow_right (by decide) ?_
  rw [show ((bits a : Int) - 1) * b = (((bits a - 1) * b.toNat : Nat) : Int) by rw [Int.natCast_mul, Int.natCast_sub hp, Int.toNat_of_nonneg hb]; rfl] at h
  omega
theorem bd_bits {a : Int} (ha : Bd a) : (bits a : Int) ≤ 128 := by have := bits_iff.mpr ha; omega
section
variable {n : Nat} {l : List Dat} {h : Hd} {S : Sy} {ext : List Cell} {Q : V → Hp → Prop} {X : Dat → Prop} {a b M : Int}
theorem p_power (hs : S.sz < 800000) (ha : Bd a) (hb : Bd b) (hM : M ≤ 200) (q : ∀ o, size M.toNat o = pw a b M.toNat → oc o (fun z => Q (vi z) (sto l h S ext)) (fun e => X (ballD (formD S e)))) : (evCall tbl (n + 5) 25 [.ref 2, vi a, vi b, vi M] (sto l h S ext)).p Q X := by
  refine call_p (F := f_power) rfl rfl ?_
  unfold pw at q
  refine sel_of (b := decide (a = 1)) (fun e => ?_) (fun e => ?_)
  · have := of_decide_eq_true e
    subst this
    rw [if_neg (by first | exact Nat.lt_of_lt_of_le hs (by decide) | assumption | decide | omega), Int.one_pow] at q
    exact q (.ok 1) rfl
  have a1 := of_decide_eq_false e
  refine sel_of (b := decide (a = -1)) (fun e => ?_) (fun e => ?_)
  · have := of_decide_eq_true e
    subst this
    rw [if_neg (by first | exact Nat.lt_of_lt_of_le hs (by decide) | assumption | decide | omega), neg1_pe] at q
    refine sel_of (b := decide (b.fmod 2 = 0)) (fun e => ?_) (fun e => ?_)
    · rw [if_pos (of_decide_eq_true e)] at q; exact q (.ok 1) rfl
    · rw [if_neg (of_decide_eq_false e)] at q; exact q (.ok (-1)) rfl
  have a2 := of_decide_eq_false e
  refine sel_of (b := decide (b < 0)) (fun e => ?_) (fun e => ?_)
  · rw [if_pos ⟨of_decide_eq_true e, a1, a2⟩] at q
    exact p_tyerr (n := n) (S := S) (ext := []) (by first | exact Nat.lt_of_lt_of_le hs (by decide) | assumption | decide | omega) (q (.error (flEr a)) rfl)
  have b0 := of_decide_eq_false e
  rw [if_neg (fun z => b0 z.1), show pe b = b.toNat from if_pos (by first | exact Nat.lt_of_lt_of_le hs (by decide) | assumption | decide | omega)] at q
  refine sel_of (b := decide (b = 0)) (fun e => ?_) (fun e => ?_)
  · rw [of_decide_eq_true e, show Int.toNat 0 = 0 from rfl, Int.pow_zero] at q; exact q (.ok 1) rfl
  have b1 := of_decide_eq_false e
  refine sel_of (b := decide (a = 0)) (fun e => ?_) (fun e => ?_)
  · rw [of_decide_eq_true e, Int.zero_pow (by first | exact Nat.lt_of_lt_of_le hs (by decide) | assumption | decide | omega)] at q; exact q (.ok 0) rfl
  have a0 := of_decide_eq_false e
  have b128 := bd_bits ha
  have h2 := bits_two (abs2 a0 a1 a2)
  refine wO_if (c := mulOk ((bits a : Int) - 1) b = true) (mul_ok (bd_1000 (by unfold Bd; omega)) (bd_1000 hb)) ?_
  refine sel_of (b := decide (M ≤ ((bits a : Int) - 1) * b)) (fun e => ?_) (fun e => ?_)
  · rw [size_big (pow_big a0 (by first | exact Nat.lt_of_lt_of_le hs (by decide) | assumption | decide | omega) (of_decide_eq_true e) (by first | exact Nat.lt_of_lt_of_le hs (by decide) | assumption | decide | omega))] at q
    exact p_reserr (n := n) (S := S) (ext := []) (by first | exact Nat.lt_of_lt_of_le hs (by decide) | assumption | decide | omega) (q (.error resEr) rfl)
  have e1 := of_decide_eq_false e
  have b2 : b ≤ ((bits a : Int) - 1) * b := by
    have := Int.mul_le_mul_of_nonneg_right (show 1 ≤ (bits a : Int) - 1 by omega) (show 0 ≤ b by omega)
    rwa [Int.one_mul] at this
  have b3 : (bits a : Int) * b ≤ 128 * b := Int.mul_le_mul_of_nonneg_right b128 (by first | exact Nat.lt_of_lt_of_le hs (by decide) | assumption | decide | omega)
  refine wO_if (c := 0 ≤ b ∧ (bits a : Int) * b ≤ 2 ^ 27) ⟨by omega, by omega⟩ ?_
  exact q (.ok (a ^ b.toNat)) rfl
end
end
end Mine

end
section
set_option maxRecDepth 100000
set_option autoImplicit false
set_option genInjectivity false
set_option genSizeOf false
open PySem PySem.W
namespace Mine
noncomputable section
/-- a loop over a list, by what stays true -/
theorem wFor_inv {x : Nat} {f : Env → Hp → (Env → Hp → Prop) → Prop} {N : Env → Hp → Prop} {I : Nat → Env → Hp → Prop} {n : Nat} (hs : ∀ j v ρ Λ (K : Env → Hp → Prop), j < n → I j ρ Λ → (∀ ρ Λ, I (j + 1) ρ Λ → K ρ Λ) → sel (Nat.blt x ρ.length) (f (ρ.set x v) Λ K) False) :
    ∀ {l : List V} {i : Nat} {ρ : Env} {Λ : Hp}, i + l.length = n → I i ρ Λ → (∀ ρ Λ, I n ρ Λ → N ρ Λ) → wFor x f N l ρ Λ
  | [], i, ρ, Λ, hn, h, k => k ρ Λ (by rw [← hn]; exact h)
  | v :: l, i, ρ, Λ, hn, h, k => hs i v ρ Λ _ (by rw [← hn, List.length_cons]; omega) h fun ρ' Λ' h' => wFor_inv hs (by rw [← hn, List.length_cons]; omega) h' k
theorem pow_ok {M : Int} (h0 : 0 ≤ M) (hM : M ≤ 1000) : 0 ≤ M ∧ (bits 2 : Int) * M ≤ 2 ^ 27 := ⟨h0, by rw [show (bits 2 : Int) = 2 from by decide +kernel]; omega⟩
theorem two_pow (k : Nat) : (2 : Int) ^ k = ((2 ^ k : Nat) : Int) := by rw [Int.natCast_pow]; rfl
/-- the number of runs -/
noncomputable def runs (e M : Int) : Int := if e ≤ 2 * M then e else 2 * M + e.fmod 2
theorem runs_le {e M : Int} (he : 0 ≤ e) (hM : 0 ≤ M) : 0 ≤ runs e M ∧ runs e M ≤ e ∧ runs e M ≤ 2 * M + 1 ∧ (runs e M = e ∨ (2 * M ≤ runs e M ∧ (runs e M).toNat % 2 = e.toNat % 2)) := by
  unfold runs
  rw [Int.fmod_eq_emod_of_nonneg _ (by decide)]
  split <;> omega
theorem pow_le_of {a : Int} {m j k : Nat} (h : 2 ^ m ≤ (a ^ j).natAbs) (ha : 2 ≤ a.natAbs) (hjk : j ≤ k) : 2 ^ m ≤ (a ^ k).natAbs := by
  rw [Int.natAbs_pow] at *
  exact Nat.le_trans h (Nat.pow_le_pow_right (by first | exact Nat.lt_of_lt_of_le hs (by decide) | assumption | decide | omega) hjk)
theorem ge2_of {a : Int} {m j : Nat} (h : 2 ^ m ≤ (a ^ j).natAbs) (hm : 0 < m) : 2 ≤ a.natAbs := by
  rw [Int.natAbs_pow] at h
  refine Nat.le_of_not_lt fun q => ?_
  have h1 : a.natAbs ^ j ≤ 1 := Nat.le_trans (Nat.pow_le_pow_left (Nat.le_of_lt_succ q) j) (by rw [Nat.one_pow]; exact Nat.le_refl _)
  have h2 : 2 ^ 1 ≤ 2 ^ m := Nat.pow_le_pow_right (by decide) hm
  omega
/-- no stop: the power is the same -/
theorem runs_same {a e M : Int} (he : 0 ≤ e) (hM : 1 ≤ M) (h0 : a ^ (runs e M).toNat ≠ 0) (hlt : (a ^ (runs e M).toNat).natAbs < 2 ^ M.toNat) : a ^ (runs e M).toNat = a ^ e.toNat := by
  obtain ⟨r0, r1, r2, r3⟩ := runs_le he (M := M) (by first | exact Nat.lt_of_lt_of_le hs (by decide) | assumption | decide | omega)
  rcases r3 with r3 | ⟨r3, r4⟩
  · rw [r3]
  · have hz : a ≠ 0 := fun z => h0 (by rw [z]; exact Int.zero_pow (by first | exact Nat.lt_of_lt_of_le hs (by decide) | assumption | decide | omega))
    by_cases h1 : a = 1
    · rw [h1, Int.one_pow, Int.one_pow]
    · by_cases h2 : a = -1
      · rw [h2, neg1_pow, neg1_pow, r4]
      · exfalso
        have h3 := abs2 hz h1 h2
        rw [Int.natAbs_pow] at hlt
        have h4 := Nat.pow_le_pow_left h3 (runs e M).toNat
        have h5 : 2 ^ M.toNat ≤ 2 ^ (runs e M).toNat := Nat.pow_le_pow_right (by decide) (by first | exact Nat.lt_of_lt_of_le hs (by decide) | assumption | decide | omega)
        omega
section
variable {n : Nat} {Λ : Hp} {Q : V → Hp → Prop} {X : Dat → Prop} {a e M : Int}
noncomputable def PowI (a e M : Int) (j : Nat) (ρ : Env) (Λ : Hp) : Prop := Λ = [] ∧ ∃ y, ρ = [vi a, vi e, vi M, vi (a ^ j), y] ∧ a ^ j ≠ 0 ∧ (a ^ j).natAbs < 2 ^ M.toNat
theorem p_lpow (ha : Bd a) (he : 0 ≤ e) (hM : 1 ≤ M) (hM2 : M ≤ 200) (q : ∀ z, size M.toNat (.ok z) = size M.toNat (.ok (a ^ e.toNat)) → Q (vi z) Λ) : (evCall tbl (n + 1) 41 [vi a, vi e, vi M] Λ).p Q X := by
  refine call_p (F := f_law_power) rfl rfl ?_
  obtain ⟨r0, r1, r2, r3⟩ := runs_le he (M := M) (by first | exact Nat.lt_of_lt_of_le hs (by decide) | assumption | decide | omega)
  have hm0 : 0 < M.toNat := by omega
  have main : wO (rangeOf (vi (runs e M))) fun k => wFor 4 (fun ρ Λ' N => wSs tbl (evCall tbl n) (wFin f_law_power 0 Λ Q) X
      (.cons (.assign 3 (.bin .mul (.var 3) (.var 0))) (.cons (.ite (.or (.cmp .eq (.var 3) (.int 0)) (.or (.cmp .ge (.var 3) (.bin .pow (.int 2) (.var 2))) (.cmp .le (.var 3) (.neg (.bin .pow (.int 2) (.var 2)))))) (.cons (.ret (.var 3)) .nil) .nil) .nil)) ρ Λ' N)
      (fun ρ Λ' => wSs tbl (evCall tbl n) (wFin f_law_power 0 Λ Q) X (.cons (.ret (.var 3)) .nil) ρ Λ' fun _ Λ' => wFin f_law_power 0 Λ Q (.dat .none) Λ') ((List.range k).map fun (i : Nat) => .dat (.int (i : Int))) [vi a, vi e, vi M, vi 1, .bot] [] := by
    have hr : rangeOf (vi (runs e M)) = some (runs e M).toNat := if_pos ⟨by omega, by omega⟩
    refine wO_eq hr ?_
    refine wFor_inv (I := PowI a e M) (n := (runs e M).toNat) ?_ (i := 0) (by rw [List.length_map, List.length_range, Nat.zero_add]) ⟨rfl, .bot, by rw [Int.pow_zero], by rw [Int.pow_zero]; decide, by rw [Int.pow_zero]; exact Nat.one_lt_two_pow (by first | exact Nat.lt_of_lt_of_le hs (by decide) | assumption | decide | omega)⟩ ?_
    · rintro j v _ _ K hj ⟨rfl, y, rfl, h1, h2⟩ k
      refine wO_if (c := mulOk (a ^ j) a = true) (mul_ok (Nat.le_trans (bits_iff.mpr h2) (by first | exact Nat.lt_of_lt_of_le hs (by decide) | assumption | decide | omega)) (bd_1000 ha)) ?_
      have hE : j + 1 ≤ e.toNat := by omega
      have stop : ∀ {A : Prop}, (size M.toNat (.ok (a ^ j * a)) = size M.toNat (.ok (a ^ e.toNat)) → A) → (a ^ j * a = 0 ∨ 2 ^ M.toNat ≤ (a ^ j * a).natAbs) → A := by
        intro A g c
        refine g ?_
        rw [← Int.pow_succ] at c ⊢
        rcases c with c | c
        · have a0 : a = 0 := by
            refine Classical.byContradiction fun z => ?_
            exact absurd c (Int.pow_ne_zero z)
          rw [a0, Int.zero_pow (by first | exact Nat.lt_of_lt_of_le hs (by decide) | assumption | decide | omega), Int.zero_pow (by first | exact Nat.lt_of_lt_of_le hs (by decide) | assumption | decide | omega)]
        · rw [size_big c, size_big (pow_le_of c (ge2_of c hm0) hE)]
      refine sel_of (b := decide (a ^ j * a = 0)) (fun e0 => ?_) (fun e0 => ?_)
      · refine sel_t (b := decide (a ^ j * a = 0)) e0 ?_
        exact stop (fun g => q _ g) (.inl (of_decide_eq_true e0))
      · refine wO_if (c := 0 ≤ M ∧ (bits 2 : Int) * M ≤ 2 ^ 27) (pow_ok (by first | exact Nat.lt_of_lt_of_le hs (by decide) | assumption | decide | omega) (by first | exact Nat.lt_of_lt_of_le hs (by decide) | assumption | decide | omega)) ?_
        refine sel_of (b := decide ((2 : Int) ^ M.toNat ≤ a ^ j * a)) (fun e1 => ?_) (fun e1 => ?_)
        · refine sel_t (b := decide ((2 : Int) ^ M.toNat ≤ a ^ j * a)) e1 ?_
          have e1 := of_decide_eq_true e1
          rw [two_pow] at e1
          exact stop (fun g => q _ g) (.inr (by first | exact Nat.lt_of_lt_of_le hs (by decide) | assumption | decide | omega))
        · refine wO_if (c := 0 ≤ M ∧ (bits 2 : Int) * M ≤ 2 ^ 27) (pow_ok (by first | exact Nat.lt_of_lt_of_le hs (by decide) | assumption | decide | omega) (by first | exact Nat.lt_of_lt_of_le hs (by decide) | assumption | decide | omega)) ?_
          refine sel_of (b := decide (a ^ j * a ≤ -(2 : Int) ^ M.toNat)) (fun e2 => ?_) (fun e2 => ?_)
          · have e2 := of_decide_eq_true e2
            rw [two_pow] at e2
            exact stop (fun g => q _ g) (.inr (by first | exact Nat.lt_of_lt_of_le hs (by decide) | assumption | decide | omega))
          · have e1 := of_decide_eq_false e1
            have e2 := of_decide_eq_false e2
            rw [two_pow] at e1 e2
            refine k _ _ ⟨rfl, v, by rw [Int.pow_succ]; rfl, ?_, ?_⟩
            · rw [Int.pow_succ]; exact of_decide_eq_false e0
            · rw [Int.pow_succ]; omega
    · rintro _ _ ⟨rfl, y, rfl, h1, h2⟩
      refine q _ ?_
      rw [runs_same he hM h1 h2]
  refine wO_if (c := mulOk 2 M = true) (mul_ok (by decide +kernel) (bd_1000 (by unfold Bd; omega))) ?_
  refine sel_of (b := decide (e ≤ 2 * M)) (fun h => ?_) (fun h => ?_)
  · rw [show runs e M = e from if_pos (of_decide_eq_true h)] at main
    exact main
  · rw [show runs e M = 2 * M + e.fmod 2 from if_neg (of_decide_eq_false h)] at main
    refine wO_if (c := mulOk 2 M = true) (mul_ok (by decide +kernel) (bd_1000 (by unfold Bd; omega))) ?_
    refine wO_ifn (c := (2 : Int) = 0) (by decide) ?_
    exact main
end
end
end Mine

end
section
set_option maxRecDepth 100000
set_option autoImplicit false
set_option genInjectivity false
set_option genSizeOf false
open PySem PySem.W
namespace Mine
noncomputable section
/-- a shift to the left; a negative count: to the right -/
noncomputable def sh (a c : Int) (m : Nat) : Out := size m (.ok (if 0 ≤ c then a * 2 ^ c.toNat else a.fdiv (2 ^ (-c).toNat)))
theorem pow2_pos (k : Nat) : (0 : Int) < 2 ^ k := Int.pow_pos (by decide)
theorem shift_out {a : Int} {k : Nat} (h : a.natAbs < 2 ^ k) : a.fdiv (2 ^ k) = if a < 0 then -1 else 0 := by
  rw [Int.fdiv_eq_ediv_of_nonneg _ (Int.le_of_lt (pow2_pos k))]
  have hp := pow2_pos k
  have h' : (a.natAbs : Int) < 2 ^ k := by rw [two_pow]; exact Int.ofNat_lt.mpr h
  split
  · rw [Int.ediv_eq_iff_of_pos hp]; omega
  · rw [Int.ediv_eq_zero_of_lt (by first | exact Nat.lt_of_lt_of_le hs (by decide) | assumption | decide | omega) (by first | exact Nat.lt_of_lt_of_le hs (by decide) | assumption | decide | omega)]
theorem mul_big {a : Int} {c m : Nat} (h0 : a ≠ 0) (h : m + 1 ≤ bits a + c) (hp : 0 < bits a) : 2 ^ m ≤ (a * 2 ^ c).natAbs := by
  rw [Int.natAbs_mul, Int.natAbs_pow]
  refine Nat.le_trans (Nat.pow_le_pow_right (by decide) (show m ≤ (bits a - 1) + c by omega)) ?_
  rw [Nat.pow_add]
  exact Nat.mul_le_mul_right _ (bits_ge h0)
theorem bits_pos {a : Int} (h : a ≠ 0) : 0 < bits a := by
  have := mt (@bits_iff a 0).mp (by rw [Nat.pow_zero]; omega)
  omega
theorem bits_pow (k : Nat) : bits ((2 : Int) ^ k) ≤ k + 1 := by
  rw [bits_iff, Int.natAbs_pow]
  exact Nat.pow_lt_pow_right (by decide) (Nat.lt_succ_self k)
section
variable {n : Nat} {l : List Dat} {h : Hd} {S : Sy} {ext : List Cell} {Λ : Hp} {Q : V → Hp → Prop} {X : Dat → Prop} {a c M : Int}
theorem p_shl0 (hs : S.sz < 800000) (ha : Bd a) (hc : 0 ≤ c) (hM : M ≤ 200) (h0 : 0 ≤ M) (q : ∀ o, size M.toNat o = sh a c M.toNat → oc o (fun z => Q (vi z) (sto l h S ext)) (fun e => X (ballD (formD S e)))) : (evCall tbl (n + 5) 26 [.ref 2, vi a, vi c, vi M] (sto l h S ext)).p Q X := by
  refine call_p (F := f_shift_left) rfl rfl ?_
  unfold sh at q
  rw [if_pos hc] at q
  refine sel_f (b := decide (c < 0)) (decide_eq_false (by first | exact Nat.lt_of_lt_of_le hs (by decide) | assumption | decide | omega)) ?_
  refine sel_of (b := decide (a = 0)) (fun e => ?_) (fun e => ?_)
  · rw [of_decide_eq_true e, Int.zero_mul] at q
    exact q (.ok 0) rfl
  · have a0 := of_decide_eq_false e
    have hp := bits_pos a0
    refine sel_of (b := decide (M < (bits a : Int) + c)) (fun e => ?_) (fun e => ?_)
    · have e := of_decide_eq_true e
      rw [size_big (mul_big a0 (m := M.toNat) (by first | exact Nat.lt_of_lt_of_le hs (by decide) | assumption | decide | omega) hp)] at q
      exact p_reserr (n := n) (S := S) (ext := []) (by first | exact Nat.lt_of_lt_of_le hs (by decide) | assumption | decide | omega) (q (.error resEr) rfl)
    · have e := of_decide_eq_false e
      refine wO_if (c := 0 ≤ c ∧ (bits a : Int) + c ≤ 2 ^ 27) ⟨hc, by omega⟩ ?_
      exact q (.ok (a * 2 ^ c.toNat)) rfl
theorem p_shr0 (hc : 0 ≤ c) (q : ∀ o, size M.toNat o = sh a (-c) M.toNat → oc o (fun z => Q (vi z) (sto l h S ext)) (fun e => X (ballD (formD S e)))) : (evCall tbl (n + 1) 27 [.ref 2, vi a, vi c, vi M] (sto l h S ext)).p Q X := by
  refine call_p (F := f_shift_right) rfl rfl ?_
  have hsh : sh a (-c) M.toNat = size M.toNat (.ok (a.fdiv (2 ^ c.toNat))) := by
    unfold sh
    split
    · rw [show c = 0 by omega]
      show size M.toNat (.ok (a * 1)) = size M.toNat (.ok (a.fdiv 1))
      rw [Int.mul_one, Int.fdiv_one]
    · rw [Int.neg_neg]
  rw [hsh] at q
  refine sel_f (b := decide (c < 0)) (decide_eq_false (by first | exact Nat.lt_of_lt_of_le hs (by decide) | assumption | decide | omega)) ?_
  refine sel_of (b := decide ((bits a : Int) ≤ c)) (fun e => ?_) (fun e => ?_)
  · have e := of_decide_eq_true e
    rw [shift_out (k := c.toNat) (bits_iff.mp (by first | exact Nat.lt_of_lt_of_le hs (by decide) | assumption | decide | omega))] at q
    refine sel_of (b := decide (a < 0)) (fun e => ?_) (fun e => ?_)
    · rw [if_pos (of_decide_eq_true e)] at q; exact q (.ok (-1)) rfl
    · rw [if_neg (of_decide_eq_false e)] at q; exact q (.ok 0) rfl
  · refine wO_if (c := 0 ≤ c) hc ?_
    exact q (.ok (a.fdiv (2 ^ c.toNat))) rfl
theorem p_shl (hs : S.sz < 800000) (ha : Bd a) (hM : M ≤ 200) (h0 : 0 ≤ M) (q : ∀ o, size M.toNat o = sh a c M.toNat → oc o (fun z => Q (vi z) (sto l h S ext)) (fun e => X (ballD (formD S e)))) : (evCall tbl (n + 5) 26 [.ref 2, vi a, vi c, vi M] (sto l h S ext)).p Q X := by
  by_cases hc : 0 ≤ c
  · exact p_shl0 (n := n) hs ha hc hM h0 q
  · refine call_p (F := f_shift_left) rfl rfl ?_
    refine sel_t (b := decide (c < 0)) (decide_eq_true (by first | exact Nat.lt_of_lt_of_le hs (by decide) | assumption | decide | omega)) ?_
    refine p_shr0 (n := n + 3) (S := S) (ext := []) (a := a) (c := -c) (M := M) (by first | exact Nat.lt_of_lt_of_le hs (by decide) | assumption | decide | omega) ?_
    rw [Int.neg_neg]
    exact q
theorem p_shr (hs : S.sz < 800000) (ha : Bd a) (hM : M ≤ 200) (h0 : 0 ≤ M) (q : ∀ o, size M.toNat o = sh a (-c) M.toNat → oc o (fun z => Q (vi z) (sto l h S ext)) (fun e => X (ballD (formD S e)))) : (evCall tbl (n + 6) 27 [.ref 2, vi a, vi c, vi M] (sto l h S ext)).p Q X := by
  by_cases hc : 0 ≤ c
  · exact p_shr0 (n := n + 5) hc q
  · refine call_p (F := f_shift_right) rfl rfl ?_
    refine sel_t (b := decide (c < 0)) (decide_eq_true (by first | exact Nat.lt_of_lt_of_le hs (by decide) | assumption | decide | omega)) ?_
    exact p_shl0 (n := n) (S := S) (ext := []) (a := a) (c := -c) (M := M) hs ha (by first | exact Nat.lt_of_lt_of_le hs (by decide) | assumption | decide | omega) hM h0 q
theorem p_lshift (ha : Bd a) (hM : M ≤ 200) (h0 : 0 ≤ M) (q : ∀ z, size M.toNat (.ok z) = sh a c M.toNat → Q (vi z) Λ) : (evCall tbl (n + 1) 40 [vi a, vi c, vi M] Λ).p Q X := by
  refine call_p (F := f_law_shift) rfl rfl ?_
  unfold sh at q
  refine sel_of (b := decide (0 ≤ c)) (fun e => ?_) (fun e => ?_)
  · have hc := of_decide_eq_true e
    rw [if_pos hc] at q
    refine sel_of (b := decide (a = 0)) (fun e => ?_) (fun e => ?_)
    · rw [of_decide_eq_true e, Int.zero_mul] at q
      exact q 0 rfl
    · have a0 := of_decide_eq_false e
      refine sel_of (b := decide (c ≤ M)) (fun e => ?_) (fun e => ?_)
      · have e := of_decide_eq_true e
        refine wO_if (c := 0 ≤ c ∧ (bits 2 : Int) * c ≤ 2 ^ 27) (pow_ok hc (by first | exact Nat.lt_of_lt_of_le hs (by decide) | assumption | decide | omega)) ?_
        refine wO_if (c := mulOk a (2 ^ c.toNat) = true) (mul_ok (bd_1000 ha) (Nat.le_trans (bits_pow _) (by first | exact Nat.lt_of_lt_of_le hs (by decide) | assumption | decide | omega))) ?_
        exact q _ rfl
      · have e := of_decide_eq_false e
        have hp := bits_pos a0
        refine wO_if (c := 0 ≤ M + 1 ∧ (bits 2 : Int) * (M + 1) ≤ 2 ^ 27) (pow_ok (by first | exact Nat.lt_of_lt_of_le hs (by decide) | assumption | decide | omega) (by first | exact Nat.lt_of_lt_of_le hs (by decide) | assumption | decide | omega)) ?_
        refine q _ ?_
        rw [size_big (mul_big a0 (m := M.toNat) (by first | exact Nat.lt_of_lt_of_le hs (by decide) | assumption | decide | omega) hp)]
        refine size_big ?_
        rw [Int.natAbs_pow]
        exact Nat.pow_le_pow_right (by decide) (by first | exact Nat.lt_of_lt_of_le hs (by decide) | assumption | decide | omega)
  · have hc := of_decide_eq_false e
    rw [if_neg hc] at q
    refine sel_of (b := decide (c < -400)) (fun e => ?_) (fun e => ?_)
    · have e := of_decide_eq_true e
      rw [shift_out (Nat.lt_of_lt_of_le ha (Nat.pow_le_pow_right (by decide) (by first | exact Nat.lt_of_lt_of_le hs (by decide) | assumption | decide | omega)))] at q
      refine sel_of (b := decide (a < 0)) (fun e => ?_) (fun e => ?_)
      · rw [if_pos (of_decide_eq_true e)] at q; exact q (-1) rfl
      · rw [if_neg (of_decide_eq_false e)] at q; exact q 0 rfl
    · have e := of_decide_eq_false e
      refine wO_if (c := 0 ≤ -c ∧ (bits 2 : Int) * (-c) ≤ 2 ^ 27) (pow_ok (by first | exact Nat.lt_of_lt_of_le hs (by decide) | assumption | decide | omega) (by first | exact Nat.lt_of_lt_of_le hs (by decide) | assumption | decide | omega)) ?_
      refine wO_ifn (c := (2 : Int) ^ (-c).toNat = 0) (Int.ne_of_gt (pow2_pos _)) ?_
      exact q _ rfl
end
end
end Mine

end
section
set_option maxRecDepth 100000
set_option autoImplicit false
set_option genInjectivity false
set_option genSizeOf false
open PySem PySem.W
namespace Mine
noncomputable section
section
variable {n : Nat} {Λ : Hp} {Q : V → Hp → Prop} {X : Dat → Prop} {a b : Int}
noncomputable def In2 (k : Nat) (x : Int) : Prop := -(2 : Int) ^ k ≤ x ∧ x < 2 ^ k
theorem in2_half {k : Nat} {x : Int} (h : In2 (k + 1) x) : In2 k (x.fdiv 2) := by
  unfold In2 at *
  rw [Int.pow_succ] at h
  rw [Int.fdiv_eq_ediv_of_nonneg _ (by decide)]
  omega
noncomputable def BitI (a b : Int) (k : Nat) (ρ : Env) (Λ : Hp) : Prop := Λ = [] ∧ k ≤ 128 ∧ ∃ x y t : Int, ρ = [vi x, vi y, vi t, vi (2 ^ (128 - k))] ∧ In2 k x ∧ In2 k y ∧ Builtin.bitAnd a b = t + 2 ^ (128 - k) * Builtin.bitAnd x y
theorem nc_y {x : Int} (h : (true != ([0, -1] : List Int).contains x) = false) : x = 0 ∨ x = -1 := by
  have : ([0, -1] : List Int).contains x = true := by revert h; cases ([0, -1] : List Int).contains x <;> decide
  simpa using this
theorem nc_n {x : Int} (h : (true != ([0, -1] : List Int).contains x) = true) : ¬ (x = 0 ∨ x = -1) := by
  rintro (rfl | rfl) <;> exact absurd h (by decide)
/-- one turn -/
theorem bit_turn {a b x y t w : Int} (h : Builtin.bitAnd a b = t + w * Builtin.bitAnd x y) : Builtin.bitAnd a b = (if x.fmod 2 = 1 ∧ y.fmod 2 = 1 then t + w else t) + w * 2 * Builtin.bitAnd (x.fdiv 2) (y.fdiv 2) := by
  rw [h, kbt_halves x y, Int.fmod_eq_emod_of_nonneg _ (by decide), Int.fmod_eq_emod_of_nonneg _ (by decide), Int.fdiv_eq_ediv_of_nonneg _ (by decide), Int.fdiv_eq_ediv_of_nonneg _ (by decide), Int.mul_add, Int.mul_assoc w 2]
  split <;> omega
theorem in2_zero {k : Nat} {x : Int} (h : In2 k x) (hx : ¬ (x = 0 ∨ x = -1)) : ∃ j, k = j + 1 := by
  cases k with
  | zero => unfold In2 at h; rw [Int.pow_zero] at h; omega
  | succ j => exact ⟨j, rfl⟩
theorem w_next {k : Nat} (h : k + 1 ≤ 128) : (2 : Int) ^ (128 - (k + 1)) * 2 = 2 ^ (128 - k) := by
  rw [← Int.pow_succ]; congr 1; omega
theorem in2_of {x : Int} (h : Bd x) : In2 128 x := by unfold Bd at h; unfold In2; omega
theorem p_lbits (ha : Bd a) (hb : Bd b) (q : Q (vi (Builtin.bitAnd a b)) Λ) : (evCall tbl (n + 1) 39 [vi a, vi b] Λ).p Q X := by
  refine call_p (F := f_law_bits) rfl rfl ?_
  refine ⟨BitI a b, 128, (by decide), ⟨rfl, Nat.le_refl _, a, b, 0, rfl, in2_of ha, in2_of hb, by rw [Nat.sub_self, Int.pow_zero]; omega⟩, ?_⟩
  rintro k _ _ ⟨rfl, hk, x, y, t, rfl, hx, hy, he⟩
  have turn : ∀ {R : V → Hp → Prop}, (¬ (x = 0 ∨ x = -1) ∨ ¬ (y = 0 ∨ y = -1)) → wSs tbl (evCall tbl n) R X
      (.cons (.ite (.and (.cmp .eq (.bin .mod (.var 0) (.int 2)) (.int 1)) (.cmp .eq (.bin .mod (.var 1) (.int 2)) (.int 1))) (.cons (.augAdd 2 (.var 3)) .nil) .nil)
      (.cons (.assign 0 (.bin .fdiv (.var 0) (.int 2))) (.cons (.assign 1 (.bin .fdiv (.var 1) (.int 2))) (.cons (.assign 3 (.bin .mul (.var 3) (.int 2))) .nil))))
      [vi x, vi y, vi t, vi (2 ^ (128 - k))] [] fun ρ Λ => ∃ j, j < k ∧ BitI a b j ρ Λ := by
    intro R hne
    obtain ⟨j, rfl⟩ : ∃ j, k = j + 1 := hne.elim (in2_zero hx) (in2_zero hy)
    have he := bit_turn he
    rw [w_next hk] at he
    have fin : ∀ z : Int, Builtin.bitAnd a b = z + 2 ^ (128 - j) * Builtin.bitAnd (x.fdiv 2) (y.fdiv 2) → ∃ i, i < j + 1 ∧ BitI a b i [vi (x.fdiv 2), vi (y.fdiv 2), vi z, vi (2 ^ (128 - (j + 1)) * 2)] [] := fun z hz =>
      ⟨j, Nat.lt_succ_self j, rfl, by omega, x.fdiv 2, y.fdiv 2, z, by rw [w_next hk], in2_half hx, in2_half hy, hz⟩
    have hw : mulOk (2 ^ (128 - (j + 1))) 2 = true := mul_ok (Nat.le_trans (bits_pow _) (by first | exact Nat.lt_of_lt_of_le hs (by decide) | assumption | decide | omega)) (by decide +kernel)
    refine sel_of (b := decide (x.fmod 2 = 1)) (fun e => ?_) (fun e => ?_)
    · refine sel_of (b := decide (y.fmod 2 = 1)) (fun e' => ?_) (fun e' => ?_)
      · rw [if_pos ⟨of_decide_eq_true e, of_decide_eq_true e'⟩] at he
        refine wO_if (c := mulOk (2 ^ (128 - (j + 1))) 2 = true) hw ?_
        exact fin _ he
      · rw [if_neg fun z => of_decide_eq_false e' z.2] at he
        refine wO_if (c := mulOk (2 ^ (128 - (j + 1))) 2 = true) hw ?_
        exact fin _ he
    · refine sel_f (b := decide (x.fmod 2 = 1)) e ?_
      rw [if_neg fun z => of_decide_eq_false e z.1] at he
      refine wO_if (c := mulOk (2 ^ (128 - (j + 1))) 2 = true) hw ?_
      exact fin _ he
  refine sel_of (b := (true != ([0, -1] : List Int).contains x)) (fun e => ?_) (fun e => ?_)
  · refine sel_t (b := (true != ([0, -1] : List Int).contains x)) e ?_
    exact turn (.inl (nc_n e))
  · refine sel_of (b := (true != ([0, -1] : List Int).contains y)) (fun e' => ?_) (fun e' => ?_)
    · exact turn (.inr (nc_n e'))
    · have hx2 := nc_y e
      have hy2 := nc_y e'
      rcases hx2 with rfl | rfl
      · rw [show Builtin.bitAnd 0 y = 0 by rw [PyProof.Rows.bitAnd_comm]; exact PyProof.Rows.bitAnd_zero y, Int.mul_zero, Int.add_zero] at he
        rw [he] at q
        exact q
      · rcases hy2 with rfl | rfl
        · rw [PyProof.Rows.bitAnd_zero, Int.mul_zero, Int.add_zero] at he
          rw [he] at q
          exact q
        · rw [show Builtin.bitAnd (-1) (-1) = -1 from by decide +kernel, Int.mul_neg_one, ← Int.sub_eq_add_neg] at he
          rw [he] at q
          exact q
end
end
end Mine

end
section
set_option maxRecDepth 100000
set_option autoImplicit false
set_option genInjectivity false
set_option genSizeOf false
open PySem PySem.W
namespace Mine
noncomputable section
noncomputable abbrev divL : List Str := [Str.ofString "//", Str.ofString "rem", Str.ofString "mod", Str.ofString "div"]
noncomputable def dv (t : Str) (a b : Int) (m : Nat) : Out := if b = 0 then .error zeroEr else size m (.ok (if t = "//" then a.tdiv b else if t = "rem" then a - b * a.tdiv b else if t = "mod" then a.fmod b else a.fdiv b))
noncomputable def bt (t : Str) (a b : Int) (m : Nat) : Out :=
  if t = ">>" then sh a (-b) m else if t = "<<" then sh a b m else if t = "/\\" then size m (.ok (Builtin.bitAnd a b)) else if t = "\\/" then size m (.ok (Builtin.bitOr a b)) else size m (.ok (Builtin.bitXor a b))
/-- two operands, the result no longer than the limit -/
noncomputable def bs (t : Str) (a b : Int) (m : Nat) : Out :=
  if t = "+" then size m (.ok (a + b)) else if t = "plus" then size m (.ok (a + b)) else if t = "-" then size m (.ok (a - b)) else if t = "*" then size m (.ok (a * b))
  else if divL.contains t = true then dv t a b m
  else if t = "^" then pw a b m else if t = "**" then pw a b m
  else if t = "min" then size m (.ok (min a b)) else if t = "max" then size m (.ok (max a b)) else if t = "gcd" then size m (.ok (Int.gcd a b : Nat)) else bt t a b m
section
variable {n : Nat} {l : List Dat} {h : Hd} {S : Sy} {ext : List Cell} {Λ : Hp} {Q : V → Hp → Prop} {X : Dat → Prop} {t : Str} {a b M : Int}
theorem p_adiv (hs : S.sz < 800000) (ha : Bd a) (hb : Bd b) (q : ∀ o, size M.toNat o = dv t a b M.toNat → oc o (fun z => Q (vi z) (sto l h S ext)) (fun e => X (ballD (formD S e)))) : (evCall tbl (n + 5) 30 [.ref 2, .dat (.str t), vi a, vi b] (sto l h S ext)).p Q X := by
  refine call_p (F := f_apply_division) rfl rfl ?_
  unfold dv at q
  refine sel_of (b := decide (b = 0)) (fun e => ?_) (fun e => ?_)
  · rw [if_pos (of_decide_eq_true e)] at q
    exact p_everr (n := n) (S := S) (ext := []) (by first | exact Nat.lt_of_lt_of_le hs (by decide) | assumption | decide | omega) (q (.error zeroEr) rfl)
  have b0 := of_decide_eq_false e
  rw [if_neg b0] at q
  refine sel_of (b := decide (t = "//")) (fun e => ?_) (fun e => ?_)
  · rw [if_pos (of_decide_eq_true e)] at q
    exact p_tdiv (n := n + 3) b0 (q (.ok _) rfl)
  rw [if_neg (of_decide_eq_false e)] at q
  refine sel_of (b := decide (t = "rem")) (fun e => ?_) (fun e => ?_)
  · rw [if_pos (of_decide_eq_true e)] at q
    exact p_rem (n := n + 2) b0 ha hb (q (.ok _) rfl)
  rw [if_neg (of_decide_eq_false e)] at q
  refine sel_of (b := decide (t = "mod")) (fun e => ?_) (fun e => ?_)
  · rw [if_pos (of_decide_eq_true e)] at q
    refine wO_ifn (c := b = 0) b0 ?_
    exact q (.ok _) rfl
  rw [if_neg (of_decide_eq_false e)] at q
  refine wO_ifn (c := b = 0) b0 ?_
  exact q (.ok _) rfl
theorem p_abits (hs : S.sz < 800000) (ha : Bd a) (hM : M ≤ 200) (h0 : 0 ≤ M) (q : ∀ o, size M.toNat o = bt t a b M.toNat → oc o (fun z => Q (vi z) (sto l h S ext)) (fun e => X (ballD (formD S e)))) : (evCall tbl (n + 7) 31 [.ref 2, .dat (.str t), vi a, vi b, vi M] (sto l h S ext)).p Q X := by
  refine call_p (F := f_apply_bits) rfl rfl ?_
  unfold bt at q
  refine sel_of (b := decide (t = ">>")) (fun e => ?_) (fun e => ?_)
  · rw [if_pos (of_decide_eq_true e)] at q
    exact p_shr (n := n) (S := S) (ext := []) hs ha hM h0 q
  rw [if_neg (of_decide_eq_false e)] at q
  refine sel_of (b := decide (t = "<<")) (fun e => ?_) (fun e => ?_)
  · rw [if_pos (of_decide_eq_true e)] at q
    exact p_shl (n := n + 1) (S := S) (ext := []) hs ha hM h0 q
  rw [if_neg (of_decide_eq_false e)] at q
  refine sel_of (b := decide (t = "/\\")) (fun e => ?_) (fun e => ?_)
  · rw [if_pos (of_decide_eq_true e)] at q; exact q (.ok _) rfl
  rw [if_neg (of_decide_eq_false e)] at q
  refine sel_of (b := decide (t = "\\/")) (fun e => ?_) (fun e => ?_)
  · rw [if_pos (of_decide_eq_true e)] at q; exact q (.ok _) rfl
  rw [if_neg (of_decide_eq_false e)] at q
  exact q (.ok _) rfl
theorem not_ff {c : Bool} (h : (false != c) = true) : c = true := by cases c; cases h; rfl
theorem not_ft {c : Bool} (h : (false != c) = false) : ¬ c = true := by cases c; exact Bool.false_ne_true; cases h
theorem p_abin (hs : S.sz < 800000) (ha : Bd a) (hb : Bd b) (hM : M ≤ 200) (h0 : 0 ≤ M) (q : ∀ o, size M.toNat o = bs t a b M.toNat → oc o (fun z => Q (vi z) (sto l h S ext)) (fun e => X (ballD (formD S e)))) : (evCall tbl (n + 8) 32 [.ref 2, .dat (.str t), vi a, vi b, vi M] (sto l h S ext)).p Q X := by
  refine call_p (F := f_apply_binary) rfl rfl ?_
  unfold bs at q
  refine sel_of (b := decide (t = "+")) (fun e => ?_) (fun e => ?_)
  · refine sel_t (b := decide (t = "+")) e ?_
    rw [if_pos (of_decide_eq_true e)] at q; exact q (.ok _) rfl
  rw [if_neg (of_decide_eq_false e)] at q
  refine sel_of (b := decide (t = "plus")) (fun e => ?_) (fun e => ?_)
  · rw [if_pos (of_decide_eq_true e)] at q; exact q (.ok _) rfl
  rw [if_neg (of_decide_eq_false e)] at q
  refine sel_of (b := decide (t = "-")) (fun e => ?_) (fun e => ?_)
  · rw [if_pos (of_decide_eq_true e)] at q; exact q (.ok _) rfl
  rw [if_neg (of_decide_eq_false e)] at q
  refine sel_of (b := decide (t = "*")) (fun e => ?_) (fun e => ?_)
  · rw [if_pos (of_decide_eq_true e)] at q
    refine wO_if (c := mulOk a b = true) (mul_ok (bd_1000 ha) (bd_1000 hb)) ?_
    exact q (.ok _) rfl
  rw [if_neg (of_decide_eq_false e)] at q
  refine sel_of (b := (false != divL.contains t)) (fun e => ?_) (fun e => ?_)
  · rw [if_pos (not_ff e)] at q
    exact p_adiv (n := n + 2) (S := S) (ext := []) (M := M) hs ha hb q
  rw [if_neg (not_ft e)] at q
  refine sel_of (b := decide (t = "^")) (fun e => ?_) (fun e => ?_)
  · refine sel_t (b := decide (t = "^")) e ?_
    rw [if_pos (of_decide_eq_true e)] at q
    exact p_power (n := n + 2) (S := S) (ext := []) hs ha hb hM q
  rw [if_neg (of_decide_eq_false e)] at q
  refine sel_of (b := decide (t = "**")) (fun e => ?_) (fun e => ?_)
  · rw [if_pos (of_decide_eq_true e)] at q
    exact p_power (n := n + 2) (S := S) (ext := []) hs ha hb hM q
  rw [if_neg (of_decide_eq_false e)] at q
  refine sel_of (b := decide (t = "min")) (fun e => ?_) (fun e => ?_)
  · rw [if_pos (of_decide_eq_true e)] at q
    refine sel_of (b := decide (b < a)) (fun e => ?_) (fun e => ?_)
    · rw [Int.min_eq_right (Int.le_of_lt (of_decide_eq_true e))] at q; exact q (.ok _) rfl
    · rw [Int.min_eq_left (Int.not_lt.mp (of_decide_eq_false e))] at q; exact q (.ok _) rfl
  rw [if_neg (of_decide_eq_false e)] at q
  refine sel_of (b := decide (t = "max")) (fun e => ?_) (fun e => ?_)
  · rw [if_pos (of_decide_eq_true e)] at q
    refine sel_of (b := decide (a < b)) (fun e => ?_) (fun e => ?_)
    · rw [Int.max_eq_right (Int.le_of_lt (of_decide_eq_true e))] at q; exact q (.ok _) rfl
    · rw [Int.max_eq_left (Int.not_lt.mp (of_decide_eq_false e))] at q; exact q (.ok _) rfl
  rw [if_neg (of_decide_eq_false e)] at q
  refine sel_of (b := decide (t = "gcd")) (fun e => ?_) (fun e => ?_)
  · rw [if_pos (of_decide_eq_true e)] at q
    exact p_gcd (n := n + 6) ha hb (q (.ok _) rfl)
  rw [if_neg (of_decide_eq_false e)] at q
  exact p_abits (n := n) (S := S) (ext := []) hs ha hM h0 q
end
end
end Mine

end
section
set_option maxRecDepth 100000
set_option autoImplicit false
set_option genInjectivity false
set_option genSizeOf false
open PySem PySem.W
namespace Mine
noncomputable section
section
variable {a b : Int} {m : Nat}
theorem bs_add : bs (Str.ofString "+") a b m = size m (.ok (a + b)) := by unfold bs; rw [if_pos rfl]
theorem bs_plus : bs (Str.ofString "plus") a b m = size m (.ok (a + b)) := by unfold bs; rw [if_neg (by decide +kernel), if_pos rfl]
theorem bs_sub : bs (Str.ofString "-") a b m = size m (.ok (a - b)) := by unfold bs; rw [if_neg (by decide +kernel), if_neg (by decide +kernel), if_pos rfl]
theorem bs_mul : bs (Str.ofString "*") a b m = size m (.ok (a * b)) := by unfold bs; rw [if_neg (by decide +kernel), if_neg (by decide +kernel), if_neg (by decide +kernel), if_pos rfl]
theorem bs_quo : bs (Str.ofString "//") a b m = dv (Str.ofString "//") a b m := by unfold bs; rw [if_neg (by decide +kernel), if_neg (by decide +kernel), if_neg (by decide +kernel), if_neg (by decide +kernel), if_pos (by decide +kernel)]
theorem bs_rem : bs (Str.ofString "rem") a b m = dv (Str.ofString "rem") a b m := by unfold bs; rw [if_neg (by decide +kernel), if_neg (by decide +kernel), if_neg (by decide +kernel), if_neg (by decide +kernel), if_pos (by decide +kernel)]
theorem bs_mod : bs (Str.ofString "mod") a b m = dv (Str.ofString "mod") a b m := by unfold bs; rw [if_neg (by decide +kernel), if_neg (by decide +kernel), if_neg (by decide +kernel), if_neg (by decide +kernel), if_pos (by decide +kernel)]
theorem bs_div : bs (Str.ofString "div") a b m = dv (Str.ofString "div") a b m := by unfold bs; rw [if_neg (by decide +kernel), if_neg (by decide +kernel), if_neg (by decide +kernel), if_neg (by decide +kernel), if_pos (by decide +kernel)]
theorem bs_pow : bs (Str.ofString "^") a b m = pw a b m := by unfold bs; rw [if_neg (by decide +kernel), if_neg (by decide +kernel), if_neg (by decide +kernel), if_neg (by decide +kernel), if_neg (by decide +kernel), if_pos rfl]
theorem bs_pow2 : bs (Str.ofString "**") a b m = pw a b m := by unfold bs; rw [if_neg (by decide +kernel), if_neg (by decide +kernel), if_neg (by decide +kernel), if_neg (by decide +kernel), if_neg (by decide +kernel), if_neg (by decide +kernel), if_pos rfl]
theorem bs_min : bs (Str.ofString "min") a b m = size m (.ok (min a b)) := by unfold bs; rw [if_neg (by decide +kernel), if_neg (by decide +kernel), if_neg (by decide +kernel), if_neg (by decide +kernel), if_neg (by decide +kernel), if_neg (by decide +kernel), if_neg (by decide +kernel), if_pos rfl]
theorem bs_max : bs (Str.ofString "max") a b m = size m (.ok (max a b)) := by unfold bs; rw [if_neg (by decide +kernel), if_neg (by decide +kernel), if_neg (by decide +kernel), if_neg (by decide +kernel), if_neg (by decide +kernel), if_neg (by decide +kernel), if_neg (by decide +kernel), if_neg (by decide +kernel), if_pos rfl]
theorem bs_gcd : bs (Str.ofString "gcd") a b m = size m (.ok (Int.gcd a b : Nat)) := by unfold bs; rw [if_neg (by decide +kernel), if_neg (by decide +kernel), if_neg (by decide +kernel), if_neg (by decide +kernel), if_neg (by decide +kernel), if_neg (by decide +kernel), if_neg (by decide +kernel), if_neg (by decide +kernel), if_neg (by decide +kernel), if_pos rfl]
theorem bs_shr : bs (Str.ofString ">>") a b m = sh a (-b) m := by unfold bs; unfold bt; rw [if_neg (by decide +kernel), if_neg (by decide +kernel), if_neg (by decide +kernel), if_neg (by decide +kernel), if_neg (by decide +kernel), if_neg (by decide +kernel), if_neg (by decide +kernel), if_neg (by decide +kernel), if_neg (by decide +kernel), if_neg (by decide +kernel), if_pos rfl]
theorem bs_shl : bs (Str.ofString "<<") a b m = sh a b m := by unfold bs; unfold bt; rw [if_neg (by decide +kernel), if_neg (by decide +kernel), if_neg (by decide +kernel), if_neg (by decide +kernel), if_neg (by decide +kernel), if_neg (by decide +kernel), if_neg (by decide +kernel), if_neg (by decide +kernel), if_neg (by decide +kernel), if_neg (by decide +kernel), if_neg (by decide +kernel), if_pos rfl]
theorem bs_and : bs (Str.ofString "/\\") a b m = size m (.ok (Builtin.bitAnd a b)) := by unfold bs; unfold bt; rw [if_neg (by decide +kernel), if_neg (by decide +kernel), if_neg (by decide +kernel), if_neg (by decide +kernel), if_neg (by decide +kernel), if_neg (by decide +kernel), if_neg (by decide +kernel), if_neg (by decide +kernel), if_neg (by decide +kernel), if_neg (by decide +kernel), if_neg (by decide +kernel), if_neg (by decide +kernel), if_pos rfl]
theorem bs_or : bs (Str.ofString "\\/") a b m = size m (.ok (Builtin.bitOr a b)) := by unfold bs; unfold bt; rw [if_neg (by decide +kernel), if_neg (by decide +kernel), if_neg (by decide +kernel), if_neg (by decide +kernel), if_neg (by decide +kernel), if_neg (by decide +kernel), if_neg (by decide +kernel), if_neg (by decide +kernel), if_neg (by decide +kernel), if_neg (by decide +kernel), if_neg (by decide +kernel), if_neg (by decide +kernel), if_neg (by decide +kernel), if_pos rfl]
theorem bs_xor : bs (Str.ofString "xor") a b m = size m (.ok (Builtin.bitXor a b)) := by unfold bs; unfold bt; rw [if_neg (by decide +kernel), if_neg (by decide +kernel), if_neg (by decide +kernel), if_neg (by decide +kernel), if_neg (by decide +kernel), if_neg (by decide +kernel), if_neg (by decide +kernel), if_neg (by decide +kernel), if_neg (by decide +kernel), if_neg (by decide +kernel), if_neg (by decide +kernel), if_neg (by decide +kernel), if_neg (by decide +kernel), if_neg (by decide +kernel)]
theorem dv_quo (h : ¬ b = 0) : dv (Str.ofString "//") a b m = size m (.ok (a.tdiv b)) := by unfold dv; rw [if_neg h, if_pos rfl]
theorem dv_rem (h : ¬ b = 0) : dv (Str.ofString "rem") a b m = size m (.ok (a - b * a.tdiv b)) := by unfold dv; rw [if_neg h, if_neg (by decide +kernel), if_pos rfl]
theorem dv_mod (h : ¬ b = 0) : dv (Str.ofString "mod") a b m = size m (.ok (a.fmod b)) := by unfold dv; rw [if_neg h, if_neg (by decide +kernel), if_neg (by decide +kernel), if_pos rfl]
theorem dv_div (h : ¬ b = 0) : dv (Str.ofString "div") a b m = size m (.ok (a.fdiv b)) := by unfold dv; rw [if_neg h, if_neg (by decide +kernel), if_neg (by decide +kernel), if_neg (by decide +kernel)]
theorem down_is (h : b ≠ 0) : (a - a.fmod b).fdiv b = a.fdiv b := by
  have e : a - a.fmod b = b * a.fdiv b := by have := Int.mul_fdiv_add_fmod a b; omega
  rw [e, Int.mul_fdiv_cancel_left _ h]
theorem near_is (h : b ≠ 0) : (if a.fdiv b < 0 ∧ a.fdiv b * b ≠ a then a.fdiv b + 1 else a.fdiv b) = a.tdiv b := by
  rw [Int.tdiv_eq_fdiv]
  by_cases hd : b ∣ a
  · rw [if_pos hd, if_neg fun z => z.2 (by rw [Int.mul_comm]; exact Int.mul_fdiv_cancel' hd), Int.add_zero]
  · have ne : a.fdiv b * b ≠ a := fun z => hd ⟨a.fdiv b, by rw [Int.mul_comm]; exact z.symm⟩
    rw [if_neg hd]
    have e := Int.mul_fdiv_add_fmod a b
    by_cases ha : 0 ≤ a
    · rw [if_pos ha]
      by_cases hb : 0 ≤ b
      · rw [if_pos hb, if_neg fun z => Int.not_lt.mpr (Int.fdiv_nonneg ha hb) z.1, Int.add_zero]
      · have hf : a.fdiv b < 0 := Int.not_le.mp fun z => by
          have h1 : b * a.fdiv b ≤ 0 := Int.mul_nonpos_of_nonpos_of_nonneg (by first | exact Nat.lt_of_lt_of_le hs (by decide) | assumption | decide | omega) z
          have h2 : a.fmod b ≤ 0 := by have := Int.fmod_nonneg_of_pos (-a) (show 0 < -b by omega); rw [Int.neg_fmod_neg] at this; omega
          exact hd (by rw [show a = 0 by omega]; exact Int.dvd_zero b)
        rw [if_neg hb, if_pos ⟨hf, ne⟩]
    · rw [if_neg ha]
      by_cases hb : 0 ≤ b
      · have hf : a.fdiv b < 0 := Int.not_le.mp fun z => by
          have h1 : 0 ≤ b * a.fdiv b := Int.mul_nonneg hb z
          have h2 := Int.fmod_nonneg_of_pos a (show 0 < b by omega)
          omega
        rw [if_pos hb, if_pos ⟨hf, ne⟩, Int.sign_eq_one_of_pos (by first | exact Nat.lt_of_lt_of_le hs (by decide) | assumption | decide | omega)]
      · rw [if_neg hb, if_neg fun z => Int.not_lt.mpr (Int.fdiv_nonneg_of_nonpos_of_nonpos (by first | exact Nat.lt_of_lt_of_le hs (by decide) | assumption | decide | omega) (by first | exact Nat.lt_of_lt_of_le hs (by decide) | assumption | decide | omega)) z.1, Int.sign_eq_neg_one_of_neg (by first | exact Nat.lt_of_lt_of_le hs (by decide) | assumption | decide | omega)]
        omega
noncomputable abbrev powL : List Str := [Str.ofString "^", Str.ofString "**"]
noncomputable abbrev minL : List Str := [Str.ofString "min", Str.ofString "max"]
noncomputable abbrev bitL : List Str := [Str.ofString "/\\", Str.ofString "\\/", Str.ofString "xor"]
noncomputable abbrev addL : List Str := [Str.ofString "+", Str.ofString "plus", Str.ofString "-", Str.ofString "*"]
theorem parts_of {t : Str} (h : t ∈ binaryL) : (addL.contains t || (divL.contains t || (powL.contains t || (minL.contains t || (t == Str.ofString "gcd" || (t == Str.ofString ">>" || (t == Str.ofString "<<" || bitL.contains t))))))) = true :=
  List.all_eq_true.mp (show (binaryL.all fun t => (addL.contains t || (divL.contains t || (powL.contains t || (minL.contains t || (t == Str.ofString "gcd" || (t == Str.ofString ">>" || (t == Str.ofString "<<" || bitL.contains t)))))))) = true from by decide +kernel) t h
end
end
end Mine

end
section
set_option maxRecDepth 100000
set_option autoImplicit false
set_option genInjectivity false
set_option genSizeOf false
open PySem PySem.W
namespace Mine
noncomputable section
theorem wO_ifs {α : Type} {c : Prop} [Decidable c] {a : α} {K : α → Prop} (h : c) (k : K a) : wO (if c then some a else none) K := by rw [if_pos h]; exact k
theorem bd_neg {x : Int} (h : Bd x) : Bd (0 - x) := by unfold Bd at *; rw [Int.zero_sub, Int.natAbs_neg]; exact h
theorem bits_le_of {x y : Int} (h : x.natAbs ≤ y.natAbs + 1) (hy : Bd y) : bits x ≤ 1000 := by
  unfold Bd at hy
  exact Nat.le_trans (bits_iff (m := 129).mpr (by first | exact Nat.lt_of_lt_of_le hs (by decide) | assumption | decide | omega)) (by decide)
theorem pick_div {t : Str} {a b : Int} (b0 : ¬ b = 0) (td : t ∈ divL) (m : Nat) : ∃ r, vPickd divL [vi (a.tdiv b), vi (a - a.tdiv b * b), vi (a - a.fdiv b * b), vi (a.fdiv b)] (.dat (.str t)) = some (vi r) ∧ size m (.ok r) = bs t a b m := by
  rcases List.mem_cons.mp td with rfl | td
  · exact ⟨a.tdiv b, by kernel_rfl, by rw [bs_quo, dv_quo b0]⟩
  rcases List.mem_cons.mp td with rfl | td
  · exact ⟨a - a.tdiv b * b, by kernel_rfl, by rw [bs_rem, dv_rem b0, Int.mul_comm]⟩
  rcases List.mem_cons.mp td with rfl | td
  · exact ⟨a - a.fdiv b * b, by kernel_rfl, by rw [bs_mod, dv_mod b0, Int.fmod_def, Int.mul_comm]⟩
  rw [List.mem_singleton.mp td]
  exact ⟨a.fdiv b, by kernel_rfl, by rw [bs_div, dv_div b0]⟩
theorem pick_bit {t : Str} {a b z : Int} (hz : z = Builtin.bitAnd a b) (td : t ∈ bitL) (m : Nat) : ∃ r, vPickd bitL [vi z, vi (a + b - z), vi (a + b - 2 * z)] (.dat (.str t)) = some (vi r) ∧ size m (.ok r) = bs t a b m := by
  rcases List.mem_cons.mp td with rfl | td
  · exact ⟨z, by kernel_rfl, by rw [bs_and, hz]⟩
  rcases List.mem_cons.mp td with rfl | td
  · exact ⟨a + b - z, by kernel_rfl, by rw [bs_or, hz, PyProof.Rows.bitOr_and]⟩
  rw [List.mem_singleton.mp td]
  exact ⟨a + b - 2 * z, by kernel_rfl, by rw [bs_xor, hz, PyProof.Rows.bitXor_and]⟩
theorem pick_add {t : Str} {a b : Int} (td : t ∈ addL) (m : Nat) : ∃ r, vPickd addL [vi (a + b), vi (a + b), vi (a - b), vi (a * b)] (.dat (.str t)) = some (vi r) ∧ size m (.ok r) = bs t a b m := by
  rcases List.mem_cons.mp td with rfl | td
  · exact ⟨a + b, by kernel_rfl, by rw [bs_add]⟩
  rcases List.mem_cons.mp td with rfl | td
  · exact ⟨a + b, by kernel_rfl, by rw [bs_plus]⟩
  rcases List.mem_cons.mp td with rfl | td
  · exact ⟨a - b, by kernel_rfl, by rw [bs_sub]⟩
  rw [List.mem_singleton.mp td]
  exact ⟨a * b, by kernel_rfl, by rw [bs_mul]⟩
theorem pow_is {t : Str} {a b : Int} {m : Nat} (h : t ∈ powL) : bs t a b m = pw a b m := by
  rcases List.mem_cons.mp h with rfl | h
  · exact bs_pow
  rw [List.mem_singleton.mp h]; exact bs_pow2
theorem nc1_y {x : Int} (h : (true != ([1, -1] : List Int).contains x) = false) : ¬ (x ≠ 1 ∧ x ≠ -1) := by
  have : ([1, -1] : List Int).contains x = true := by revert h; cases ([1, -1] : List Int).contains x <;> decide
  have : x = 1 ∨ x = -1 := by simpa using this
  omega
theorem nc1_n {x : Int} (h : (true != ([1, -1] : List Int).contains x) = true) : x ≠ 1 ∧ x ≠ -1 := by
  refine ⟨?_, ?_⟩ <;> rintro rfl <;> exact absurd h (by decide)
theorem fmod2 (b : Int) : 0 ≤ b.fmod 2 ∧ b.fmod 2 < 2 := ⟨Int.fmod_nonneg_of_pos b (by decide), Int.fmod_lt_of_pos b (by decide)⟩
theorem abs_tdiv (a b : Int) : (a.tdiv b).natAbs ≤ a.natAbs + 1 := by
  rw [Int.natAbs_tdiv]; exact Nat.le_trans (Nat.div_le_self _ _) (Nat.le_succ _)
theorem abs_fdiv {a b : Int} (h : b ≠ 0) : (a.fdiv b).natAbs ≤ a.natAbs + 1 := by
  have := near_is (a := a) h
  have h2 := abs_tdiv a b
  rw [Int.natAbs_tdiv] at h2
  have h3 : (a.tdiv b).natAbs ≤ a.natAbs := by rw [Int.natAbs_tdiv]; exact Nat.div_le_self _ _
  rw [← this] at h3
  split at h3 <;> omega
section
variable {n : Nat} {l : List Dat} {h : Hd} {S : Sy} {ext : List Cell} {Λ : Hp} {Q : V → Hp → Prop} {X : Dat → Prop} {t : Str} {a b M : Int}
theorem p_two (ht : t ∈ binaryL) (hs : S.sz < 800000) (ha : Bd a) (hb : Bd b) (hM : M ≤ 200) (h0 : 1 ≤ M) (q : ∀ o, size M.toNat o = bs t a b M.toNat → Q (.dat (resD S o)) (sto l h (resS S o) ext)) : (evCall tbl (n + 5) 44 [.ref 2, .dat (.str t), vi a, vi b, vi M] (sto l h S ext)).p Q X := by
  have parts := parts_of ht
  refine call_p (F := f_law_two) rfl rfl ?_
  refine sel_of (b := (false != divL.contains t)) (fun e => ?_) (fun e => ?_)
  · have td : t ∈ divL := by simpa using not_ff e
    refine sel_of (b := decide (b = 0)) (fun e => ?_) (fun e => ?_)
    · have b0 := of_decide_eq_true e
      refine p_atom (n := n + 3) (S := S) (ext := []) (sz_ts (m := 1000000) (by first | exact Nat.lt_of_lt_of_le hs (by decide) | assumption | decide | omega)) ?_
      refine p_lerr71 (n := n + 1) (S := addA S "zero_divisor") (by have := szA S "zero_divisor"; omega) (by kernel_rfl) ?_
      refine q (.error zeroEr) ?_
      have dv0 : ∀ u, dv u a b M.toNat = .error zeroEr := fun u => if_pos b0
      rcases List.mem_cons.mp td with rfl | td
      · rw [bs_quo, dv0]; rfl
      rcases List.mem_cons.mp td with rfl | td
      · rw [bs_rem, dv0]; rfl
      rcases List.mem_cons.mp td with rfl | td
      · rw [bs_mod, dv0]; rfl
      rw [List.mem_singleton.mp td, bs_div, dv0]; rfl
    · have b0 := of_decide_eq_false e
      have hD := bits_le_of (abs_fdiv (a := a) b0) ha
      have hT := bits_le_of (abs_tdiv a b) ha
      have m1 : mulOk (a.fdiv b) b = true := mul_ok hD (bd_1000 hb)
      have m2 : mulOk (a.tdiv b) b = true := mul_ok hT (bd_1000 hb)
      refine wO_ifn (c := b = 0) b0 ?_
      refine wO_ifn (c := b = 0) b0 ?_
      rw [down_is b0]
      -- the end, near being known
      have fin : wE tbl (evCall tbl (n + 4)) [.ref 2, .dat (.str t), vi a, vi b, vi M, vi (a.fdiv b), vi (a.tdiv b), .bot] (.tuple (.cons (.bool true) (.cons (.pickd divL (.cons (.var 6) (.cons (.bin .sub (.var 2) (.bin .mul (.var 6) (.var 3))) (.cons (.bin .sub (.var 2) (.bin .mul (.var 5) (.var 3))) (.cons (.var 5) .nil)))) (.var 1)) .nil))) (sto l h S [])
          (fun v Λ' => wFin f_law_two 7 (sto l h S ext) Q v Λ') X := by
        refine wO_if (c := mulOk (a.tdiv b) b = true) m2 ?_
        refine wO_ifs (c := mulOk (a.fdiv b) b = true) m1 ?_
        obtain ⟨r, hr1, hr2⟩ := pick_div b0 td M.toNat
        refine wO_eq (o := vPickd divL [vi (a.tdiv b), vi (a - a.tdiv b * b), vi (a - a.fdiv b * b), vi (a.fdiv b)] (.dat (.str t))) hr1 ?_
        exact q (.ok r) hr2
      have nr := near_is (a := a) b0
      refine sel_of (b := decide (a.fdiv b < 0)) (fun e => ?_) (fun e => ?_)
      · refine wO_if (c := mulOk (a.fdiv b) b = true) m1 ?_
        refine sel_of (b := !decide (a.fdiv b * b = a)) (fun e' => ?_) (fun e' => ?_)
        · rw [if_pos ⟨of_decide_eq_true e, by simpa using e'⟩] at nr
          rw [← nr] at fin
          exact fin
        · rw [if_neg fun z => z.2 (by simpa using e')] at nr
          rw [← nr] at fin
          exact fin
      · refine sel_f (b := decide (a.fdiv b < 0)) e ?_
        rw [if_neg fun z => of_decide_eq_false e z.1] at nr
        rw [← nr] at fin
        exact fin
  have e1 := not_ft e
  refine sel_of (b := (false != powL.contains t)) (fun e => ?_) (fun e => ?_)
  · have td : t ∈ powL := by simpa using not_ff e
    rw [pow_is td] at q
    unfold pw at q
    -- the power itself
    have pwr : ∀ e' : Int, e' = (if 0 ≤ b then b else b.fmod 2) → ¬ (b < 0 ∧ a ≠ 1 ∧ a ≠ -1) → (evCall tbl (n + 4) 41 [vi a, vi e', vi M] (sto l h S [])).p (fun v Λ' => wEs tbl (evCall tbl (n + 4)) [.ref 2, .dat (.str t), vi a, vi b, vi M, .bot, .bot, .bot] .nil Λ' (fun vs Λ' => wO (vTuple (.dat (.bool true) :: v :: vs)) fun z => wFin f_law_two 7 (sto l h S ext) Q z Λ') X) X := by
      intro e' he hc
      rw [if_neg hc] at q
      have f2 := fmod2 b
      refine p_lpow (n := n + 3) ha (by rw [he]; split <;> omega) h0 hM fun z hz => ?_
      refine q (.ok z) (hz.trans ?_)
      unfold pe
      rw [he]
      split <;> rfl
    refine sel_of (b := decide (b < 0)) (fun e => ?_) (fun e => ?_)
    · have b0 := of_decide_eq_true e
      refine sel_of (b := (true != ([1, -1] : List Int).contains a)) (fun e => ?_) (fun e => ?_)
      · rw [if_pos ⟨b0, nc1_n e⟩] at q
        refine p_atom (n := n + 3) (S := S) (ext := []) (sz_ts (m := 1000000) (by first | exact Nat.lt_of_lt_of_le hs (by decide) | assumption | decide | omega)) ?_
        refine p_lerr72 (n := n + 1) (S := addA S "float") (by have := szA S "float"; omega) (by kernel_rfl) ?_
        exact q (.error (flEr a)) rfl
      · refine sel_f (b := decide (0 ≤ b)) (decide_eq_false (by first | exact Nat.lt_of_lt_of_le hs (by decide) | assumption | decide | omega)) ?_
        exact pwr (b.fmod 2) (by rw [if_neg (by first | exact Nat.lt_of_lt_of_le hs (by decide) | assumption | decide | omega)]) fun z => nc1_y e z.2
    · have b0 := of_decide_eq_false e
      refine sel_f (b := decide (b < 0)) e ?_
      refine sel_t (b := decide (0 ≤ b)) (decide_eq_true (by first | exact Nat.lt_of_lt_of_le hs (by decide) | assumption | decide | omega)) ?_
      exact pwr b (by rw [if_pos (by first | exact Nat.lt_of_lt_of_le hs (by decide) | assumption | decide | omega)]) fun z => b0 z.1
  have e2 := not_ft e
  refine sel_of (b := (false != minL.contains t)) (fun e => ?_) (fun e => ?_)
  · have td : t ∈ minL := by simpa using not_ff e
    refine sel_of (b := decide (t = "min")) (fun e => ?_) (fun e => ?_)
    · have := of_decide_eq_true e
      subst this
      exact wO_eq (sort_lo a b) (q (.ok _) bs_min.symm)
    · rcases List.mem_cons.mp td with rfl | td
      · exact absurd e (by decide +kernel)
      · rw [List.mem_singleton.mp td] at q
        exact wO_eq (sort_hi a b) (q (.ok _) bs_max.symm)
  have e3 := not_ft e
  refine sel_of (b := decide (t = "gcd")) (fun e => ?_) (fun e => ?_)
  · have := of_decide_eq_true e
    subst this
    refine wO_eq (sort_hi a (0 - a)) ?_
    refine wO_eq (sort_hi b (0 - b)) ?_
    rw [max_neg, max_neg]
    refine p_com (n := n + 3) (Int.natCast_nonneg _) (Int.natCast_nonneg _) (bd_lt ha) (bd_lt hb) ?_
    exact q (.ok _) bs_gcd.symm
  have e4 := of_decide_eq_false e
  refine sel_of (b := decide (t = ">>")) (fun e => ?_) (fun e => ?_)
  · have := of_decide_eq_true e
    subst this
    refine p_lshift (n := n + 3) ha hM (by first | exact Nat.lt_of_lt_of_le hs (by decide) | assumption | decide | omega) fun z hz => ?_
    exact q (.ok z) (by rw [hz, bs_shr, Int.zero_sub])
  have e5 := of_decide_eq_false e
  refine sel_of (b := decide (t = "<<")) (fun e => ?_) (fun e => ?_)
  · have := of_decide_eq_true e
    subst this
    refine p_lshift (n := n + 3) ha hM (by first | exact Nat.lt_of_lt_of_le hs (by decide) | assumption | decide | omega) fun z hz => ?_
    exact q (.ok z) (by rw [hz, bs_shl])
  have e6 := of_decide_eq_false e
  refine sel_of (b := (false != bitL.contains t)) (fun e => ?_) (fun e => ?_)
  · have td : t ∈ bitL := by simpa using not_ff e
    refine p_lbits (n := n + 3) ha hb ?_
    refine wO_if (c := mulOk 2 (Builtin.bitAnd a b) = true) (@decide_eq_true _ (Classical.propDecidable _) (IntMulOk.of_left (by decide +kernel))) ?_
    · obtain ⟨r, hr1, hr2⟩ := pick_bit (a := a) (b := b) rfl td M.toNat
      refine wO_eq (o := vPickd bitL [vi (Builtin.bitAnd a b), vi (a + b - Builtin.bitAnd a b), vi (a + b - 2 * Builtin.bitAnd a b)] (.dat (.str t))) hr1 ?_
      exact q (.ok r) hr2
  have e7 := not_ft e
  have td : t ∈ addL := by
    have p1 := beq_eq_false_iff_ne.mpr e4
    have p2 := beq_eq_false_iff_ne.mpr e5
    have p3 := beq_eq_false_iff_ne.mpr e6
    rw [p1, p2, p3] at parts
    simp only [e1, e2, e3, e7, Bool.or_false, Bool.false_or, Bool.not_eq_true] at parts
    simpa using parts
  refine wO_if (c := mulOk a b = true) (mul_ok (bd_1000 ha) (bd_1000 hb)) ?_
  obtain ⟨r, hr1, hr2⟩ := pick_add (a := a) (b := b) td M.toNat
  refine wO_eq (o := vPickd addL [vi (a + b), vi (a + b), vi (a - b), vi (a * b)] (.dat (.str t))) hr1 ?_
  exact q (.ok r) hr2
end
end
end Mine

end
section
set_option maxRecDepth 100000
set_option autoImplicit false
set_option genInjectivity false
set_option genSizeOf false
open PySem PySem.W
namespace Mine
noncomputable section
/-! trees -/
inductive Tr where
  | v (k : Int) | a (k : Int) | i (x : Int) | u (f : Int) (t : Tr) | b (f : Int) (t r : Tr)
noncomputable def enc : Tr → Dat
  | .v k => .tuple [.str "v", .int k]
  | .a k => .tuple [.str "a", .int k]
  | .i x => .tuple [.str "i", .int x]
  | .u f t => .tuple [.str "s", .int f, .tuple [enc t]]
  | .b f t r => .tuple [.str "s", .int f, .tuple [enc t, enc r]]
noncomputable def ht : Tr → Nat
  | .u _ t => ht t + 1
  | .b _ t r => max (ht t) (ht r) + 1
  | _ => 0
noncomputable def fat (S : Sy) (f : Int) : Int := ((S.fs[f.toNat]?).map (·.1)).getD 0
noncomputable def ftx (S : Sy) (f : Int) : Str := (S.ts[(fat S f).toNat]?).getD ""
structure FnK (S : Sy) (f k : Int) : Prop where
  f0 : 0 ≤ f
  f1 : f < 1000000
  fs : S.fs[f.toNat]? = some (fat S f, k)
  a0 : 0 ≤ fat S f
  a1 : fat S f < 1000000
  ts : S.ts[(fat S f).toNat]? = some (ftx S f)
noncomputable def WF (S : Sy) : Tr → Prop
  | .i x => Bd x
  | .u f t => FnK S f 1 ∧ WF S t
  | .b f t r => FnK S f 2 ∧ WF S t ∧ WF S r
  | _ => True
noncomputable def obind (o : Out) (k : Int → Out) : Out := match o with
  | .ok z => k z
  | .error e => .error e
/-- the value of a tree -/
noncomputable def ev (S : Sy) (m : Nat) : Tr → Out
  | .v _ => .error .inst
  | .a k => .error (neEr k 0)
  | .i x => .ok x
  | .u f t => if unaryL.contains (ftx S f) = true then obind (ev S m t) fun y => size m (un (ftx S f) y) else .error (neEr (fat S f) 1)
  | .b f t r => if binaryL.contains (ftx S f) = true then obind (ev S m t) fun y => obind (ev S m r) fun z => bs (ftx S f) y z m else .error (neEr (fat S f) 2)
theorem size_bd {m : Nat} {o : Out} {z : Int} (hm : m ≤ 128) (h : size m o = .ok z) : Bd z := by
  unfold size at h
  split at h
  · split at h
    · cases h
    · rename_i hz
      cases h
      exact Nat.lt_of_lt_of_le (Nat.not_le.mp hz) (Nat.pow_le_pow_right (by decide) hm)
  · cases h
noncomputable def Szd (o : Out) : Prop := ∀ z, o = .ok z → Bd z
theorem szd_if {c : Prop} [Decidable c] {a b : Out} (ha : Szd a) (hb : Szd b) : Szd (if c then a else b) := by split <;> assumption
theorem szd_er {e : Er} : Szd (.error e) := fun _ h => by cases h
theorem szd_bs {t : Str} {a b : Int} {m : Nat} (hm : m ≤ 128) : Szd (bs t a b m) := by
  have s : ∀ {o : Out}, Szd (size m o) := fun z h => size_bd hm h
  unfold bs dv bt pw
  repeat' first | exact s | exact szd_er | apply szd_if
theorem bs_size {t : Str} {a b : Int} {m : Nat} {z : Int} (hm : m ≤ 128) (h : bs t a b m = .ok z) : Bd z := szd_bs hm z h
theorem ev_bd {S : Sy} {m : Nat} (hm : m ≤ 128) : ∀ {t : Tr} {z : Int}, WF S t → ev S m t = .ok z → Bd z
  | .v _, _, _, h => by cases h
  | .a _, _, _, h => by cases h
  | .i x, _, w, h => by cases h; exact w
  | .u f t, z, w, h => by
    unfold ev at h
    split at h
    · cases e : ev S m t with
      | ok y => rw [e] at h; exact size_bd hm h
      | error e' => rw [e] at h; cases h
    · cases h
  | .b f t r, z, w, h => by
    unfold ev at h
    split at h
    · cases e : ev S m t with
      | ok y =>
        rw [e] at h
        cases e2 : ev S m r with
        | ok y' => rw [e2] at h; exact bs_size hm h
        | error e' => rw [e2] at h; cases h
      | error e' => rw [e] at h; cases h
    · cases h
theorem fnk_keeps {S T : Sy} {f k : Int} (h : FnK S f k) (le : S.Le T) : FnK T f k ∧ fat T f = fat S f ∧ ftx T f = ftx S f := by
  have h1 := pre_get le.fs h.fs
  have e1 : fat T f = fat S f := by show ((T.fs[f.toNat]?).map (·.1)).getD 0 = _; rw [h1]; rfl
  have h2 := pre_get le.ts h.ts
  have e2 : ftx T f = ftx S f := by show (T.ts[(fat T f).toNat]?).getD "" = _; rw [e1, h2]; rfl
  exact ⟨⟨h.f0, h.f1, by rw [e1]; exact h1, by rw [e1]; exact h.a0, by rw [e1]; exact h.a1, by rw [e1, e2]; exact h2⟩, e1, e2⟩
theorem ev_keeps {S T : Sy} {m : Nat} (le : S.Le T) : ∀ {t : Tr}, WF S t → WF T t ∧ ev T m t = ev S m t
  | .v _, _ => ⟨trivial, rfl⟩
  | .a _, _ => ⟨trivial, rfl⟩
  | .i _, w => ⟨w, rfl⟩
  | .u f t, w => by
    obtain ⟨a, b, c⟩ := fnk_keeps w.1 le
    obtain ⟨d, e⟩ := ev_keeps (m := m) le w.2
    refine ⟨⟨a, d⟩, ?_⟩
    show (if unaryL.contains (ftx T f) = true then obind (ev T m t) fun y => size m (un (ftx T f) y) else .error (neEr (fat T f) 1)) = _
    rw [b, c, e]; rfl
  | .b f t r, w => by
    obtain ⟨a, b, c⟩ := fnk_keeps w.1 le
    obtain ⟨d, e⟩ := ev_keeps (m := m) le w.2.1
    obtain ⟨d', e'⟩ := ev_keeps (m := m) le w.2.2
    refine ⟨⟨a, d, d'⟩, ?_⟩
    show (if binaryL.contains (ftx T f) = true then obind (ev T m t) fun y => obind (ev T m r) fun z => bs (ftx T f) y z m else .error (neEr (fat T f) 2)) = _
    rw [b, c, e, e']; rfl
end
end Mine

end
section
set_option maxRecDepth 100000
set_option autoImplicit false
set_option genInjectivity false
set_option genSizeOf false
open PySem PySem.W
namespace Mine
noncomputable section
noncomputable def dropSs : Nat → Ss → Ss
  | 0, s => s
  | _, .nil => .nil
  | n + 1, .cons _ s => dropSs n s
theorem un_lt {t : Str} {x : Int} : True := trivial
section
variable {n : Nat} {l : List Dat} {h : Hd} {S : Sy} {ext : List Cell} {Λ : Hp} {Q : V → Hp → Prop} {X : Dat → Prop} {M : Int}
theorem kindErr (S : Sy) (k : Str) : addA (addFn S k 0) k = addFn S k 0 ∧ no (addFn S k 0).ts k = no S.ts k := by
  obtain ⟨a, b⟩ := addA_keeps (leF (addA S k) (no S.ts k, 0))
  exact ⟨b, a⟩
/-- the limit, behind an operation -/
theorem val_tail {n : Nat} {o : Out} {vs : List Dat} {d1 d3 d5 : V} (hs : S.sz < 700000) (hM : M ≤ 127) (h0 : 1 ≤ M) (q : Q (.dat (resD S (size M.toNat o))) (sto l h (resS S (size M.toNat o)) ext)) :
    wSs tbl (evCall tbl (n + 5)) (wFin f_law_value 7 (sto l h S ext) Q) X (dropSs 8 b_law_value) [.ref 2, d1, vi M, d3, .ref 7, d5, .dat (resD S o), .bot] (sto l h (resS S o) [.dl vs]) (fun _ Λ' => wFin f_law_value 7 (sto l h S ext) Q (.dat .none) Λ') := by
  cases o with
  | error e => exact q
  | ok z =>
    have err : 2 ^ M.toNat ≤ z.natAbs → wE tbl (evCall tbl (n + 5)) [.ref 2, d1, vi M, d3, .ref 7, d5, .dat (resD S (.ok z)), .bot] (.call 38 (.cons (.var 0) (.cons (.str (Str.ofString "resource_error")) (.cons (.list (.cons (.tuple (.cons (.str (Str.ofString "a")) (.cons (.meth 3 (.var 0) (.cons (.str (Str.ofString "memory")) .nil)) .nil))) .nil)) .nil)))) (sto l h S [.dl vs]) (wFin f_law_value 7 (sto l h S ext) Q) X := by
      intro hz
      rw [size_big hz] at q
      refine p_atom (n := n + 4) (S := S) (ext := [.dl vs]) (sz_ts (m := 1000000) (by first | exact Nat.lt_of_lt_of_le hs (by decide) | assumption | decide | omega)) ?_
      refine p_lerr81 (n := n + 2) (S := addA S "memory") (by have := szA S "memory"; omega) (by kernel_rfl) ?_
      exact q
    refine wO_if (c := 0 ≤ M ∧ (bits 2 : Int) * M ≤ 2 ^ 27) (pow_ok (by first | exact Nat.lt_of_lt_of_le hs (by decide) | assumption | decide | omega) (by first | exact Nat.lt_of_lt_of_le hs (by decide) | assumption | decide | omega)) ?_
    refine sel_of (b := decide ((2 : Int) ^ M.toNat ≤ z)) (fun e => ?_) (fun e => ?_)
    · refine sel_t (b := decide ((2 : Int) ^ M.toNat ≤ z)) e ?_
      have e := of_decide_eq_true e
      rw [two_pow] at e
      exact err (by first | exact Nat.lt_of_lt_of_le hs (by decide) | assumption | decide | omega)
    · have e := of_decide_eq_false e
      rw [two_pow] at e
      refine wO_if (c := 0 ≤ M ∧ (bits 2 : Int) * M ≤ 2 ^ 27) (pow_ok (by first | exact Nat.lt_of_lt_of_le hs (by decide) | assumption | decide | omega) (by first | exact Nat.lt_of_lt_of_le hs (by decide) | assumption | decide | omega)) ?_
      refine sel_of (b := decide (z ≤ -(2 : Int) ^ M.toNat)) (fun e' => ?_) (fun e' => ?_)
      · have e' := of_decide_eq_true e'
        rw [two_pow] at e'
        exact err (by first | exact Nat.lt_of_lt_of_le hs (by decide) | assumption | decide | omega)
      · have e' := of_decide_eq_false e'
        rw [two_pow] at e'
        rw [show size M.toNat (.ok z) = .ok z from if_neg (by first | exact Nat.lt_of_lt_of_le hs (by decide) | assumption | decide | omega)] at q
        exact q
theorem nb_t {c : Bool} (h : (true != c) = true) : c = false := by cases c; rfl; cases h
theorem nb_f {c : Bool} (h : (true != c) = false) : c = true := by cases c; cases h; rfl
set_option maxHeartbeats 4000000 in
theorem p_value (hs : S.sz < 700000) (hM : M ≤ 127) (h0 : 1 ≤ M) : ∀ (t : Tr) (n : Nat) (Q : V → Hp → Prop) (X : Dat → Prop) (ext : List Cell), WF S t → ht t + 10 ≤ n → Q (.dat (resD S (ev S M.toNat t))) (sto l h (resS S (ev S M.toNat t)) ext) → (evCall tbl n 45 [.ref 2, .dat (enc t), vi M] (sto l h S ext)).p Q X
  | .i x, n, Q, X, ext, _, hn, q => by
    obtain ⟨n, rfl⟩ : ∃ k, n = k + 1 := ⟨n - 1, by omega⟩
    refine call_p (F := f_law_value) rfl rfl ?_
    exact q
  | .v k, n, Q, X, ext, _, hn, q => by
    obtain ⟨n, rfl⟩ : ∃ k, n = k + 4 := ⟨n - 4, by omega⟩
    refine call_p (F := f_law_value) rfl rfl ?_
    refine p_lerr70 (n := n) (S := S) (by first | exact Nat.lt_of_lt_of_le hs (by decide) | assumption | decide | omega) ?_
    obtain ⟨e1, e2⟩ := kindErr S "instantiation_error"
    rw [e1, e2]
    exact q
  | .a k, n, Q, X, ext, _, hn, q => by
    obtain ⟨n, rfl⟩ : ∃ k, n = k + 4 := ⟨n - 4, by omega⟩
    refine call_p (F := f_law_value) rfl rfl ?_
    refine p_atom (n := n + 2) (S := S) (ext := []) (sz_ts (m := 1000000) (by first | exact Nat.lt_of_lt_of_le hs (by decide) | assumption | decide | omega)) ?_
    refine p_lerr72 (n := n) (S := addA S "evaluable") (by have := szA S "evaluable"; omega) (by kernel_rfl) ?_
    exact q
  | .u f t, n, Q, X, ext, w, hn, q => by
    obtain ⟨n, rfl⟩ : ∃ k, n = k + 6 := ⟨n - 6, by omega⟩
    refine call_p (F := f_law_value) rfl rfl ?_
    refine p_name (n := n + 4) (S := S) (ext := []) w.1.f0 w.1.f1 w.1.fs ?_
    refine p_text (n := n + 4) (S := S) (ext := []) w.1.a0 w.1.a1 w.1.ts ?_
    change Q (.dat (resD S (if unaryL.contains (ftx S f) = true then obind (ev S M.toNat t) fun y => size M.toNat (un (ftx S f) y) else .error (neEr (fat S f) 1)))) (sto l h (resS S (if unaryL.contains (ftx S f) = true then obind (ev S M.toNat t) fun y => size M.toNat (un (ftx S f) y) else .error (neEr (fat S f) 1))) ext) at q
    refine sel_of (b := (true != unaryL.contains (ftx S f))) (fun e => ?_) (fun e => ?_)
    · rw [nb_t e, if_neg (by decide)] at q
      refine p_name (n := n + 4) (S := S) (ext := []) w.1.f0 w.1.f1 w.1.fs ?_
      refine p_atom (n := n + 4) (S := S) (ext := []) (sz_ts (m := 1000000) (by first | exact Nat.lt_of_lt_of_le hs (by decide) | assumption | decide | omega)) ?_
      refine p_lerr72 (n := n + 2) (S := addA S "evaluable") (by have := szA S "evaluable"; omega) (by kernel_rfl) ?_
      exact q
    · rw [nb_f e, if_pos rfl] at q
      refine p_value hs hM h0 t (n + 5) _ _ [.dl []] w.2 (by unfold ht at hn; omega) ?_
      cases eo : ev S M.toNat t with
      | error e' => rw [eo] at q; exact q
      | ok y =>
        rw [eo] at q
        refine p_one (n := n) (S := S) (ext := [.dl [.int y]]) (by first | exact Nat.lt_of_lt_of_le hs (by decide) | assumption | decide | omega) (ev_bd (by first | exact Nat.lt_of_lt_of_le hs (by decide) | assumption | decide | omega) w.2 eo) ?_
        exact val_tail (n := n) hs hM h0 q
  | .b f t r, n, Q, X, ext, w, hn, q => by
    obtain ⟨n, rfl⟩ : ∃ k, n = k + 6 := ⟨n - 6, by omega⟩
    refine call_p (F := f_law_value) rfl rfl ?_
    refine p_name (n := n + 4) (S := S) (ext := []) w.1.f0 w.1.f1 w.1.fs ?_
    refine p_text (n := n + 4) (S := S) (ext := []) w.1.a0 w.1.a1 w.1.ts ?_
    change Q (.dat (resD S (if binaryL.contains (ftx S f) = true then obind (ev S M.toNat t) fun y => obind (ev S M.toNat r) fun z => bs (ftx S f) y z M.toNat else .error (neEr (fat S f) 2)))) (sto l h (resS S (if binaryL.contains (ftx S f) = true then obind (ev S M.toNat t) fun y => obind (ev S M.toNat r) fun z => bs (ftx S f) y z M.toNat else .error (neEr (fat S f) 2))) ext) at q
    refine sel_of (b := (true != binaryL.contains (ftx S f))) (fun e => ?_) (fun e => ?_)
    · rw [nb_t e, if_neg (by decide)] at q
      refine p_name (n := n + 4) (S := S) (ext := []) w.1.f0 w.1.f1 w.1.fs ?_
      refine p_atom (n := n + 4) (S := S) (ext := []) (sz_ts (m := 1000000) (by first | exact Nat.lt_of_lt_of_le hs (by decide) | assumption | decide | omega)) ?_
      refine p_lerr72 (n := n + 2) (S := addA S "evaluable") (by have := szA S "evaluable"; omega) (by kernel_rfl) ?_
      exact q
    · have hb := nb_f e
      rw [hb, if_pos rfl] at q
      refine p_value hs hM h0 t (n + 5) _ _ [.dl []] w.2.1 (by unfold ht at hn; omega) ?_
      cases eo : ev S M.toNat t with
      | error e' => rw [eo] at q; exact q
      | ok y =>
        rw [eo] at q
        refine p_value hs hM h0 r (n + 5) _ _ [.dl [.int y]] w.2.2 (by unfold ht at hn; omega) ?_
        cases eo2 : ev S M.toNat r with
        | error e' => rw [eo2] at q; exact q
        | ok z =>
          rw [eo2] at q
          refine p_two (n := n) (S := S) (ext := [.dl [.int y, .int z]]) (by simpa using hb) (by first | exact Nat.lt_of_lt_of_le hs (by decide) | assumption | decide | omega) (ev_bd (by first | exact Nat.lt_of_lt_of_le hs (by decide) | assumption | decide | omega) w.2.1 eo) (ev_bd (by first | exact Nat.lt_of_lt_of_le hs (by decide) | assumption | decide | omega) w.2.2 eo2) (by first | exact Nat.lt_of_lt_of_le hs (by decide) | assumption | decide | omega) h0 fun o ho => ?_
          refine val_tail (n := n) hs hM h0 ?_
          rw [ho]
          exact q
end
end
end Mine

end
section
set_option maxRecDepth 100000
set_option autoImplicit false
set_option genInjectivity false
set_option genSizeOf false
open PySem PySem.W
namespace Mine
noncomputable section
/-! a stack, its top at the list's end -/
noncomputable def stk : List Dat → List Dat
  | [] => []
  | d :: r => stk r ++ [d]
theorem stk_len : ∀ r, (stk r).length = r.length
  | [] => rfl
  | d :: r => by show (stk r ++ [d]).length = _; rw [List.length_append, stk_len r]; rfl
theorem p_eq {α : Type} {r : Rs α} {a : α} {Λ : Hp} {Q : α → Hp → Prop} {X : Dat → Prop} (h : r = .ok a Λ) (k : Q a Λ) : r.p Q X := by subst h; exact k
theorem pop_eq {Λ : Hp} {n : Nat} {d : Dat} {r : List Dat} (h : Λ[n]? = some (.dl (stk (d :: r)))) (hr : r.length < 900) : vPop Λ (.ref n) = .ok (.dat d) (Λ.set n (.dl (stk r))) := by
  unfold vPop
  dsimp only
  rw [h]
  dsimp only
  rw [if_pos (by rw [stk_len]; show r.length + 1 < 1000000; omega)]
  show (match (stk r ++ [d]).getLast? with | some d' => Rs.ok (Mine.V.dat d') (Λ.set n (.dl (stk r ++ [d]).dropLast)) | none => .bad) = _
  rw [List.getLast?_concat, List.dropLast_concat]
theorem app_eq {Λ : Hp} {n : Nat} {d : Dat} {r : List Dat} (h : Λ[n]? = some (.dl (stk r))) (hr : r.length < 900) : vAppend Λ (.ref n) (.dat d) = .ok (.dat .none) (Λ.set n (.dl (stk (d :: r)))) := by
  unfold vAppend
  dsimp only
  rw [h]
  dsimp only
  rw [if_pos (by rw [stk_len]; omega)]
  rfl
section
variable {n : Nat} {l : List Dat} {h : Hd} {S : Sy} {ext : List Cell} {Q : V → Hp → Prop} {X : Dat → Prop} {M : Int}
theorem p_size {z : Int} (hs : S.sz < 900000) (h0 : 0 ≤ M) (q : oc (size M.toNat (.ok z)) (fun z => Q (vi z) (sto l h S ext)) (fun e => X (ballD (formD S e)))) : (evCall tbl (n + 5) 21 [.ref 2, vi z, vi M] (sto l h S ext)).p Q X := by
  refine call_p (F := f_check_size) rfl rfl ?_
  have hb := @bits_iff z M.toNat
  refine sel_of (b := decide (M < (bits z : Int))) (fun e => ?_) (fun e => ?_)
  · have e := of_decide_eq_true e
    rw [size_big (Nat.le_of_not_lt fun c => by have := hb.mpr c; omega)] at q
    exact p_reserr (n := n) (S := S) (ext := []) hs q
  · have e := of_decide_eq_false e
    rw [show size M.toNat (.ok z) = .ok z from if_neg (Nat.not_le.mpr (hb.mp (by first | exact Nat.lt_of_lt_of_le hs (by decide) | assumption | decide | omega)))] at q
    exact q
theorem nn_t {c : Bool} (h : (!(false != c)) = true) : c = false := by cases c; rfl; cases h
theorem nn_f {c : Bool} (h : (!(false != c)) = false) : c = true := by cases c; cases h; rfl
theorem p_check1 {f : Int} (w : FnK S f 1) (hs : S.sz < 900000) (q : unaryL.contains (ftx S f) = true → Q (.dat .none) (sto l h S ext)) (x : unaryL.contains (ftx S f) = false → X (ballD (formD S (neEr (fat S f) 1)))) : (evCall tbl (n + 6) 20 [.ref 2, vi f] (sto l h S ext)).p Q X := by
  refine call_p (F := f_check_evaluable) rfl rfl ?_
  refine p_name (n := n + 4) (S := S) (ext := []) w.f0 w.f1 w.fs ?_
  refine p_arity (n := n + 4) (S := S) (ext := []) w.f0 w.f1 w.fs ?_
  refine p_text (n := n + 4) (S := S) (ext := []) w.a0 w.a1 w.ts ?_
  refine sel_of (b := !(false != unaryL.contains (ftx S f))) (fun e => ?_) (fun e => ?_)
  · exact p_notev (n := n) (S := S) (ext := []) hs (x (nn_t e))
  · exact q (nn_f e)
theorem p_check2 {f : Int} (w : FnK S f 2) (hs : S.sz < 900000) (q : binaryL.contains (ftx S f) = true → Q (.dat .none) (sto l h S ext)) (x : binaryL.contains (ftx S f) = false → X (ballD (formD S (neEr (fat S f) 2)))) : (evCall tbl (n + 6) 20 [.ref 2, vi f] (sto l h S ext)).p Q X := by
  refine call_p (F := f_check_evaluable) rfl rfl ?_
  refine p_name (n := n + 4) (S := S) (ext := []) w.f0 w.f1 w.fs ?_
  refine p_arity (n := n + 4) (S := S) (ext := []) w.f0 w.f1 w.fs ?_
  refine p_text (n := n + 4) (S := S) (ext := []) w.a0 w.a1 w.ts ?_
  refine sel_of (b := !(false != binaryL.contains (ftx S f))) (fun e => ?_) (fun e => ?_)
  · exact p_notev (n := n) (S := S) (ext := []) hs (x (nn_t e))
  · exact q (nn_f e)
section
variable {A : List Dat} {f y z : Int} {r : List Dat}
theorem p_apply1 (w : FnK S f 1) (hs : S.sz < 800000) (h0 : 0 ≤ M) (hr : r.length < 800) (q : oc (size M.toNat (un (ftx S f) y)) (fun z => Q (.dat .none) (sto l h S [.dl A, .dl (stk (.int z :: r))])) (fun e => X (ballD (formD S e)))) : (evCall tbl (n + 9) 33 [.ref 2, vi f, .ref 8, vi M] (sto l h S [.dl A, .dl (stk (.int y :: r))])).p Q X := by
  refine call_p (F := f_apply_functor) rfl rfl ?_
  refine p_name (n := n + 7) (S := S) (ext := [.dl A, .dl (stk (.int y :: r))]) w.f0 w.f1 w.fs ?_
  refine p_text (n := n + 7) (S := S) (ext := [.dl A, .dl (stk (.int y :: r))]) w.a0 w.a1 w.ts ?_
  refine p_eq (r := vPop (sto l h S [.dl A, .dl (stk (.int y :: r))]) (.ref 8)) (pop_eq (n := 8) rfl (by first | exact Nat.lt_of_lt_of_le hs (by decide) | assumption | decide | omega)) ?_
  refine p_arity (n := n + 7) (S := S) (ext := [.dl A, .dl (stk r)]) w.f0 w.f1 w.fs ?_
  refine p_aun (n := n + 3) (S := S) (ext := [.dl A, .dl (stk r)]) (by first | exact Nat.lt_of_lt_of_le hs (by decide) | assumption | decide | omega) ?_
  cases eo : un (ftx S f) y with
  | error e => rw [eo] at q; exact q
  | ok z =>
    rw [eo] at q
    refine p_size (n := n + 3) (S := S) (ext := [.dl A, .dl (stk r)]) (by first | exact Nat.lt_of_lt_of_le hs (by decide) | assumption | decide | omega) h0 ?_
    cases eo' : size M.toNat (.ok z) with
    | error e => rw [eo'] at q; exact q
    | ok z' =>
      rw [eo'] at q
      refine p_eq (r := vAppend (sto l h S [.dl A, .dl (stk r)]) (.ref 8) (vi z')) (app_eq (n := 8) rfl (by first | exact Nat.lt_of_lt_of_le hs (by decide) | assumption | decide | omega)) ?_
      exact q
theorem p_apply2 (w : FnK S f 2) (hy : Bd y) (hz : Bd z) (hs : S.sz < 800000) (hM : M ≤ 127) (h0 : 0 ≤ M) (hr : r.length < 800) (q : oc (bs (ftx S f) y z M.toNat) (fun z => Q (.dat .none) (sto l h S [.dl A, .dl (stk (.int z :: r))])) (fun e => X (ballD (formD S e)))) : (evCall tbl (n + 9) 33 [.ref 2, vi f, .ref 8, vi M] (sto l h S [.dl A, .dl (stk (.int z :: .int y :: r))])).p Q X := by
  refine call_p (F := f_apply_functor) rfl rfl ?_
  refine p_name (n := n + 7) (S := S) (ext := [.dl A, .dl (stk (.int z :: .int y :: r))]) w.f0 w.f1 w.fs ?_
  refine p_text (n := n + 7) (S := S) (ext := [.dl A, .dl (stk (.int z :: .int y :: r))]) w.a0 w.a1 w.ts ?_
  refine p_eq (r := vPop (sto l h S [.dl A, .dl (stk (.int z :: .int y :: r))]) (.ref 8)) (pop_eq (n := 8) rfl (by rw [List.length_cons]; omega)) ?_
  refine p_arity (n := n + 7) (S := S) (ext := [.dl A, .dl (stk (.int y :: r))]) w.f0 w.f1 w.fs ?_
  refine p_eq (r := vPop (sto l h S [.dl A, .dl (stk (.int y :: r))]) (.ref 8)) (pop_eq (n := 8) rfl (by first | exact Nat.lt_of_lt_of_le hs (by decide) | assumption | decide | omega)) ?_
  refine p_abin (n := n) (S := S) (ext := [.dl A, .dl (stk r)]) hs hy hz (by first | exact Nat.lt_of_lt_of_le hs (by decide) | assumption | decide | omega) h0 fun o ho => ?_
  rw [← ho] at q
  cases o with
  | error e => exact q
  | ok z =>
    refine p_size (n := n + 3) (S := S) (ext := [.dl A, .dl (stk r)]) (by first | exact Nat.lt_of_lt_of_le hs (by decide) | assumption | decide | omega) h0 ?_
    cases eo' : size M.toNat (.ok z) with
    | error e => rw [eo'] at q; exact q
    | ok z' =>
      rw [eo'] at q
      refine p_eq (r := vAppend (sto l h S [.dl A, .dl (stk r)]) (.ref 8) (vi z')) (app_eq (n := 8) rfl (by first | exact Nat.lt_of_lt_of_le hs (by decide) | assumption | decide | omega)) ?_
      exact q
end
end
end
end Mine

end
section
set_option maxRecDepth 100000
set_option autoImplicit false
set_option genInjectivity false
set_option genSizeOf false
open PySem PySem.W
namespace Mine
noncomputable section
/-! the evaluator's own stack -/
inductive Wk where
  | t (t : Tr) | p1 (f : Int) | p2 (f : Int)
noncomputable def wkD : Wk → Dat
  | .t t => enc t
  | .p1 f => .tuple [.str "apply", .int f]
  | .p2 f => .tuple [.str "apply", .int f]
noncomputable def cont (S : Sy) (m : Nat) : List Wk → List Int → Out
  | [], z :: _ => .ok z
  | .t t :: ws, vs => obind (ev S m t) fun z => cont S m ws (z :: vs)
  | .p1 f :: ws, y :: vs => obind (size m (un (ftx S f) y)) fun z => cont S m ws (z :: vs)
  | .p2 f :: ws, z :: y :: vs => obind (bs (ftx S f) y z m) fun z => cont S m ws (z :: vs)
  | _, _ => .error .inst
noncomputable def okW (S : Sy) : List Wk → Nat → Prop
  | [], k => k = 1
  | .t t :: ws, k => WF S t ∧ okW S ws (k + 1)
  | .p1 f :: ws, k => FnK S f 1 ∧ 1 ≤ k ∧ okW S ws k
  | .p2 f :: ws, k => FnK S f 2 ∧ 2 ≤ k ∧ okW S ws (k - 1)
noncomputable def tsz : Tr → Nat
  | .u _ t => tsz t + 2
  | .b _ t r => tsz t + tsz r + 2
  | _ => 1
noncomputable def wt : List Wk → Nat
  | [] => 0
  | .t t :: ws => tsz t + wt ws
  | _ :: ws => wt ws + 1
theorem wt_len : ∀ ws : List Wk, ws.length ≤ wt ws
  | [] => Nat.le_refl _
  | .t t :: ws => by have := wt_len ws; have : 1 ≤ tsz t := (by cases t <;> unfold tsz <;> omega); show ws.length + 1 ≤ tsz t + wt ws; omega
  | .p1 _ :: ws => Nat.succ_le_succ (wt_len ws)
  | .p2 _ :: ws => Nat.succ_le_succ (wt_len ws)
theorem obind_as (o : Out) (f g : Int → Out) : obind (obind o f) g = obind o fun z => obind (f z) g := by cases o <;> rfl
section
variable {n : Nat} {l : List Dat} {h : Hd} {S : Sy} {ext : List Cell} {Q : V → Hp → Prop} {X : Dat → Prop} {M : Int}
noncomputable abbrev stE (l : List Dat) (h : Hd) (S : Sy) (ws vs : List Dat) : Hp := sto l h S [.dl (stk ws), .dl (stk vs)]
structure EvI (l : List Dat) (h : Hd) (S : Sy) (M : Int) (t : Tr) (k : Nat) (ρ : Env) (Λ : Hp) (ws : List Wk) (vs : List Int) : Prop where
  e : ∃ d5 d6 d7, ρ = [.ref 2, .dat (enc t), vi M, .ref 7, .ref 8, d5, d6, d7]
  s : Λ = stE l h S (ws.map wkD) (vs.map .int)
  c : cont S M.toNat ws vs = ev S M.toNat t
  o : okW S ws vs.length
  b : ∀ v ∈ vs, Bd v
  k : wt ws = k
  m : wt ws + vs.length ≤ 800
set_option maxHeartbeats 4000000 in
theorem p_evaluate {t : Tr} (hs : S.sz < 700000) (hM : M ≤ 127) (h0 : 0 ≤ M) (w : WF S t) (ht : tsz t ≤ 700) (q : oc (ev S M.toNat t) (fun z => Q (vi z) (sto l h S ext)) (fun e => X (ballD (formD S e)))) : (evCall tbl (n + 10) 34 [.ref 2, .dat (enc t), vi M] (sto l h S ext)).p Q X := by
  refine call_p (F := f_evaluate_term) rfl rfl ?_
  refine ⟨fun k ρ Λ => ∃ ws vs, EvI l h S M t k ρ Λ ws vs, tsz t, (by show tsz t < 1000; omega), ⟨[.t t], [], ⟨_, _, _, rfl⟩, rfl, ?_, ⟨w, rfl⟩, (fun v hv => nomatch hv), rfl, (by show tsz t + 0 + 0 ≤ 800; omega)⟩, ?_⟩
  · show obind (ev S M.toNat t) (fun z => .ok z) = _
    cases ev S M.toNat t <;> rfl
  rintro k _ _ ⟨ws, vs, ⟨⟨d5, d6, d7, rfl⟩, rfl, hc, ho, hb, hk, hm⟩⟩
  rw [← hc] at q
  cases ws with
  | nil =>
    cases vs with
    | nil => exact absurd ho (by show ¬(0 = 1); decide)
    | cons z vs =>
      cases vs with
      | nil => exact q
      | cons _ _ => exact absurd ho (by intro h; exact absurd (Nat.succ.inj h) (Nat.succ_ne_zero _))
  | cons w1 ws =>
    have hl : (ws.map wkD).length < 900 := by have := wt_len (w1 :: ws); rw [List.length_map]; have : ws.length + 1 = (w1 :: ws).length := rfl; omega
    have hv : (vs.map Dat.int).length ≤ 800 := by rw [List.length_map]; omega
    refine wO_ifs (c := (stk ((w1 :: ws).map wkD)).length < 1000000) (by rw [stk_len]; show (ws.map wkD).length + 1 < 1000000; omega) ?_
    refine sel_t (b := !(stk (ws.map wkD) ++ [wkD w1]).isEmpty) (by cases stk (ws.map wkD) <;> rfl) ?_
    refine p_eq (r := vPop (stE l h S (wkD w1 :: ws.map wkD) (vs.map .int)) (.ref 7)) (pop_eq (n := 7) rfl hl) ?_
    cases w1 with
    | t t' =>
      cases t' with
      | v k' =>
        exact p_inst (n := n + 7) (S := S) (ext := [.dl (stk (ws.map wkD)), .dl (stk (vs.map .int))]) (by first | exact Nat.lt_of_lt_of_le hs (by decide) | assumption | decide | omega) q
      | a k' =>
        exact p_notev (n := n + 4) (S := S) (ext := [.dl (stk (ws.map wkD)), .dl (stk (vs.map .int))]) (by first | exact Nat.lt_of_lt_of_le hs (by decide) | assumption | decide | omega) q
      | i x =>
        refine p_eq (r := vAppend (stE l h S (ws.map wkD) (vs.map .int)) (.ref 8) (vi x)) (app_eq (n := 8) rfl (by first | exact Nat.lt_of_lt_of_le hs (by decide) | assumption | decide | omega)) ?_
        have hm : 1 + wt ws + vs.length ≤ 800 := hm
        refine ⟨wt ws, (by rw [← hk]; show wt ws < 1 + wt ws; omega), ws, x :: vs, ⟨_, _, _, rfl⟩, rfl, hc, ho.2, ?_, rfl, (by rw [List.length_cons]; omega)⟩
        intro v hv
        rcases List.mem_cons.mp hv with rfl | hv
        · exact ho.1
        · exact hb v hv
      | u f t' =>
        have hm : tsz t' + 2 + wt ws + vs.length ≤ 800 := hm
        refine p_check1 (n := n + 3) (S := S) (ext := [.dl (stk (ws.map wkD)), .dl (stk (vs.map .int))]) ho.1.1 (by first | exact Nat.lt_of_lt_of_le hs (by decide) | assumption | decide | omega) (fun e => ?_) (fun e => ?_)
        · refine p_eq (r := vAppend (stE l h S (ws.map wkD) (vs.map .int)) (.ref 7) (.dat (wkD (.p1 f)))) (app_eq (n := 7) rfl hl) ?_
          refine p_eq (r := vAppend (stE l h S (wkD (.p1 f) :: ws.map wkD) (vs.map .int)) (.ref 7) (.dat (enc t'))) (app_eq (n := 7) rfl ?_) ?_
          · have := wt_len ws; show (ws.map wkD).length + 1 < 900; rw [List.length_map]; omega
          refine ⟨tsz t' + (wt ws + 1), (by rw [← hk]; show tsz t' + (wt ws + 1) < tsz t' + 2 + wt ws; omega), .t t' :: .p1 f :: ws, vs, ⟨_, _, _, rfl⟩, rfl, ?_, ⟨ho.1.2, ho.1.1, Nat.succ_le_succ (Nat.zero_le _), ho.2⟩, hb, rfl, (by show tsz t' + (wt ws + 1) + vs.length ≤ 800; omega)⟩
          rw [← hc]
          show obind (ev S M.toNat t') (fun y => obind (size M.toNat (un (ftx S f) y)) fun z => cont S M.toNat ws (z :: vs)) = obind (if unaryL.contains (ftx S f) = true then obind (ev S M.toNat t') fun y => size M.toNat (un (ftx S f) y) else .error (neEr (fat S f) 1)) fun z => cont S M.toNat ws (z :: vs)
          rw [if_pos e, obind_as]
        · change oc (obind (if unaryL.contains (ftx S f) = true then obind (ev S M.toNat t') fun y => size M.toNat (un (ftx S f) y) else .error (neEr (fat S f) 1)) fun z => cont S M.toNat ws (z :: vs)) _ _ at q
          rw [e, if_neg Bool.false_ne_true] at q
          exact q
      | b f t' r' =>
        have hm : tsz t' + tsz r' + 2 + wt ws + vs.length ≤ 800 := hm
        refine p_check2 (n := n + 3) (S := S) (ext := [.dl (stk (ws.map wkD)), .dl (stk (vs.map .int))]) ho.1.1 (by first | exact Nat.lt_of_lt_of_le hs (by decide) | assumption | decide | omega) (fun e => ?_) (fun e => ?_)
        · refine p_eq (r := vAppend (stE l h S (ws.map wkD) (vs.map .int)) (.ref 7) (.dat (wkD (.p2 f)))) (app_eq (n := 7) rfl hl) ?_
          refine p_eq (r := vAppend (stE l h S (wkD (.p2 f) :: ws.map wkD) (vs.map .int)) (.ref 7) (.dat (enc r'))) (app_eq (n := 7) rfl ?_) ?_
          · have := wt_len ws; show (ws.map wkD).length + 1 < 900; rw [List.length_map]; omega
          refine p_eq (r := vAppend (stE l h S (enc r' :: wkD (.p2 f) :: ws.map wkD) (vs.map .int)) (.ref 7) (.dat (enc t'))) (app_eq (n := 7) rfl ?_) ?_
          · have := wt_len ws; show (ws.map wkD).length + 1 + 1 < 900; rw [List.length_map]; omega
          refine ⟨tsz t' + (tsz r' + (wt ws + 1)), (by rw [← hk]; show tsz t' + (tsz r' + (wt ws + 1)) < tsz t' + tsz r' + 2 + wt ws; omega), .t t' :: .t r' :: .p2 f :: ws, vs, ⟨_, _, _, rfl⟩, rfl, ?_, ⟨ho.1.2.1, ho.1.2.2, ho.1.1, Nat.succ_le_succ (Nat.succ_le_succ (Nat.zero_le _)), ho.2⟩, hb, rfl, (by show tsz t' + (tsz r' + (wt ws + 1)) + vs.length ≤ 800; omega)⟩
          rw [← hc]
          show obind (ev S M.toNat t') (fun y => obind (ev S M.toNat r') fun z => obind (bs (ftx S f) y z M.toNat) fun z => cont S M.toNat ws (z :: vs)) = obind (if binaryL.contains (ftx S f) = true then obind (ev S M.toNat t') fun y => obind (ev S M.toNat r') fun z => bs (ftx S f) y z M.toNat else .error (neEr (fat S f) 2)) fun z => cont S M.toNat ws (z :: vs)
          rw [if_pos e, obind_as]
          cases ev S M.toNat t' with
          | error _ => rfl
          | ok y => exact (obind_as _ _ _).symm
        · change oc (obind (if binaryL.contains (ftx S f) = true then obind (ev S M.toNat t') fun y => obind (ev S M.toNat r') fun z => bs (ftx S f) y z M.toNat else .error (neEr (fat S f) 2)) fun z => cont S M.toNat ws (z :: vs)) _ _ at q
          rw [e, if_neg Bool.false_ne_true] at q
          exact q
    | p1 f =>
      cases vs with
      | nil => exact absurd ho.2.1 (by decide)
      | cons y vs =>
        have hm : wt ws + 1 + (vs.length + 1) ≤ 800 := hm
        refine p_apply1 (n := n) (S := S) (A := stk (ws.map wkD)) (r := vs.map .int) ho.1 (by first | exact Nat.lt_of_lt_of_le hs (by decide) | assumption | decide | omega) h0 (by rw [List.length_map]; omega) ?_
        change oc (obind (size M.toNat (un (ftx S f) y)) fun z => cont S M.toNat ws (z :: vs)) _ _ at q
        change obind (size M.toNat (un (ftx S f) y)) (fun z => cont S M.toNat ws (z :: vs)) = _ at hc
        cases eo : size M.toNat (un (ftx S f) y) with
        | error e => rw [eo] at q; exact q
        | ok z =>
          rw [eo] at hc
          refine ⟨wt ws, (by rw [← hk]; exact Nat.lt_succ_self _), ws, z :: vs, ⟨_, _, _, rfl⟩, rfl, hc, ho.2.2, ?_, rfl, (by rw [List.length_cons]; omega)⟩
          intro v hv
          rcases List.mem_cons.mp hv with rfl | hv
          · exact size_bd (by first | exact Nat.lt_of_lt_of_le hs (by decide) | assumption | decide | omega) eo
          · exact hb v (List.mem_cons_of_mem _ hv)
    | p2 f =>
      cases vs with
      | nil => exact absurd ho.2.1 (by decide)
      | cons z vs =>
        cases vs with
        | nil => exact absurd ho.2.1 (by show ¬(2 ≤ 1); decide)
        | cons y vs =>
          have hm : wt ws + 1 + (vs.length + 1 + 1) ≤ 800 := hm
          refine p_apply2 (n := n) (S := S) (A := stk (ws.map wkD)) (r := vs.map .int) ho.1 (hb y (List.mem_cons_of_mem _ (List.mem_cons_self ..))) (hb z (List.mem_cons_self ..)) (by first | exact Nat.lt_of_lt_of_le hs (by decide) | assumption | decide | omega) hM h0 (by rw [List.length_map]; omega) ?_
          change oc (obind (bs (ftx S f) y z M.toNat) fun z => cont S M.toNat ws (z :: vs)) _ _ at q
          change obind (bs (ftx S f) y z M.toNat) (fun z => cont S M.toNat ws (z :: vs)) = _ at hc
          cases eo : bs (ftx S f) y z M.toNat with
          | error e => rw [eo] at q; exact q
          | ok z' =>
            rw [eo] at hc
            refine ⟨wt ws, (by rw [← hk]; exact Nat.lt_succ_self _), ws, z' :: vs, ⟨_, _, _, rfl⟩, rfl, hc, ho.2.2, ?_, rfl, (by rw [List.length_cons]; omega)⟩
            intro v hv
            rcases List.mem_cons.mp hv with rfl | hv
            · exact bs_size (by first | exact Nat.lt_of_lt_of_le hs (by decide) | assumption | decide | omega) eo
            · exact hb v (List.mem_cons_of_mem _ (List.mem_cons_of_mem _ hv))
end
end
end Mine

end
section
set_option maxRecDepth 100000
set_option autoImplicit false
set_option genInjectivity false
set_option genSizeOf false
open PySem PySem.W
namespace Mine
noncomputable section
/-! the hand -/
noncomputable abbrev hd (p a r d : Int) : Hd := ⟨.int p, .int a, .int r, .int d⟩
structure HK (is : List Int) (p a r : Int) : Prop where
  p0 : 0 ≤ p
  p1 : p ≤ is.length
  a0 : 0 ≤ a
  r0 : 0 ≤ r
  r1 : r < 2 ^ 31
theorem vIdx_l {is : List Int} {p : Int} {Λ : Hp} (h0 : 0 ≤ p) (h1 : p < is.length) (h2 : is.length ≤ 63) : vIdx (.dl (is.map .int) :: Λ) (.ref 0) (vi p) = some (vi (is.getD p.toNat 0)) := by
  show (natIx p).bind (fun k => ((is.map Dat.int)[k]?).map Mine.V.dat) = _
  rw [natIx_of h0 (by first | exact Nat.lt_of_lt_of_le hs (by decide) | assumption | decide | omega), Option.bind_some, List.getElem?_map, List.getElem?_eq_getElem (by first | exact Nat.lt_of_lt_of_le hs (by decide) | assumption | decide | omega), List.getD_eq_getElem?_getD, List.getElem?_eq_getElem (by first | exact Nat.lt_of_lt_of_le hs (by decide) | assumption | decide | omega)]; rfl
section
variable {n : Nat} {S : Sy} {ext : List Cell} {Q : V → Hp → Prop} {X : Dat → Prop} {is : List Int} {p a r d lim : Int}
theorem fm_lt {x : Int} (h : 0 < lim) : 0 ≤ x.fmod lim ∧ x.fmod lim < lim := ⟨Int.fmod_nonneg_of_pos _ h, Int.fmod_lt_of_pos _ h⟩
theorem p_pick (hl : is.length ≤ 63) (h1 : 0 < lim) (hk : HK is p a r) (q : ∀ p' a' r' z, HK is p' a' r' → 0 ≤ z → z < lim → Q (vi z) (sto (is.map .int) (hd p' a' r' d) S ext)) : (evCall tbl (n + 1) 35 [.ref 1, vi lim] (sto (is.map .int) (hd p a r d) S ext)).p Q X := by
  refine call_p (F := f_law_pick) rfl rfl ?_
  have hn : (is.map Dat.int).length < 1000000 := by rw [List.length_map]; omega
  refine sel_of (b := decide (a = 0)) (fun e => ?_) (fun e => ?_)
  · refine wO_ifs (c := (is.map Dat.int).length < 1000000) hn ?_
    refine sel_of (b := decide (p = ((is.map Dat.int).length : Int))) (fun e' => ?_) (fun e' => ?_)
    · refine wO_if (c := mulOk r 48271 = true) (mul_ok (bd_1000 (by have := hk.r0; have := hk.r1; unfold Bd; omega)) (bd_1000 (by unfold Bd; decide))) ?_
      refine wO_ifn (c := lim = 0) (by first | exact Nat.lt_of_lt_of_le hs (by decide) | assumption | decide | omega) ?_
      obtain ⟨f1, f2⟩ := fm_lt (lim := 2147483647) (x := r * 48271) (by decide)
      obtain ⟨g1, g2⟩ := fm_lt (x := ((r * 48271).fmod 2147483647).fdiv 7) h1
      exact q p a _ _ ⟨hk.p0, hk.p1, hk.a0, f1, by omega⟩ g1 g2
    · have e' := of_decide_eq_false e'
      rw [List.length_map] at e'
      have := hk.p0
      have := hk.p1
      refine wO_eq (vIdx_l (Λ := [.vl [.ref 0, vi p, vi a, vi r, vi d]]) (by first | exact Nat.lt_of_lt_of_le hs (by decide) | assumption | decide | omega) (by first | exact Nat.lt_of_lt_of_le hs (by decide) | assumption | decide | omega) hl) ?_
      have go : ∀ y : Int, 0 ≤ y → Q (vi (y.fmod lim)) (sto (is.map .int) (hd (p + 1) (y.fdiv lim) r d) S ext) := fun y hy => by
        obtain ⟨g1, g2⟩ := fm_lt (x := y) h1
        exact q _ _ _ _ ⟨by omega, by omega, Int.fdiv_nonneg hy (by first | exact Nat.lt_of_lt_of_le hs (by decide) | assumption | decide | omega), hk.r0, hk.r1⟩ g1 g2
      refine sel_of (b := decide (0 ≤ is.getD p.toNat 0)) (fun e => ?_) (fun e => ?_)
      · refine wO_ifn (c := lim = 0) (by first | exact Nat.lt_of_lt_of_le hs (by decide) | assumption | decide | omega) ?_
        refine wO_ifn (c := lim = 0) (by first | exact Nat.lt_of_lt_of_le hs (by decide) | assumption | decide | omega) ?_
        exact go _ (of_decide_eq_true e)
      · have e := of_decide_eq_false e
        refine wO_ifn (c := lim = 0) (by first | exact Nat.lt_of_lt_of_le hs (by decide) | assumption | decide | omega) ?_
        refine wO_ifn (c := lim = 0) (by first | exact Nat.lt_of_lt_of_le hs (by decide) | assumption | decide | omega) ?_
        exact go _ (by first | exact Nat.lt_of_lt_of_le hs (by decide) | assumption | decide | omega)
  · refine wO_ifn (c := lim = 0) (by first | exact Nat.lt_of_lt_of_le hs (by decide) | assumption | decide | omega) ?_
    refine wO_ifn (c := lim = 0) (by first | exact Nat.lt_of_lt_of_le hs (by decide) | assumption | decide | omega) ?_
    obtain ⟨g1, g2⟩ := fm_lt (x := a) h1
    exact q _ _ _ _ ⟨hk.p0, hk.p1, Int.fdiv_nonneg hk.a0 (by first | exact Nat.lt_of_lt_of_le hs (by decide) | assumption | decide | omega), hk.r0, hk.r1⟩ g1 g2
end
end
end Mine

end
section
set_option maxRecDepth 100000
set_option autoImplicit false
set_option genInjectivity false
set_option genSizeOf false
open PySem PySem.W
namespace Mine
noncomputable section
section
variable {n : Nat} {S : Sy} {ext : List Cell} {Q : V → Hp → Prop} {X : Dat → Prop} {is : List Int} {p a r d lim : Int}
theorem menu3 {x0 x1 x2 : Str} {z : Int} (h0 : 0 ≤ z) (h1 : z < 3) : ∃ x, vMenu [x0, x1, x2] (vi z) = some (.dat (.str x)) := by
  have : z = 0 ∨ z = 1 ∨ z = 2 := by omega
  rcases this with rfl | rfl | rfl <;> exact ⟨_, rfl⟩
theorem idx_strs {l : List Str} {z : Int} {Λ : Hp} (h0 : 0 ≤ z) (h1 : z.toNat < l.length) (h2 : z < 1000) : ∃ x, vIdx Λ (.strs l) (vi z) = some (.dat (.str x)) := by
  refine ⟨l[z.toNat], ?_⟩
  show (natIx z).bind (fun k => (l[k]?).map fun x => Mine.V.dat (.str x)) = _
  rw [natIx_of h0 (by first | exact Nat.lt_of_lt_of_le hs (by decide) | assumption | decide | omega), Option.bind_some, List.getElem?_eq_getElem h1]; rfl
theorem ten30 : (10 : Int) ^ (30 : Int).toNat = 1000000000000000000000000000000 := by decide +kernel
theorem ten29 : (10 : Int) ^ (29 : Int).toNat = 100000000000000000000000000000 := by decide +kernel
theorem p_leaf (hs : S.sz < 700000) (hl : is.length ≤ 63) (hk : HK is p a r) (q : ∀ p' a' r' S' t, HK is p' a' r' → S.Le S' → S'.sz ≤ S.sz + 1 → WF S' t → ht t = 0 → Q (.dat (enc t)) (sto (is.map .int) (hd p' a' r' d) S' ext)) : (evCall tbl (n + 2) 36 [.ref 1, .ref 2] (sto (is.map .int) (hd p a r d) S ext)).p Q X := by
  refine call_p (F := f_law_leaf) rfl rfl ?_
  refine p_pick (n := n) (S := S) (ext := []) hl (by decide) hk fun p a r z hk z0 z1 => ?_
  refine sel_of (b := decide (z = 0)) (fun e => ?_) (fun _ => ?_)
  · refine p_pick (n := n) (S := S) (ext := []) hl (by decide) hk fun p a r z hk z0 z1 => ?_
    exact q p a r S (.v (1 + z)) hk (Sy.Le.refl S) (Nat.le_succ _) trivial rfl
  refine sel_of (b := decide (z = 1)) (fun e => ?_) (fun _ => ?_)
  · refine p_pick (n := n) (S := S) (ext := []) hl (by decide) hk fun p a r z hk z0 z1 => ?_
    obtain ⟨x, hx⟩ := menu3 (x0 := "pi") (x1 := "[]") (x2 := "+") z0 z1
    refine wO_eq hx ?_
    refine p_atom (n := n) (S := S) (ext := []) (sz_ts (m := 1000000) (by first | exact Nat.lt_of_lt_of_le hs (by decide) | assumption | decide | omega)) ?_
    exact q p a r (addA S x) (.a (no S.ts x)) hk (leA S x) (szA S x) trivial rfl
  have le := Sy.Le.refl S
  have sz : S.sz ≤ S.sz + 1 := Nat.le_succ _
  refine sel_of (b := decide (z < 7)) (fun e => ?_) (fun _ => ?_)
  · refine p_pick (n := n) (S := S) (ext := []) (lim := (10 : Int) ^ (30 : Int).toNat) hl (by rw [ten30]; decide) hk fun p a r z hk z0 z1 => ?_
    exact q p a r S (.i (z - (10 : Int) ^ (29 : Int).toNat)) hk le sz (by rw [ten30] at z1; rw [ten29]; unfold WF Bd; omega) rfl
  refine sel_of (b := decide (z < 11)) (fun e => ?_) (fun _ => ?_)
  · refine p_pick (n := n) (S := S) (ext := []) hl (by decide) hk fun p a r z hk z0 z1 => ?_
    exact q p a r S (.i (z - 100)) hk le sz (by unfold WF Bd; omega) rfl
  · refine p_pick (n := n) (S := S) (ext := []) hl (by decide) hk fun p a r z hk z0 z1 => ?_
    exact q p a r S (.i (z - 4)) hk le sz (by unfold WF Bd; omega) rfl
end
end
end Mine

end
section
set_option maxRecDepth 100000
set_option autoImplicit false
set_option genInjectivity false
set_option genSizeOf false
open PySem PySem.W
namespace Mine
noncomputable section
theorem fnk_new {S : Sy} {x : Str} {k : Int} (hs : S.sz + 2 < 1000000) : FnK (addFn S x k) (fno S x k) k := by
  obtain ⟨a0, a1⟩ := no_get (addA S x).fs (no S.ts x, k)
  obtain ⟨b0, b1⟩ := no_get S.ts x
  have c1 : (fno S x k).toNat < (addFn S x k).fs.length := (List.getElem?_eq_some_iff.mp a1).1
  have c2 : (no S.ts x).toNat < (addFn S x k).ts.length := (List.getElem?_eq_some_iff.mp b1).1
  have hz := szFn S x k
  unfold Sy.sz at hz hs
  have e1 : (addFn S x k).fs[(fno S x k).toNat]? = some (no S.ts x, k) := a1
  have f1 : fat (addFn S x k) (fno S x k) = no S.ts x := by unfold fat; rw [e1]; rfl
  have e2 : (addFn S x k).ts[(no S.ts x).toNat]? = some x := b1
  have f2 : ftx (addFn S x k) (fno S x k) = x := by unfold ftx; rw [f1, e2]; rfl
  exact ⟨a0, by have : 0 ≤ fno S x k := a0; omega, by rw [f1]; exact e1, by rw [f1]; exact b0, by rw [f1]; omega, by rw [f1, f2]; exact e2⟩
theorem fnk_dot : FnK sy0 0 2 := ⟨by decide, by decide, rfl, by decide, by decide, rfl⟩
theorem wf_keeps {S T : Sy} {t : Tr} (w : WF S t) (le : S.Le T) : WF T t := (ev_keeps (m := 0) le w).1
section
variable {n : Nat} {Q : V → Hp → Prop} {X : Dat → Prop} {is : List Int}
/-- what a built tree leaves behind -/
noncomputable def TreeQ (is : List Int) (Q : V → Hp → Prop) (ext : List Cell) (S : Sy) (D : Nat) : Prop :=
  ∀ p a r d S' t, HK is p a r → S.Le S' → S'.sz + 2 ≤ S.sz + 3 * 2 ^ D → WF S' t → ht t ≤ D → Q (.dat (enc t)) (sto (is.map .int) (hd p a r d) S' ext)
section
variable {m D : Nat} {k : Int} {S S' : Sy} {ext : List Cell} {h0 : Hd} {p a r d f : Int} {v3 v5 : V}
/-- trees one step lower -/
noncomputable def TreeI (is : List Int) (m D : Nat) (k : Int) : Prop := ∀ (p a r d : Int) (S : Sy) (Q : V → Hp → Prop) (X : Dat → Prop) (ext : List Cell), S.sz + 3 * 2 ^ D < 700000 → sy0.Le S → HK is p a r → TreeQ is Q ext S D → (evCall tbl m 37 [.ref 1, .ref 2, vi (k - 1)] (sto (is.map .int) (hd p a r d) S ext)).p Q X
theorem node1 (ih : TreeI is m D k) (hs : S.sz + 3 * (2 ^ D * 2) < 700000) (hk : HK is p a r) (h1 : sy0.Le S) (le : S.Le S') (sz : S'.sz ≤ S.sz + 2) (fk : FnK S' f 1) (q : TreeQ is Q ext S (D + 1)) :
    wSs tbl (evCall tbl m) (wFin f_law_tree 7 (sto (is.map .int) h0 S ext) Q) X (dropSs 6 b_law_tree) [.ref 1, .ref 2, vi k, v3, vi 1, v5, vi f, .bot] (sto (is.map .int) (hd p a r d) S' []) (fun _ Λ' => wFin f_law_tree 7 (sto (is.map .int) h0 S ext) Q (.dat .none) Λ') := by
  have h2 : 1 ≤ 2 ^ D := Nat.one_le_two_pow
  refine ih p a r d S' _ _ [.dl []] (by first | exact Nat.lt_of_lt_of_le hs (by decide) | assumption | decide | omega) (h1.trans le) hk fun p a r d S2 t hk le2 sz2 w hh => ?_
  exact q p a r d S2 (.u f t) hk (le.trans le2) (by rw [Nat.pow_succ]; omega) ⟨(fnk_keeps fk le2).1, w⟩ (Nat.succ_le_succ hh)
theorem node2 (ih : TreeI is m D k) (hs : S.sz + 3 * (2 ^ D * 2) < 700000) (hk : HK is p a r) (h1 : sy0.Le S) (le : S.Le S') (sz : S'.sz ≤ S.sz + 2) (fk : FnK S' f 2) (q : TreeQ is Q ext S (D + 1)) :
    wSs tbl (evCall tbl m) (wFin f_law_tree 7 (sto (is.map .int) h0 S ext) Q) X (dropSs 6 b_law_tree) [.ref 1, .ref 2, vi k, v3, vi 2, v5, vi f, .bot] (sto (is.map .int) (hd p a r d) S' []) (fun _ Λ' => wFin f_law_tree 7 (sto (is.map .int) h0 S ext) Q (.dat .none) Λ') := by
  have h2 : 1 ≤ 2 ^ D := Nat.one_le_two_pow
  refine ih p a r d S' _ _ [.dl []] (by first | exact Nat.lt_of_lt_of_le hs (by decide) | assumption | decide | omega) (h1.trans le) hk fun p a r d S2 t hk le2 sz2 w hh => ?_
  refine ih p a r d S2 _ _ [.dl [enc t]] (by first | exact Nat.lt_of_lt_of_le hs (by decide) | assumption | decide | omega) (h1.trans (le.trans le2)) hk fun p a r d S3 t' hk le3 sz3 w' hh' => ?_
  exact q p a r d S3 (.b f t t') hk (le.trans (le2.trans le3)) (by rw [Nat.pow_succ]; omega) ⟨(fnk_keeps fk (le2.trans le3)).1, wf_keeps w le3, w'⟩ (Nat.succ_le_succ (Nat.max_le.mpr ⟨hh, hh'⟩))
end
set_option maxHeartbeats 1000000 in
/-- one step -/
theorem p_step (hl : is.length ≤ 63) (D : Nat) (hi : ∀ E, D = E + 1 → ∀ (n : Nat) (k p a r d : Int) (S : Sy) (Q : V → Hp → Prop) (X : Dat → Prop) (ext : List Cell), E + 3 ≤ n → k = E → S.sz + 3 * 2 ^ E < 700000 → sy0.Le S → HK is p a r → TreeQ is Q ext S E → (evCall tbl n 37 [.ref 1, .ref 2, vi k] (sto (is.map .int) (hd p a r d) S ext)).p Q X) : ∀ (n : Nat) (k p a r d : Int) (S : Sy) (Q : V → Hp → Prop) (X : Dat → Prop) (ext : List Cell), D + 3 ≤ n → k = D → S.sz + 3 * 2 ^ D < 700000 → sy0.Le S → HK is p a r → TreeQ is Q ext S D → (evCall tbl n 37 [.ref 1, .ref 2, vi k] (sto (is.map .int) (hd p a r d) S ext)).p Q X := by
    intro n k p a r d S Q X ext hn hk hs h0 hh q
    obtain ⟨m, rfl⟩ : ∃ m, n = m + 3 := ⟨n - 3, by omega⟩
    have h2 : 1 ≤ 2 ^ D := Nat.one_le_two_pow
    refine call_p (F := f_law_tree) rfl rfl ?_
    refine p_pick (n := m + 1) (S := S) (ext := []) hl (by decide) hh fun p a r z hh z0 z1 => ?_
    have lf : ∀ (p a r d : Int) (S' : Sy) (t : Tr), HK is p a r → S.Le S' → S'.sz ≤ S.sz + 1 → WF S' t → ht t = 0 → Q (.dat (enc t)) (sto (is.map .int) (hd p a r d) S' ext) := fun p a r d S' t h1 h2 h3 h4 h5 => q p a r d S' t h1 h2 (by first | exact Nat.lt_of_lt_of_le hs (by decide) | assumption | decide | omega) h4 (by first | exact Nat.lt_of_lt_of_le hs (by decide) | assumption | decide | omega)
    refine sel_of (b := decide (z < 2)) (fun e => ?_) (fun _ => ?_)
    · refine sel_t (b := decide (z < 2)) e ?_
      exact p_leaf (n := m) (S := S) (ext := []) (by first | exact Nat.lt_of_lt_of_le hs (by decide) | assumption | decide | omega) hl hh fun p a r => lf p a r d
    refine sel_of (b := decide (k = 0)) (fun e => ?_) (fun ek => ?_)
    · refine sel_t (b := decide (k = 0)) e ?_
      exact p_leaf (n := m) (S := S) (ext := []) (by first | exact Nat.lt_of_lt_of_le hs (by decide) | assumption | decide | omega) hl hh fun p a r => lf p a r d
    refine sel_of (b := decide (d = 0)) (fun e => ?_) (fun _ => ?_)
    · exact p_leaf (n := m) (S := S) (ext := []) (by first | exact Nat.lt_of_lt_of_le hs (by decide) | assumption | decide | omega) hl hh fun p a r => lf p a r d
    have ek := of_decide_eq_false ek
    cases D with
    | zero => exact absurd hk ek
    | succ D =>
    rw [Nat.pow_succ] at hs
    have h2 : 1 ≤ 2 ^ D := Nat.one_le_two_pow
    have ih : TreeI is (m + 2) D k := fun p a r d S Q X ext => hi D rfl (m + 2) (k - 1) p a r d S Q X ext (by first | exact Nat.lt_of_lt_of_le hs (by decide) | assumption | decide | omega) (by first | exact Nat.lt_of_lt_of_le hs (by decide) | assumption | decide | omega)
    refine sel_of (b := decide (z < 5)) (fun e => ?_) (fun e => ?_)
    · refine p_pick (n := m + 1) (S := S) (ext := []) (lim := 12) (d := d - 1) hl (by decide) hh fun p a r z hh z0 z1 => ?_
      refine sel_of (b := decide (z = 11)) (fun e => ?_) (fun e => ?_)
      · refine p_func (n := m) (S := S) (ext := []) (h := hd p a r (d - 1)) (x := "min") (k := 1) (sz_ts (m := 1000000) (by first | exact Nat.lt_of_lt_of_le hs (by decide) | assumption | decide | omega)) (sz_fs (m := 1000000) (by first | exact Nat.lt_of_lt_of_le hs (by decide) | assumption | decide | omega)) ?_
        exact node1 ih hs hh h0 (leFn S _ _) (szFn S _ _) (fnk_new (by first | exact Nat.lt_of_lt_of_le hs (by decide) | assumption | decide | omega)) q
      · have e := of_decide_eq_false e
        obtain ⟨x, hx⟩ := idx_strs (l := unaryL) (Λ := sto (is.map .int) (hd p a r (d - 1)) S []) z0 (by show z.toNat < 11; omega) (by first | exact Nat.lt_of_lt_of_le hs (by decide) | assumption | decide | omega)
        refine wO_eq hx ?_
        refine p_func (n := m) (S := S) (ext := []) (h := hd p a r (d - 1)) (x := x) (k := 1) (sz_ts (m := 1000000) (by first | exact Nat.lt_of_lt_of_le hs (by decide) | assumption | decide | omega)) (sz_fs (m := 1000000) (by first | exact Nat.lt_of_lt_of_le hs (by decide) | assumption | decide | omega)) ?_
        exact node1 ih hs hh h0 (leFn S _ _) (szFn S _ _) (fnk_new (by first | exact Nat.lt_of_lt_of_le hs (by decide) | assumption | decide | omega)) q
    · refine p_pick (n := m + 1) (S := S) (ext := []) (lim := 19) (d := d - 1) hl (by decide) hh fun p a r z hh z0 z1 => ?_
      refine sel_of (b := decide (z = 18)) (fun e => ?_) (fun e => ?_)
      · refine p_pick (n := m + 1) (S := S) (ext := []) (lim := 2) (d := d - 1) hl (by decide) hh fun p a r z hh z0 z1 => ?_
        refine sel_of (b := decide (z = 0)) (fun e => ?_) (fun e => ?_)
        · exact node2 ih hs hh h0 (Sy.Le.refl S) (Nat.le_add_right _ _) (fnk_keeps fnk_dot h0).1 q
        · refine p_func (n := m) (S := S) (ext := []) (h := hd p a r (d - 1)) (x := "abs") (k := 2) (sz_ts (m := 1000000) (by first | exact Nat.lt_of_lt_of_le hs (by decide) | assumption | decide | omega)) (sz_fs (m := 1000000) (by first | exact Nat.lt_of_lt_of_le hs (by decide) | assumption | decide | omega)) ?_
          exact node2 ih hs hh h0 (leFn S _ _) (szFn S _ _) (fnk_new (by first | exact Nat.lt_of_lt_of_le hs (by decide) | assumption | decide | omega)) q
      · have e := of_decide_eq_false e
        obtain ⟨x, hx⟩ := idx_strs (l := binaryL) (Λ := sto (is.map .int) (hd p a r (d - 1)) S []) z0 (by show z.toNat < 18; omega) (by first | exact Nat.lt_of_lt_of_le hs (by decide) | assumption | decide | omega)
        refine wO_eq hx ?_
        refine p_func (n := m) (S := S) (ext := []) (h := hd p a r (d - 1)) (x := x) (k := 2) (sz_ts (m := 1000000) (by first | exact Nat.lt_of_lt_of_le hs (by decide) | assumption | decide | omega)) (sz_fs (m := 1000000) (by first | exact Nat.lt_of_lt_of_le hs (by decide) | assumption | decide | omega)) ?_
        exact node2 ih hs hh h0 (leFn S _ _) (szFn S _ _) (fnk_new (by first | exact Nat.lt_of_lt_of_le hs (by decide) | assumption | decide | omega)) q
theorem p_tree (hl : is.length ≤ 63) (D : Nat) : ∀ (n : Nat) (k p a r d : Int) (S : Sy) (Q : V → Hp → Prop) (X : Dat → Prop) (ext : List Cell), D + 3 ≤ n → k = D → S.sz + 3 * 2 ^ D < 700000 → sy0.Le S → HK is p a r → TreeQ is Q ext S D → (evCall tbl n 37 [.ref 1, .ref 2, vi k] (sto (is.map .int) (hd p a r d) S ext)).p Q X := by
  induction D with
  | zero => exact p_step hl 0 fun E c => absurd c (Nat.succ_ne_zero _).symm
  | succ D ih => exact p_step hl (D + 1) fun E c => by cases Nat.succ.inj c; exact ih
end
end
end Mine

end
section
set_option maxRecDepth 100000
set_option autoImplicit false

open PySem PySem.W PySem.Calls PyProof.Rows PySem.Challenge
namespace Mine
/-! the head: the top's run, computed -/
noncomputable def topRunT (tb : String → Option Builtin) (p : Program) (w : World) (n₀ : Nat) (ann : Option Value) : Nat → SharedT → Thread → Option SharedT
  | 0, _, _ => none
  | n + 1, s, t => match through t with
    | true => some s
    | false => match stepOk n₀ ann t with
      | false => none
      | true => match stepT (denote tb) p w s t with
        | some r => topRunT tb p w n₀ ann n r.1 r.2
        | none => none
theorem topRun_of {tb : String → Option Builtin} {p : Program} {w : World} {n₀ : Nat} {ann : Option Value} : ∀ {n : Nat} {s s' : SharedT} {t : Thread}, topRunT tb p w n₀ ann n s t = some s' → topRun tb p w n₀ ann n s.abs t = some s'.abs
  | 0, _, _, _, h => by cases h
  | n + 1, s, s', t, h => by
    unfold topRunT at h
    unfold topRun
    cases ht : through t with
    | true => rw [ht] at h; cases h; rfl
    | false =>
      rw [ht] at h
      cases hk : stepOk n₀ ann t with
      | false => rw [hk] at h; cases h
      | true =>
        rw [hk] at h
        cases hs : stepT (denote tb) p w s t with
        | none => rw [hs] at h; cases h
        | some r => rw [hs] at h; rw [stepT_spec hs]; exact topRun_of h
noncomputable def T0 (P : Params) : BT :=
  (.node (boot_o_0 P) (.node (boot_o_1 P) (.node (boot_o_3 P) (.node (boot_o_7 P) .nil .nil) .nil) (.node (boot_o_5 P) (.node (boot_o_9 P) .nil .nil) .nil))
   (.node (boot_o_2 P) (.node (boot_o_4 P) (.node (boot_o_8 P) .nil .nil) .nil) (.node (boot_o_6 P) (.node (boot_o_10 P) .nil .nil) .nil)))
noncomputable def S0 (w : World) (os : OsState) : SharedT := ⟨T0 w.params, 11, (boot_heap w.params).life, Array.mk [], boot_drawn, boot_toks, os⟩
theorem s0_abs : ∀ (w : World) (os : OsState), (S0 w os).abs = ⟨boot_heap w.params, Array.mk [], boot_drawn, boot_toks, os⟩ := by intro w os; kernel_rfl
theorem s0_size : ∀ (w : World), ((boot_heap w.params).isNs mainGlobals, (boot_heap w.params).objs.size, (boot_heap w.params).nsMap mainGlobals "__annotations__") = (true, 11, some (.ref 6)) := by intro w; kernel_rfl
noncomputable abbrev headN : Nat := 2800
theorem law_opening : opening pw_no0166_01 = plainProg pw_no0166_01.main.scope.names := by kernel_rfl
theorem law_fence : ∀ s, fenceModules? pw_no0166_01 s = some s := by intro s; kernel_rfl
theorem topFrom_of {tb : String → Option Builtin} {p : Program} {w : World} {N : Nat} {s₀ s₁ : Shared} (h1 : (s₀.heap.isNs mainGlobals && s₀.gens.size == 0) = true)
    (h2 : topRun tb p w s₀.heap.objs.size (s₀.heap.nsMap mainGlobals "__annotations__") N s₀ (topStub p) = some s₁)
    (h3 : (staticsOk (importedModules p.main.body) s₀.heap s₁.heap && namesBound p s₁.heap && gensDone s₁ && laidKept s₀.heap s₁.heap) = true) : topFrom tb p w N s₀ = some s₁ := by
  unfold topFrom
  rw [h1]
  dsimp only
  rw [h2, Option.bind_some]
  rw [h3]
theorem openEnds_of {p : Program} {w : World} {N : Nat} {s₀ s₁ : Shared} {β : Type} {f : Shared → β} {b : β} (h1 : fencedOpening treeTable p w N = some s₀) (h2 : topFrom treeTable p w N s₀ = some s₁) (h3 : f s₁ = b) : (openEnds treeTable p w N).map f = some b := by
  unfold openEnds
  rw [h1, Option.bind_some, h2, Option.map_some, h3]
/-- what is looked at behind the top -/
noncomputable def headLooks {α : Type} (q : Program) (loose : List Str) (Xt : Shared → Bool) (Yf : Shared → α) (w : World) (s : Shared) :=
  (staticsOk (importedModules pw_no0166_01.main.body) (boot_heap w.params) s.heap && namesBound pw_no0166_01 s.heap && gensDone s && laidKept (boot_heap w.params) s.heap,
   openSeen q loose (importedModules pw_no0166_01.main.body) Xt true s, Yf s)
theorem left_of {q : Program} {loose : List Str} {Xt : Shared → Bool} {α : Type} {Yf : Shared → α} {Ya : World → α}
    (run : ∀ (w : World) (os : OsState), (topRunT treeTable pw_no0166_01 w 11 (some (.ref 6)) headN (S0 w os) (topStub pw_no0166_01)).map (fun t => headLooks q loose Xt Yf w t.abs) = some (true, openGood q loose, Ya w)) :
    LeftO pw_no0166_01 q loose Xt Yf Ya headN := fun w => by
  obtain ⟨⟨h, gs, d, k, os⟩, e, e'⟩ := Option.map_eq_some_iff.mp (boot_open (N := headN) law_opening (by decide +kernel) law_fence w)
  obtain ⟨rfl, rfl, rfl, rfl⟩ : h = boot_heap w.params ∧ gs = Array.mk [] ∧ d = boot_drawn ∧ k = boot_toks := by simpa using e'
  obtain ⟨t, ht, hl⟩ := Option.map_eq_some_iff.mp (run w os)
  unfold headLooks at hl
  obtain ⟨l1, l2, l3⟩ : _ ∧ _ ∧ _ := by simpa only [Prod.mk.injEq] using hl
  obtain ⟨z1, z2, z3⟩ : _ ∧ _ ∧ _ := by simpa only [Prod.mk.injEq] using s0_size w
  have r := topRun_of ht
  rw [s0_abs] at r
  have tf := topFrom_of (tb := treeTable) (p := pw_no0166_01) (w := w) (N := headN) (s₀ := ⟨boot_heap w.params, Array.mk [], boot_drawn, boot_toks, os⟩) (s₁ := t.abs) (by rw [z1]; rfl) (by rw [z2, z3]; exact r) l1
  exact openEnds_of e tf (Prod.ext l2 l3)
noncomputable def lawQ : Program := view pw_no0166_01 [56]
noncomputable def lawLoose : List Str := pw_no0166_01.boundNames.filter fun n => !startupNames.contains n && n != ("law" : Str)
end Mine

end
section
set_option maxRecDepth 100000
set_option autoImplicit false
set_option genInjectivity false
set_option genSizeOf false
open PySem PySem.W PySem.Calls PyProof.Rows PyProof.V PySem.Spec PySem.Challenge
namespace Mine
noncomputable section
/-! the law's own text -/
noncomputable def lawStmt : Option Stmt := pw_no0166_01.main.body[56]?
noncomputable def lawBody : List Stmt := match lawStmt with
  | some (.FunctionDef _ _ b _ _ _ _ _ _ _) => b
  | _ => []
noncomputable def lawArgs : Arguments := match lawStmt with
  | some (.FunctionDef _ a _ _ _ _ _ _ _ _) => a
  | _ => default
noncomputable def lawScope : Scope := match lawStmt with
  | some (.FunctionDef _ _ _ _ _ _ s _ _ _) => s
  | _ => default
noncomputable def lawMid : List Stmt := (lawBody.drop 1).take 5
noncomputable def lawTry : List Stmt := match (lawBody[6]? : Option Stmt) with
  | some (.Try b _ _ _ _) => b
  | _ => []
noncomputable def lawE : Expr := match lawTry with
  | [.Assign _ e _] => e
  | _ => default
noncomputable def lawR : Expr := match (lawBody[7]? : Option Stmt) with
  | some (.Return (some e) _) => e
  | _ => default
noncomputable abbrev pp (a b c d : Nat) : Pos := ⟨a, b, c, d⟩
theorem law_body : lawBody = .Assign [.Name "cells" (pp 391 4 391 9)] (.Subscript (.Name "script" (pp 391 12 391 18)) (.Slice none (some (.Constant (.int 63) 0 (pp 391 20 391 22))) none (pp 391 19 391 22)) (pp 391 12 391 23)) (pp 391 4 391 23) :: (lawMid ++
      [.Try [.Assign [.Name "told" (pp 398 8 398 12)] lawE (pp 398 8 398 55)] [.ExceptHandler (some (.Name "PrologError" (pp 399 11 399 22))) (some "error") [.Assign [.Name "told" (pp 400 8 400 12)] (.Tuple [.Constant (.bool false) 0 (pp 400 16 400 21), .Attribute (.Name "error" (pp 400 23 400 28)) "ball" (pp 400 23 400 33)] 0 (pp 400 15 400 34)) (pp 400 8 400 34)] (pp 399 4 400 34)] [] [] (pp 397 4 400 34),
       .Return (some lawR) (pp 401 4 401 58)]) := by kernel_rfl
noncomputable def lawNs : List Str := ["script", "cells", "hand", "names", "most", "tree", "due", "told", "error"]
noncomputable def esOf : List E → Es
  | [] => .nil
  | e :: r => .cons e (esOf r)
/-- the law's statements in the machine -/
noncomputable def lawTs : Ss :=
  .cons (.assign 2 (.list (esOf [.var 1, .int 0, .int 0, .bin .mul (.bin .mod (.sumOf (.var 1)) (.int 100003)) (.int 7), .int 8])))
  (.cons (.assign 3 .newSym) (.cons (.assign 4 (.bin .add (.int 8) (.call 35 (esOf [.var 2, .int 120]))))
  (.cons (.assign 5 (.call 37 (esOf [.var 2, .var 3, .int 4]))) (.cons (.assign 6 (.call 45 (esOf [.var 3, .var 5, .var 4]))) .nil))))
noncomputable def lawTE : E := .tuple (esOf [.bool true, .call 34 (esOf [.var 3, .var 5, .var 4])])
noncomputable def lawTR : E := .and (.eqTold (.var 7) (.var 6)) (.not (.isBool (.idx (.var 7) (.int 1))))
/-! what is known of the heap -/
noncomputable def kAddrs : List Nat := [3, 154, 153, 51, 50, 31, 30, 48, 47, 222, 223, 343, 344, 424, 423] ++ addrL ++ addrL.map (· - 1)
noncomputable def kofH (h : Heap) : Frag := kAddrs.filterMap fun a => (h.get? a).map fun o => (a, o)
theorem kof_in {h : Heap} : ∀ (l : List Nat), Frag.In (l.filterMap fun a => (h.get? a).map fun o => (a, o)) h
  | [], a, o, e => by cases e
  | b :: l, a, o, e => by
    rw [List.filterMap_cons] at e
    cases hb : h.get? b with
    | none => rw [hb] at e; exact kof_in l a o e
    | some ob =>
      rw [hb] at e
      change (((b, ob) :: _ : Frag).lookup a) = some o at e
      rw [List.lookup_cons] at e
      split at e
      · rename_i q
        cases e
        rw [beq_iff_eq.mp q]; exact hb
      · exact kof_in l a o e
noncomputable def obj51 : Obj := excClassObj "PrologError" "PrologError" 51 50 [.ref 31] (.ref 31 :: bmE) true [] [] false none none (some (.ref 35)) none (some (.str "PrologError" 216)) (some (.str "PrologError" 224)) (some (.bool true)) "Exception.__new__"
noncomputable def initArgs : List Arg := [⟨"self", none, pp 9 17 9 21⟩, ⟨"ball", none, pp 9 23 9 27⟩]
noncomputable def initScope : Scope := { kind := .function, names := [("self", .local), ("ball", .local)], isGenerator := false, isCoroutine := false, more := [] }
noncomputable def obj48 : Obj := ⟨.type "function", none, .func (fnOf "__init__" "PrologError.__init__" ⟨[], initArgs, none, [], [], none, []⟩
  [.Assign [.Attribute (.Name "self" (pp 10 8 10 12)) "ball" (pp 10 8 10 17)] (.Name "ball" (pp 10 20 10 24)) (pp 10 8 10 24)] initScope .none .none .none (.str "clausemill.symbols" 194) none (.ref 47) .none), #[]⟩
noncomputable def ckExn (K : Frag) : Bool := keepIn K (.ref cCP) && nsOkIn K 50 && nsIn K 50 "__init__" == some (some (.ref 48)) && tailIn K bmE (.ref 31 :: bmE) && findIn K (.ref cCP) "__setattr__" == some (some (.builtin "object.__setattr__")) && takerIn K cCP "ball" == some none &&
  codeIn K (.ref 47) "PrologError.__init__" && findIn K (.ref cCP) "__getattribute__" == some (some (.builtin "BaseException.__getattribute__")) && findIn K (.ref cCP) "__getattr__" == some none && findIn K (.ref cCP) "ball" == some none
structure LawOk (K : Frag) : Prop where
  fns : ∀ φ : Fix, φ.K = K → φ.addr = addrOf → ∀ (i : Nat) (p : Fn × List Str), fnsL[i]? = some p → Nonempty (FnOk φ i p.1)
  globs : ∀ x d v, globL.lookup x = some d → nsIn K mainGlobals x = some (some v) → DatV v d
  gs : ∀ x d v, gsL.lookup x = some d → nsIn K mainGlobals x = some (some v) → GsOk K d v
  sym : ckSym K (addrOf 2) = true
  exn : ckExn K = true
  mid : GoodSs K lawScope lawNs lawMid lawTs
  te : Good K lawScope lawNs lawE lawTE
  re : Good K lawScope lawNs lawR lawTR
  err : ckGl K lawScope "PrologError" (.ref cCP) = true
noncomputable def ckAll (K : Frag) : Option (PLift (LawOk K)) :=
  (ckFns K 0 fnsL).bind fun a => (ckGlobs K globL).bind fun b => (ckGsL K gsL).bind fun c => (chk _).bind fun d => (chk _).bind fun e => (ckSs K lawScope lawNs lawTs lawMid).bind fun f => (ckE K lawTE lawScope lawNs lawE).bind fun g => (ckE K lawTR lawScope lawNs lawR).bind fun h => (chk _).bind fun i =>
    some ⟨⟨fun φ hk ha i p hp => by have := a.down φ hk ha i p hp; rwa [Nat.zero_add] at this, b.down, c.down, d.down, e.down, f.down, g.down, h.down, i.down⟩⟩
/-- what is observed at the head -/
noncomputable def lawObs (s : Shared) : Bool × Option Obj × Option Obj := let K := kofH s.heap; ((ckAll K).isSome, K.lookup 51, K.lookup 48)
noncomputable def LawY (_ : World) (h : Heap) : Prop := ∃ K : Frag, K.In h ∧ LawOk K ∧ K.lookup 51 = some obj51 ∧ K.lookup 48 = some obj48
theorem lawY_of (w : World) (s : Shared) (h : lawObs s = (true, some obj51, some obj48)) : LawY w s.heap := by
  unfold lawObs at h
  obtain ⟨h1, h2, h3⟩ : _ ∧ _ ∧ _ := by simpa only [Prod.mk.injEq] using h
  obtain ⟨x, _⟩ := Option.isSome_iff_exists.mp h1
  exact ⟨_, kof_in _, x.down, h2, h3⟩
theorem lawY_keeps (w : World) (h h' : Heap) : LawY w h → (∀ b o, h.get? b = some o → h'.get? b = some o) → LawY w h'
  | ⟨K, a, b⟩, k => ⟨K, a.keeps k, b⟩
end
end Mine

end
section
set_option maxRecDepth 100000
set_option autoImplicit false
set_option genInjectivity false
set_option genSizeOf false
open PySem PySem.W
namespace Mine
noncomputable section
/-! every error said is shallow -/
noncomputable def EK (e : Er) : Prop := ∀ S, kqdOk 8 (ballD (formD S e)) = true
noncomputable def OK' (o : Out) : Prop := ∀ e, o = .error e → EK e
theorem ek_er {e : Er} (h : EK e) : OK' (.error e) := fun _ q => by cases q; exact h
theorem ek_ok {z : Int} : OK' (.ok z) := fun _ q => by cases q
theorem ek_if {c : Prop} [Decidable c] {a b : Out} (ha : OK' a) (hb : OK' b) : OK' (if c then a else b) := by split <;> assumption
theorem ek_inst : EK .inst := fun S => by kernel_rfl
theorem ek_ne {a k : Int} : EK (neEr a k) := fun S => by kernel_rfl
theorem ek_res : EK resEr := fun S => by kernel_rfl
theorem ek_zero : EK zeroEr := fun S => by kernel_rfl
theorem ek_fl {a : Int} : EK (flEr a) := fun S => by kernel_rfl
theorem ek_msb {x : Int} : EK (.g "type_error" "not_less_than_one" 2 [.tuple [.str "i", .int x]]) := fun S => by kernel_rfl
theorem ek_size {m : Nat} {o : Out} (h : OK' o) : OK' (size m o) := by
  cases o with
  | ok z => exact ek_if (ek_er ek_res) ek_ok
  | error e => exact h
theorem ek_un {t : Str} {x : Int} : OK' (un t x) := by
  unfold un
  repeat' first | exact ek_ok | exact ek_er ek_msb | apply ek_if
theorem ek_bs {t : Str} {a b : Int} {m : Nat} : OK' (bs t a b m) := by
  unfold bs dv bt pw
  repeat' first | exact ek_size ek_ok | exact ek_er ek_zero | exact ek_er ek_fl | apply ek_if
theorem ek_bind {o : Out} {f : Int → Out} (h : OK' o) (hf : ∀ z, OK' (f z)) : OK' (obind o f) := by
  cases o with
  | ok z => exact hf z
  | error e => exact fun e' q => h e' (by cases q; rfl)
theorem ek_ev {S : Sy} {m : Nat} : ∀ t : Tr, OK' (ev S m t)
  | .v _ => ek_er ek_inst
  | .a _ => ek_er ek_ne
  | .i _ => ek_ok
  | .u _ t => ek_if (ek_bind (ek_ev t) fun _ => ek_size ek_un) (ek_er ek_ne)
  | .b _ t r => ek_if (ek_bind (ek_ev t) fun _ => ek_bind (ek_ev r) fun _ => ek_bs) (ek_er ek_ne)
theorem tsz_ht : ∀ t : Tr, tsz t + 2 ≤ 3 * 2 ^ ht t
  | .v _ => Nat.le_refl _
  | .a _ => Nat.le_refl _
  | .i _ => Nat.le_refl _
  | .u _ t => by
    have := tsz_ht t
    have : 1 ≤ 2 ^ ht t := Nat.one_le_two_pow
    show tsz t + 2 + 2 ≤ 3 * 2 ^ (ht t + 1)
    rw [Nat.pow_succ]; omega
  | .b _ t r => by
    have h1 := tsz_ht t
    have h2 := tsz_ht r
    have h3 : 2 ^ ht t ≤ 2 ^ max (ht t) (ht r) := Nat.pow_le_pow_right (by decide) (Nat.le_max_left _ _)
    have h4 : 2 ^ ht r ≤ 2 ^ max (ht t) (ht r) := Nat.pow_le_pow_right (by decide) (Nat.le_max_right _ _)
    show tsz t + tsz r + 2 + 2 ≤ 3 * 2 ^ (max (ht t) (ht r) + 1)
    rw [Nat.pow_succ]; omega
theorem ints_is : ∀ is : List Int, intsD (is.map .int) = some is
  | [] => rfl
  | i :: is => by show (intsD (is.map .int)).map (i :: ·) = _; rw [ints_is is]; rfl
theorem p_ok {α : Type} {r : Rs α} {a : α} (h : r.p (fun v _ => v = a) (fun _ => False)) : ∃ Λ, r = .ok a Λ := by
  cases r with
  | ok v Λ => cases h; exact ⟨Λ, rfl⟩
  | err d => exact h.elim
  | bad => exact h.elim
theorem p_er {α : Type} {r : Rs α} {e : Dat} (h : r.p (fun _ _ => False) (fun d => d = e)) : r = .err e := by
  cases r with
  | ok v Λ => exact h.elim
  | err d => cases h; rfl
  | bad => exact h.elim
theorem dat_eq (d : Dat) : datEq d d = true := @decide_eq_true _ (Classical.propDecidable _) rfl
/-- the last lines: told is what was worked out -/
theorem re_ok {cl : Nat → List V → Hp → Rs V} {a0 a1 a2 a3 a4 a5 a8 : V} {Λ : Hp} {b : Bool} {d : Dat} (hk : kqdOk 8 d = true) (hb : vIsBool (.dat d) = some (.dat (.bool false))) : ∃ Λ', evE tbl cl [a0, a1, a2, a3, a4, a5, .dat (.tuple [.bool b, d]), .dat (.tuple [.bool b, d]), a8] lawTR Λ = .ok (.dat (.bool true)) Λ' := by
  refine p_ok (wE_ok lawTR ?_)
  refine wO_ifs (c := (kqdOk 8 d && kqdOk 8 d) = true) (by rw [hk]; rfl) ?_
  refine sel_t (b := b == b && datEq d d) (by rw [dat_eq]; cases b <;> rfl) ?_
  exact wO_eq hb rfl
end
end Mine

end
section
set_option maxRecDepth 100000
set_option autoImplicit false
set_option genInjectivity false
set_option genSizeOf false
open PySem PySem.W
namespace Mine
noncomputable section
section
variable {is : List Int}
/-- behind the law's own lines -/
noncomputable def LawN (ρ : Env) (Λ : Hp) : Prop := ∃ du, ρ[6]? = some (.dat du) ∧ 7 < ρ.length ∧
  ((∃ v Λ₂ Λ₃, evE tbl (evCall tbl 40) ρ lawTE Λ = .ok v Λ₂ ∧ evE tbl (evCall tbl 40) (ρ.set 7 v) lawTR Λ₂ = .ok (.dat (.bool true)) Λ₃) ∨
   (∃ d Λ₃, evE tbl (evCall tbl 40) ρ lawTE Λ = .err d ∧ evE tbl (evCall tbl 40) (((List.replicate 9 .bot).set 6 (.dat du)).set 7 (.dat (.tuple [.bool false, d]))) lawTR [] = .ok (.dat (.bool true)) Λ₃))
theorem law_end {l : List Dat} {h : Hd} {S : Sy} {t : Tr} {M : Int} (hs : S.sz < 600000) (hM : M ≤ 127) (h0 : 0 ≤ M) (w : WF S t) (hh : ht t ≤ 4) :
    LawN [.bot, .ref 0, .ref 1, .ref 2, vi M, .dat (enc t), .dat (resD S (ev S M.toNat t)), .bot, .bot] (sto l h (resS S (ev S M.toNat t)) []) := by
  have hz : tsz t ≤ 700 := by
    have := tsz_ht t
    have : 2 ^ ht t ≤ 2 ^ 4 := Nat.pow_le_pow_right (by decide) hh
    omega
  refine ⟨_, rfl, (by decide : 7 < 9), ?_⟩
  have ek := ek_ev (S := S) (m := M.toNat) t
  cases eo : ev S M.toNat t with
  | ok z =>
    left
    have h1 : (evE tbl (evCall tbl 40) [.bot, .ref 0, .ref 1, .ref 2, vi M, .dat (enc t), .dat (resD S (.ok z)), .bot, .bot] lawTE (sto l h S [])).p (fun v _ => v = .dat (.tuple [.bool true, .int z])) (fun _ => False) := by
      refine wE_ok lawTE ?_
      refine p_evaluate (n := 30) (S := S) (ext := []) (by first | exact Nat.lt_of_lt_of_le hs (by decide) | assumption | decide | omega) hM h0 w hz ?_
      rw [eo]
      exact rfl
    obtain ⟨Λ₂, h2⟩ := p_ok h1
    obtain ⟨Λ₃, h3⟩ := re_ok (cl := evCall tbl 40) (a0 := .bot) (a1 := .ref 0) (a2 := .ref 1) (a3 := .ref 2) (a4 := vi M) (a5 := .dat (enc t)) (a8 := .bot) (Λ := Λ₂) (b := true) (d := .int z) (by kernel_rfl) rfl
    exact ⟨_, _, _, h2, h3⟩
  | error e =>
    right
    have he := ek e eo
    have le := le_raise S e
    obtain ⟨w', e'⟩ := ev_keeps (m := M.toNat) le w
    have hsz : (raiseS S e).sz < 700000 := by
      cases e with
      | inst => have := szFn S "instantiation_error" 0; show (addFn S "instantiation_error" 0).sz < _; omega
      | g kind k n more => have := szA S k; have := szFn (addA S k) kind n; show (addFn (addA S k) kind n).sz < _; omega
    have h1 : (evE tbl (evCall tbl 40) [.bot, .ref 0, .ref 1, .ref 2, vi M, .dat (enc t), .dat (resD S (.error e)), .bot, .bot] lawTE (sto l h (raiseS S e) [])).p (fun _ _ => False) (fun d => d = ballD (formD S e)) := by
      refine wE_ok lawTE ?_
      refine p_evaluate (n := 30) (S := raiseS S e) (ext := []) hsz hM h0 w' hz ?_
      rw [e', eo]
      exact congrArg ballD (raise_again (Sy.Le.refl _))
    have h2 := p_er h1
    obtain ⟨Λ₃, h3⟩ := re_ok (cl := evCall tbl 40) (a0 := .bot) (a1 := .bot) (a2 := .bot) (a3 := .bot) (a4 := .bot) (a5 := .bot) (a8 := .bot) (Λ := []) (b := false) (d := ballD (formD S e)) (he S) rfl
    exact ⟨_, _, h2, h3⟩
theorem mid_walk {cl : Nat → List V → Hp → Rs V} {N : Env → Hp → Prop} {R : V → Hp → Prop} {X : Dat → Prop}
    (hi : ∀ rr : Int, cl 2 [.ref 2] (.dl (is.map .int) :: .vl [.ref 0, vi 0, vi 0, vi rr, vi 8] :: [.inst []]) = .ok (.dat .none) (sto (is.map .int) (hd 0 0 rr 8) sy0 []))
    (pk : ∀ (rr : Int) (Q : V → Hp → Prop), HK is 0 0 rr → (∀ p a r z, HK is p a r → 0 ≤ z → z < 120 → Q (vi z) (sto (is.map .int) (hd p a r 8) sy0 [])) → (cl 35 [.ref 1, vi 120] (sto (is.map .int) (hd 0 0 rr 8) sy0 [])).p Q X)
    (tr : ∀ (p a r : Int) (Q : V → Hp → Prop), HK is p a r → TreeQ is Q [] sy0 4 → (cl 37 [.ref 1, .ref 2, vi 4] (sto (is.map .int) (hd p a r 8) sy0 [])).p Q X)
    (vl : ∀ (h : Hd) (S : Sy) (t : Tr) (M : Int) (Q : V → Hp → Prop), S.sz < 600000 → M ≤ 127 → 1 ≤ M → WF S t → ht t ≤ 4 → Q (.dat (resD S (ev S M.toNat t))) (sto (is.map .int) h (resS S (ev S M.toNat t)) []) → (cl 45 [.ref 2, .dat (enc t), vi M] (sto (is.map .int) h S [])).p Q X)
    (hN : ∀ (h : Hd) (S : Sy) (t : Tr) (M : Int), S.sz < 600000 → M ≤ 127 → 1 ≤ M → WF S t → ht t ≤ 4 → N [.bot, .ref 0, .ref 1, .ref 2, vi M, .dat (enc t), .dat (resD S (ev S M.toNat t)), .bot, .bot] (sto (is.map .int) h (resS S (ev S M.toNat t)) [])) :
    wSs tbl cl R X lawTs ((List.replicate 9 .bot).set 1 (.ref 0)) [.dl (is.map .int)] N := by
  refine wO_eq (o := (intsD (is.map .int)).map fun is => vi is.sum) (a := vi is.sum) (by rw [ints_is]; rfl) ?_
  obtain ⟨f1, f2⟩ := fm_lt (lim := 100003) (x := is.sum) (by decide)
  refine wO_if (c := mulOk (is.sum.fmod 100003) 7 = true) (mul_ok (bd_1000 (by unfold Bd; omega)) (bd_1000 (by unfold Bd; decide))) ?_
  refine p_eq (hi (is.sum.fmod 100003 * 7)) ?_
  refine pk (is.sum.fmod 100003 * 7) _ ⟨by decide, Int.natCast_nonneg _, by decide, by omega, by omega⟩ fun p a r z hk z0 z1 => ?_
  have s0 : sy0.sz = 61 := by kernel_rfl
  refine tr p a r _ hk fun p a r d S t hk le sz w hh => ?_
  rw [s0] at sz
  refine vl (hd p a r d) S t (8 + z) _ (by first | exact Nat.lt_of_lt_of_le hs (by decide) | assumption | decide | omega) (by first | exact Nat.lt_of_lt_of_le hs (by decide) | assumption | decide | omega) (by first | exact Nat.lt_of_lt_of_le hs (by decide) | assumption | decide | omega) w hh ?_
  exact hN (hd p a r d) S t (8 + z) (by first | exact Nat.lt_of_lt_of_le hs (by decide) | assumption | decide | omega) (by first | exact Nat.lt_of_lt_of_le hs (by decide) | assumption | decide | omega) (by first | exact Nat.lt_of_lt_of_le hs (by decide) | assumption | decide | omega) w hh
theorem law_pure (hl : is.length ≤ 63) : LawPure tbl (evCall tbl 40) 9 1 6 7 lawTs lawTE lawTR is := by
  have key : (exSs tbl (evCall tbl 40) lawTs ((List.replicate 9 .bot).set 1 (.ref 0)) [.dl (is.map .int)]).p LawN (fun _ _ => False) (fun _ => False) := by
    refine wSs_ok lawTs (mid_walk (fun rr => init_eq 36 (is.map .int) (hd 0 0 rr 8)) (fun rr Q hk q => p_pick (n := 39) (S := sy0) (ext := []) hl (by decide) hk q)
      (fun p a r Q hk q => p_tree hl 4 40 4 p a r 8 sy0 Q _ [] (by decide) rfl (by rw [show sy0.sz = 61 by kernel_rfl]; decide) (Sy.Le.refl _) hk q)
      (fun h S t M Q h1 h2 h3 w hh q => p_value (S := S) (M := M) (by first | exact Nat.lt_of_lt_of_le hs (by decide) | assumption | decide | omega) h2 h3 t 40 Q _ [] w (by first | exact Nat.lt_of_lt_of_le hs (by decide) | assumption | decide | omega) q)
      (fun h S t M h1 h2 h3 w hh => law_end h1 h2 (by first | exact Nat.lt_of_lt_of_le hs (by decide) | assumption | decide | omega) w hh))
  cases eq : exSs tbl (evCall tbl 40) lawTs ((List.replicate 9 .bot).set 1 (.ref 0)) [.dl (is.map .int)] with
  | next ρ Λ =>
    rw [eq] at key
    obtain ⟨du, h1, h2, h3⟩ := key
    exact ⟨ρ, Λ, du, eq, h1, h2, h3⟩
  | ret v Λ => rw [eq] at key; exact key.elim
  | err d => rw [eq] at key; exact key.elim
  | bad => rw [eq] at key; exact key.elim
end
end
end Mine

end
section
set_option maxRecDepth 100000
set_option autoImplicit false
open PySem PySem.W PySem.Calls PyProof.Rows PySem.Challenge
namespace Mine
theorem head_run : ∀ (w : World) (os : OsState), (topRunT treeTable pw_no0166_01 w 11 (some (.ref 6)) headN (S0 w os) (topStub pw_no0166_01)).map (fun t => headLooks lawQ lawLoose (fun s => recOk [] s) lawObs w t.abs) = some (true, openGood lawQ lawLoose, (true, some obj51, some obj48)) := by intro w os; kernel_rfl
theorem law_left : LeftO pw_no0166_01 lawQ lawLoose (fun s => recOk [] s) lawObs (fun _ => (true, some obj51, some obj48)) headN := left_of head_run
end Mine

end
section
set_option maxRecDepth 100000
set_option autoImplicit false
set_option genInjectivity false
set_option genSizeOf false
open PySem PySem.W PySem.Calls PyProof.Rows PyProof.V PySem.Spec PySem.Challenge
namespace Mine
noncomputable def lawPos : Pos := match lawStmt with
  | some (.FunctionDef _ _ _ _ _ _ _ _ _ p) => p
  | _ => default
noncomputable def lawD : DefRec := ⟨"law", lawArgs, lawBody, lawScope, lawPos⟩
/-- the machine's fuel -/
noncomputable abbrev fuel : Nat := 40
theorem law_args : lawArgs = ⟨[], [⟨"script", none, pp 390 8 390 14⟩], none, [], [], none, []⟩ := by kernel_rfl
theorem law_scope : (lawScope.kind = .function ∧ lawScope.isCoroutine = false ∧ lawScope.isGenerator = false) ∧ (lawScope.names.all fun x => !(x.2 == .cell)) = true ∧ (lawNs.all fun x => lawScope.names.lookup x == some .local) = true := ⟨⟨by kernel_rfl, by kernel_rfl, by kernel_rfl⟩, by kernel_rfl, by kernel_rfl⟩
theorem law_plain : plainVal lawE = true := by kernel_rfl
theorem seer_ok : importsNone lawQ = true := by kernel_rfl
/-- the law's context -/
noncomputable abbrev lawC (h : Heap) (a : Addr) (cd : Value) : Ctx := ⟨2 + claimMargin, 7, some [], envOf "law" lawScope h.objs.size a cd, [], callerA, h, h, h.objs.size⟩
theorem exn_of {φ : Fix} {K : Frag} (hk : φ.K = K) (hc : φ.CP = cCP) (c : ckExn K = true) (h51 : K.lookup 51 = some obj51) (h48 : K.lookup 48 = some obj48) : Nonempty (ExnIs φ) ∧ BallIs φ := by
  subst hk
  simp only [ckExn, Bool.and_eq_true, beq_iff_eq] at c
  obtain ⟨⟨⟨⟨⟨⟨⟨⟨⟨c1, c2⟩, c3⟩, c4⟩, c5⟩, c6⟩, c7⟩, c8⟩, c9⟩, c10⟩ := c
  rw [← hc] at c1 c5 c6 c8 c9 c10
  refine ⟨⟨⟨c1, "PrologError", "PrologError", 50, [.ref 31], 31, [], [], false, none, none, some (.ref 35), none, some (.str "PrologError" 216), some (.str "PrologError" 224), some (.bool true), by rw [hc]; exact h51, c2, 48, c3, c4, c5, c6,
    "__init__", "PrologError.__init__", ⟨[], initArgs, none, [], [], none, []⟩, initScope, .none, .none, .none, .str "clausemill.symbols" 194, .ref 47, .none, none, none, #[], pp 10 8 10 12, pp 10 8 10 17, pp 10 20 10 24, pp 10 8 10 24, h48, c7,
    fun s a b => BindsTo.of_eq (bind_plain (ns := ["self", "ball"]) (vs := [a, b]) (by decide) rfl rfl), rfl, rfl, by decide, rfl, rfl, rfl⟩⟩, c8, c9, c10⟩
theorem tabs_of {φ : Fix} {K : Frag} (hk : φ.K = K) (L : LawOk K) : TabsOk φ tbl := by
  subst hk
  exact ⟨fun x d v h1 h2 => L.globs x d v h1 h2, fun x l v h1 h2 => L.gs x l v h1 h2⟩
theorem law_slots {i : Nat} {v : V} (h2 : (List.replicate lawNs.length Mine.V.bot)[i]? = some v) (h3 : v ≠ .bot) : False := by
  rw [List.getElem?_replicate] at h2
  split at h2
  · cases h2; exact h3 rfl
  · cases h2
theorem no_cell : ∀ {l : List (Str × NameKind)}, (l.all fun x => !(x.2 == .cell)) = true → ∀ y, l.lookup y ≠ some .cell
  | [], _, _, e => by cases e
  | (n, k) :: l, h, y, e => by
    rw [List.all_cons, Bool.and_eq_true] at h
    rw [List.lookup_cons] at e
    split at e
    · cases e; simp at h
    · exact no_cell h.2 y e
theorem law_walk (hp : ∀ is : List Int, is.length ≤ 63 → LawPure tbl (evCall tbl fuel) 9 1 6 7 lawTs lawTE lawTR is) : WalkO lawQ lawLoose (fun _ _ => True) LawY rw_no0166_01.row.toRowW lawD [] (fun f vs => PySem.call f vs) := by
  intro w s₀ s₁ mg mb G Y a o pm cd doc dV kV ho hd hcd hD hmg hg args vals as hpre hlay hrd hwl hlo
  refine Ground.open G ?_
  intro T B D TE TW
  clear B D TE TW
  wrow_args hpre hlay hrd hwl hlo
  rename_i is _ _ _ _ _ _ _ l vs _ hL _ _ _ hI _ hc63 _
  have hlen : is.length ≤ 63 := by omega
  obtain ⟨K, KX, LO, k51, k48⟩ := Y
  have he := Dflts.none hD (by show lawArgs.defaults = []; rw [law_args])
  subst he
  have hd' : o.data = .func { docDef "law" ⟨[], [⟨"script", none, pp 390 8 390 14⟩], none, [], [], none, []⟩ lawBody lawScope pm cd doc with defaults := .none, kwdefaults := kV } := by rw [← law_args]; exact hd
  clear hd hD hmg
  obtain ⟨⟨sk, sco, sge⟩, scell, sloc⟩ := law_scope
  have loc : ∀ x ∈ lawNs, lawScope.names.lookup x = some .local := fun x hx => beq_iff_eq.mp (List.all_eq_true.mp sloc x hx)
  refine enter_call (codeAny_mono ?_ (fun _ _ g => GoodW.toG g))
  refine call_fullW (name := "law") (by decide) ho hd' (Top.nolimit T) hcd (BindsTo.of_eq (bind_plain (ns := ["script"]) (vs := [.ref l]) (by decide) rfl rfl)) (fun x hx => ?_) (fun h₁ F => ?_) sco sge sk (fun x hx q => ?_)
  · rw [List.mem_singleton.mp hx]; exact loc _ (.head _)
  · let φ : Fix := ⟨pw_no0166_01, w, K, lawQ, looseW lawQ lawLoose, ExcName.means s₀.heap, mg, mb, addrOf, cCS, cCP⟩
    let c : Ctx := lawC s₁.heap a cd
    have tabs : TabsOk φ tbl := tabs_of rfl LO
    have sym : SymIs φ tbl.init := ckSym_ok rfl rfl rfl LO.sym
    obtain ⟨⟨xi⟩, bi⟩ := exn_of (φ := φ) rfl rfl LO.exn k51 k48
    have sC : SoundC φ fuel (evCall tbl fuel) := sound_call rfl rfl rfl tabs sym xi (fun f F hF => by
      obtain ⟨p, hp1, rfl⟩ := Option.map_eq_some_iff.mp hF
      exact LO.fns φ rfl rfl f p hp1) fuel
    have A : Ax φ tbl fuel (evCall tbl fuel) K := ⟨rfl, rfl, rfl, rfl, tabs, sC, sym, xi⟩
    have ok : c.Ok φ := ⟨below_caller _, KX, T, rfl, sk, Top.seer T seer_ok, rfl, sge, sco, rfl, rfl⟩
    have st : St φ c [] [] [] (fun x => [(("script" : Str), Value.ref l)].reverse.lookup x) h₁ := ⟨[], F, News.nil, rfl, fun i r cell h => by simp at h, rfl, List.nodup_nil, fun p hp => by cases hp⟩
    have se : SE φ fuel c lawScope lawNs (fun x => [(("script" : Str), Value.ref l)].reverse.lookup x) (List.replicate lawNs.length .bot) [] [] :=
      ⟨⟨ok, rfl, sk, rfl, rfl, .inl ⟨rfl, rfl⟩, fun i x V _ _ h2 h3 => (law_slots h2 h3).elim, fun y hy => absurd hy (no_cell scell y), by show 2 + claimMargin + 5 * 40 + 110 < recursionLimit; decide, by show 7 + 20 * 40 + 100 < cLine; decide⟩, rfl, by decide +kernel, by unfold interactive; rw [show c.fenv.scope = lawScope from rfl, sk]; rfl⟩
    have tm := LO.mid A
    have tE := LO.te
    have tR := LO.re
    have gP : GlIs φ lawScope "PrologError" (.ref φ.CP) := A.gl LO.err
    rw [law_body]
    refine law_run (φ := φ) (tb := tbl) (n := fuel) (cl := evCall tbl fuel) (c := c) (ns := lawNs) (sc := lawScope) (te := lawTE) (re := lawTR) (ts := lawTs) (ic := 1) (iu := 6) (it := 7) (is := is) (S := "script") (u := "due") xi bi se st rfl ⟨_, F.keep _ _ hL.choose_spec.1, hL.choose_spec.2⟩ hI hlen ?_ rfl (by decide +kernel) rfl (loc _ (by decide +kernel)) rfl (loc _ (by decide +kernel)) rfl (loc _ (by decide +kernel)) (loc _ (by decide +kernel)) (by decide +kernel) (by decide +kernel) (by decide +kernel) (by decide +kernel) gP (fun _ => rfl) (fun _ => (plainVal_ok law_plain).1 _ _ _) (fun _ => rfl) tm ⟨tE.1, (tE.2 A).1⟩ ⟨tR.1, (tR.2 A).1⟩ (hp is hlen) ?_
    · exact loc _ (.head _)
    · intro mf' h' tk F'
      refine goodW_bool F' hg (fun _ => rfl) ?_
      kernel_rfl
  · have := List.all_eq_true.mp scell x hx
    simp only [Bool.not_eq_true', beq_eq_false_iff_ne] at this
    exact this q
end Mine

end
section
set_option maxRecDepth 100000
set_option autoImplicit false
open PySem PySem.W PySem.Calls PyProof.Rows PyProof.V PySem.Spec PySem.Challenge
namespace Mine
theorem law_def : defOf lawQ rw_no0166_01.row.name = some (lawD, []) := by kernel_rfl
theorem law_theDef : rw_no0166_01.row.prog.theDef rw_no0166_01.row.name = some (lawArgs, lawBody, lawScope) := by kernel_rfl
theorem law_said : rw_no0166_01.wellSaid = true := by decide +kernel
theorem law_holds_of (hp : ∀ is : List Int, is.length ≤ 63 → LawPure tbl (evCall tbl fuel) 9 1 6 7 lawTs lawTE lawTR is) : rw_no0166_01.Holds :=
  holds_law law_said fun said => holds_open (q := lawQ) (loose := lawLoose) (Xt := fun s => recOk [] s) (XP := fun _ _ => True) (Yf := lawObs) (Ya := fun _ => (true, some obj51, some obj48)) (YP := LawY) (N := headN) (d := lawD) (kwd := []) law_left
    lawY_of lawY_keeps (fun _ _ => trivial) (fun _ _ _ _ _ => trivial) law_def law_theDef (by kernel_rfl) (fun s e => recFacts_of e) (by kernel_rfl) said (by decide +kernel) ⟨rfl, rfl, rfl, rfl, rfl, by decide +kernel⟩ (by w_witness2) (law_walk hp)
end Mine

end
section
set_option maxRecDepth 100000
theorem PySem.Challenge.cw_no0166_01_holds : PySem.Challenge.rw_no0166_01.Holds :=
  Mine.law_holds_of fun _ h => Mine.law_pure h

end