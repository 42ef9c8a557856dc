import PyProof.Rows.All
import Wide.All
import OpenK.AllK
import Wide.FinOn
import HandS.TupMul
import HandS.ForMost
import HandS.Flow
import HandS.IsInst
import HandS.TupAny
import HandS.StrMore
import HandS.TupLe
import HandS.Style
import HandS.More
import HandS.ExcInit
import HandS.WordsExc
import HandS.Zip
import HandS.Comp
import HandS.TryOnly
import HandS.SetFor
import HandS.ListItems
import HandS.DictTup
import KE.SortData
import KE.DataFind
import HandS.Conv
import KE.KDictPairs
import KE.KDictCopyH
import HandS.SetKeys
import HandS.Walk
import PySem.Challenge.RW_pilesamples_k10_samples_that_come_back
set_option Elab.async false
set_option linter.all false
set_option autoImplicit false
set_option maxRecDepth 100000
set_option maxHeartbeats 4000000
namespace Pil
open PySem PySem.Spec PyProof.Rows L2
theorem tuple_mul1 (l : Addr) (items : Array Value) (n : Nat) (sl : Array (Option Value)) (dd : Option Addr) (u : Tok) :
    Meets (Builtin.«tuple.__mul__» ⟨[.ref l, .int 1 u], []⟩) (fun _ R s => s.heap.get? l = some { cls := .type "tuple", dict := dd, data := .seq items n, slots := sl } ∧ R (.ok (.ret (Value.ref l))) s) :=
  .of_wp fun prog w A R s h => by
    obtain ⟨hp, g, d, tk, os⟩ := s
    obtain ⟨hl, h⟩ := h
    have f1 := AutoSeq1.idx_int
    wp_walk using wpAny_loadPart' hl
    exact ⟨_, rfl, h⟩
def rRep1 (K : PySem.W.Frag) : R2 := fun x y H Q => ∃ l xs, x = .ref l ∧ y = .int 1 ∧ SqT K H l xs ∧ Q (.ref l) H
theorem op_rep1 {X : Cx} : OpR X (binaryOp .Mult) (rRep1 X.K) := by
  intro pins s σ H x y v u Q I rx ry h
  obtain ⟨l, xs, rfl, rfl, hT, q⟩ := h
  cases rx
  obtain ⟨t, rfl⟩ := ry
  obtain ⟨its, r, ⟨⟨cls, dd, data, sl⟩, ho, hc, n, hd⟩, hs⟩ := I.tuple hT
  simp only at hc hd
  subst hc hd
  refine wpAny_binaryOp_repeat_ref (T := "tuple") (U := "int") (by decide) ⟨_, ho, rfl⟩ (fun s' => typeIs_int s' 1 t) noFill_tuple_mul F.fills_int_mul F.slot_int_rmul repeat_tuple F.slot_int_index.lookup
    (call_meets F.slot_int_rmul (typeIs_int s 1 t) F.entry_int_rmul (F.args_int_rmul_2 _ _) (int_rmul_tuple 1 t l its.toArray n dd sl)
      ⟨ho, rfl, ⟨_, ho, rfl⟩, call_meets F.slot_tuple_mul ⟨_, ho, rfl⟩ F.entry_tuple_mul (F.args_tuple_mul_2 _ _) (tuple_mul1 l its.toArray n sl dd t) ⟨ho, ?_⟩⟩)
  exact ⟨.ref l, H, I, rfl, q⟩
end Pil

set_option Elab.async false
set_option linter.all false
/-! A small language with slots, its values (data; places in a store) and its run. -/
namespace Pil
open PySem

inductive SV where
  | d (x : PyData) | ref (l : Nat) | fn (g : Nat) | ext (ns : List Int)

inductive Ob where
  | lst (xs : List PyData) | dk (kvs : List (L2.Key × SV)) | dt (kvs : List (List L2.Key × SV)) | rcd (fs : List (Str × SV)) | ins (c : Nat) (fs : List (Str × SV)) | dead

abbrev Sto := List Ob
abbrev Rho := List (Option SV)

structure Exn where
  cls : Nat
  arg : Option PyData

inductive Out (α : Type) where
  | bad | ok (a : α) (m : Sto) | exc (x : Exn) (m : Sto)
def Out.bind {α β : Type} (x : Out α) (f : α → Sto → Out β) : Out β := match x with
  | .bad => .bad
  | .ok a m => f a m
  | .exc x m => .exc x m
def Out.nox {α : Type} : Out α → Out α
  | .exc _ _ => .bad
  | x => x
def Out.of {α : Type} (x : Option α) (m : Sto) : Out α := match x with
  | some a => .ok a m
  | none => .bad

inductive BO where | add | sub | mul | fdiv | mod | pow
inductive CO where | eq | ne | lt | le | gt | ge | is | isnot | isin | notin
/-- built-in functions and classes that are called -/
inductive BF where | len | int | str | list | tuple | sum | max | min | all | any | abs | repr | sorted
/-- methods of built-in classes -/
inductive MF where | append | pop | insert | lindex | sindex | join | startswith | lcount

inductive TK where | int | bool | str | tuple | list | dict
mutual
inductive Tg where
  | nm (i : Nat) | tp (ts : Tgs)
inductive Tgs where
  | nil | cons (t : Tg) (ts : Tgs)
end

mutual
inductive E where
  | var (i : Nat)
  | cst (c : Const)
  | gcs (x : Str) (c : Const)
  | bin (o : BO) (a b : E)
  | neg (a : E)
  | nt (a : E)
  | and2 (a b : E)
  | or2 (a b : E)
  | cmp (o : CO) (a b : E)
  | cmp2 (o p : CO) (a b c : E)
  | ite (c a b : E)
  | tup (es : Es)
  | lst (es : Es)
  | rcd (ks : List Str) (es : Es)
  | idx (a i : E)
  | slc (a : E) (lo hi : Eo)
  | rev (a : E)
  | box (e : E)
  | call (g : Nat) (es : Es)
  | blt (f : BF) (es : Es)
  | mth (m : MF) (o : E) (es : Es)
  | isi (a : E) (t : TK)
  | comp (own : List Nat) (t : Tg) (it : It) (c : Eo) (e : E)
  | ext (o e : E)
  | dnw (t : Bool)
  | dget (d k e : E)
  | dpop (d k e : E)
  | dsd (d k e : E)
  | din (neg : Bool) (k d : E)
  | dof (t : Bool) (e : E)
  | skd (e : E)
  | sid (e : E)
inductive Es where
  | nil | cons (e : E) (es : Es)
inductive Eo where
  | none | some (e : E)
inductive It where
  | seq (e : E) | rng1 (e : E) | rng2 (a b : E) | zip (a b : E) | enm (e : E) | itm (e : E) | key (e : E)
end

mutual
inductive S where
  | set (i : Nat) (e : E)
  | asg (t : Tg) (e : E)
  | par (i j : Nat) (a b : E)
  | sti (o i e : E)
  | expr (e : E)
  | iff (c : E) (a b : Ss)
  | for_ (t : Tg) (kill : List Nat) (it : It) (b : Ss)
  | whl (c : E) (kill : List Nat) (b : Ss)
  | ret (e : E)
  | pass
inductive Ss where
  | nil | cons (s : S) (ss : Ss)
end

/-! ### operations on data -/
def dOf : Const → PyData
  | .bool b => .bool b
  | .int i => .int i
  | .str x => .str x
  | _ => .none
def cutD {α : Type} (xs : List α) (lo hi : Option Int) : List α := (xs.drop (HT.sIx xs.length 0 lo)).take (HT.sIx xs.length xs.length hi - HT.sIx xs.length 0 lo)
def fitsN (n : Nat) : Bool := decide (n ≤ 16777216)
def small64 (i : Int) : Bool := decide (-(2 ^ 64) < i) && decide (i < 2 ^ 64)
def bop : BO → PyData → PyData → Option PyData
  | .add, .int i, .int j => some (.int (i + j))
  | .add, .str x, .str y => if fitsN (x.length + y.length) then some (.str (x ++ y)) else none
  | .add, .tuple xs, .tuple ys => if fitsN (xs.length + ys.length) then some (.tuple (xs ++ ys)) else none
  | .add, .list xs, .list ys => if fitsN (xs.length + ys.length) then some (.list (xs ++ ys)) else none
  | .sub, .int i, .int j => some (.int (i - j))
  | .mul, .int i, .int j => if small64 i || small64 j then some (.int (i * j)) else none
  | .mul, .tuple xs, .int k => if decide (1 ≤ k) && decide (k ≤ 1000) && decide (xs.length ≤ 1000) && !xs.isEmpty then some (.tuple (List.replicate k.toNat xs).flatten) else none
  | .fdiv, .int i, .int j => if decide (0 < j) && decide (j < 1073741824) then some (.int (i / j)) else none
  | .mod, .int i, .int j => if 0 < j then some (.int (i % j)) else none
  | .pow, .int i, .int j => if decide (0 ≤ j) && decide (j ≤ 1000) && decide (i.natAbs < 2 ^ 64) then some (.int (i ^ j.toNat)) else none
  | _, _, _ => none
def flatD : PyData → Bool
  | .none => true
  | .bool _ => true
  | .int _ => true
  | .str _ => true
  | _ => false
/-- == of flat things -/
def eqF : PyData → PyData → Bool
  | .none, .none => true
  | .bool a, .bool b => a == b
  | .bool a, .int j => (if a then 1 else 0) == j
  | .int i, .bool b => i == (if b then 1 else 0)
  | .int i, .int j => i == j
  | .str x, .str y => x == y
  | _, _ => false
def eqS : PyData → PyData → Option Bool
  | .str x, .str y => some (x == y)
  | .int i, .int j => some (i == j)
  | .bool a, .bool b => some (a == b)
  | _, _ => none
def eqD (a b : PyData) : Option Bool := match eqS a b with
  | some k => some k
  | none => if SeqAt.shaped a && SeqAt.shaped b then some (PyData.eqv a b) else none
def memD (x : PyData) (xs : List PyData) : Option Bool :=
  if flatD x && xs.all flatD then some (xs.any fun y => eqF y x) else none
def isNone : PyData → Bool
  | .none => true
  | _ => false
def isD : PyData → PyData → Option Bool
  | x, .none => some (isNone x)
  | .bool a, .bool b => some (a == b)
  | _, _ => none
def inD : PyData → PyData → Option Bool
  | .str i, .str j => some (!(Builtin.Str.occurrences j i 0 j.length 1).isEmpty)
  | x, .list xs => memD x xs
  | x, .tuple xs => memD x xs
  | _, _ => none
def cop : CO → PyData → PyData → Option Bool
  | .eq, a, b => eqD a b
  | .ne, a, b => (eqD a b).map not
  | .lt, .int i, .int j => some (decide (i < j))
  | .le, .int i, .int j => some (decide (i ≤ j))
  | .gt, .int i, .int j => some (decide (j < i))
  | .ge, .int i, .int j => some (decide (j ≤ i))
  | .lt, .str i, .str j => some (decide (i.cps.toList < j.cps.toList))
  | .is, a, b => isD a b
  | .isnot, a, b => (isD a b).map not
  | .isin, a, b => inD a b
  | .notin, a, b => (inD a b).map not
  | _, _, _ => none
def truD : PyData → Option Bool
  | .none => some false
  | .bool b => some b
  | .int i => some (i != 0)
  | .str y => if fitsN y.length then some ((y.length : Int) != 0) else none
  | .list xs => some (!xs.isEmpty)
  | .tuple xs => some (!xs.isEmpty)
  | .dict _ => none
def ixD : PyData → PyData → Option PyData
  | .list xs, .int i => L2.atI xs i
  | .tuple xs, .int i => L2.atI xs i
  | .str z, .int i => if fitsN z.length then (L2.atI z.cps.toList i).map fun c => .str ⟨#[c]⟩ else none
  | _, _ => none
def slD : PyData → Option Int → Option Int → Option PyData
  | .list xs, lo, hi => some (.list (cutD xs lo hi))
  | .tuple xs, lo, hi => some (.tuple (cutD xs lo hi))
  | .str z, lo, hi => if fitsN z.length then some (.str (L2.cutS z lo hi)) else none
  | _, _, _ => none
def asInts : List PyData → Option (List Int)
  | [] => some []
  | .int i :: r => (asInts r).map (i :: ·)
  | _ :: _ => none
def asBools : List PyData → Option (List Bool)
  | [] => some []
  | .bool i :: r => (asBools r).map (i :: ·)
  | _ :: _ => none
def asStrs : List PyData → Option (List Str)
  | [] => some []
  | .str i :: r => (asStrs r).map (i :: ·)
  | _ :: _ => none
/-- the places where a thing stands in a row -/
def indexD (xs : List PyData) (y : PyData) : Option Nat := if flatD y && xs.all flatD then (xs.findIdx? fun z => eqF z y) else none
def maxI (ns : List Int) : Option Int := match ns with
  | [] => none
  | n :: r => some (r.foldl max n)
def minI (ns : List Int) : Option Int := match ns with
  | [] => none
  | n :: r => some (r.foldl min n)
def dispD : PyData → Bool
  | .list _ => true
  | .tuple _ => true
  | _ => false
def tupNe : PyData → Bool
  | .tuple (_ :: _) => true
  | _ => false
def noTupD : PyData → Bool
  | .none => false
  | .tuple _ => false
  | _ => true
/-- rising, like things in their order -/
def sortD (xs : List PyData) : Option (List PyData) :=
  if xs.all (fun x => xs.all fun y => PySem.W.alike x y) && (xs.all tupNe || xs.all noTupD) && xs.all (fun x => decide (x.depth ≤ 40)) && fitsN xs.length then some (xs.mergeSort (PySem.W.dataLe false id)) else none
def bfn : BF → List PyData → Option PyData
  | .len, [.list xs] => some (.int xs.length)
  | .len, [.tuple xs] => some (.int xs.length)
  | .len, [.str z] => if fitsN z.length then some (.int z.length) else none
  | .int, [.int i] => some (.int i)
  | .int, [.bool k] => some (.int (if k then 1 else 0))
  | .str, [.int i] => if decide (i.natAbs.log2 < 1920) then some (.str (Str.ofString (toString i))) else none
  | .list, [.list xs] => some (.list xs)
  | .list, [.tuple xs] => some (.list xs)
  | .tuple, [.list xs] => some (.tuple xs)
  | .tuple, [.tuple xs] => some (.tuple xs)
  | .sum, [.list xs] => (asInts xs).map fun ns => .int ns.sum
  | .max, [.list xs] => (asInts xs).bind fun ns => (maxI ns).map .int
  | .min, [.list xs] => (asInts xs).bind fun ns => (minI ns).map .int
  | .max, [.int i, .int j] => some (.int (if j > i then j else i))
  | .min, [.int i, .int j] => some (.int (if j < i then j else i))
  | .all, [.list xs] => (asBools xs).map fun bs => .bool (bs.all id)
  | .any, [.list xs] => (asBools xs).map fun bs => .bool (bs.any id)
  | .abs, [.int i] => some (.int (if i < 0 then -i else i))
  | .repr, [d] => if d.showable && !d.hasDict && dispD d && decide (d.depth ≤ 60) && fitsN d.shown.length then some (.str d.shown) else none
  | .sorted, [.list xs] => (sortD xs).map .list
  | _, _ => none
/-- methods that change nothing -/
def mfn : MF → PyData → List PyData → Option PyData
  | .join, .str a, [.list xs] => (asStrs xs).bind fun ys => if fitsN ((ys.map (·.length)).sum + ys.length * a.length) then some (.str (Txt.join a ys)) else none
  | .startswith, .str a, [.str b] => some (.bool (Txt.startswith a b))
  | .lindex, .list xs, [y] => (indexD xs y).map fun (j : Nat) => .int (j : Int)
  | .sindex, .str a, [.str b] => (Txt.index0 a b).map fun (j : Nat) => .int (j : Int)
  | .lcount, .list xs, [y] => if flatD y && xs.all flatD then some (.int ((xs.countP fun z => PyData.eqv z y : Nat) : Int)) else none
  | _, _, _ => none
/-- methods that change a boxed list: the new list, the answer -/
def seqD : PyData → Option (List PyData)
  | .list xs => some xs
  | .tuple xs => some xs
  | _ => none
def mmu : MF → List PyData → List PyData → Option (List PyData × PyData)
  | .append, xs, [y] => if decide (xs.length < 16777216) then some (xs ++ [y], .none) else none
  | .pop, xs, [] => (xs[xs.length - 1]?).map fun y => (xs.dropLast, y)
  | .pop, xs, [.int i] => if decide (-(2 ^ 63) ≤ i) && decide (i < 2 ^ 63) then (seqIndex? i xs.length).bind fun k => (xs[k]?).map fun y => (xs.eraseIdx k, y) else none
  | .insert, xs, [.int i, y] => if decide (i = 0) && decide (xs.length < 16777216) then some (y :: xs, .none) else none
  | _, _, _ => none

/-! ### the store -/
def dat (m : Sto) : SV → Option PyData
  | .d x => some x
  | .ref l => match m[l]? with
    | some (.lst xs) => some (.list xs)
    | _ => none
  | _ => none
def datX (m : Sto) : SV → Option PyData
  | .ext ns => some (.list (ns.map .int))
  | x => dat m x
def datAll (m : Sto) : List SV → Option (List PyData)
  | [] => some []
  | x :: r => (dat m x).bind fun y => (datAll m r).map (y :: ·)
/-- what is no place of the store -/
def datP : List SV → Option (List PyData)
  | [] => some []
  | .d x :: r => (datP r).map (x :: ·)
  | _ :: _ => none
def isiD : PyData → TK → Bool
  | .bool _, .bool => true
  | .bool _, .int => true
  | .int _, .int => true
  | .str _, .str => true
  | .tuple _, .tuple => true
  | .list _, .list => true
  | .dict _, .dict => true
  | _, _ => false
def isMut : MF → Bool
  | .append => true
  | .pop => true
  | .insert => true
  | _ => false
/-- the receiver is of the method's class -/
def recvOk : MF → Sto → SV → Bool
  | .sindex, _, .d (.str _) => true
  | .join, _, .d (.str _) => true
  | .startswith, _, .d (.str _) => true
  | .append, m, x => isL (dat m x)
  | .pop, m, x => isL (dat m x)
  | .insert, m, x => isL (dat m x)
  | .lindex, m, x => isL (dat m x)
  | .lcount, m, x => isL (dat m x)
  | _, _, _ => false
where isL : Option PyData → Bool
  | some (.list _) => true
  | _ => false
def asK : PyData → Option L2.Key
  | .int i => some (.inl i)
  | .str x => some (.inr x)
  | _ => none
def asKs : List PyData → Option (List L2.Key)
  | [] => some []
  | x :: r => (asK x).bind fun k => (asKs r).map (k :: ·)
def keyD : L2.Key → PyData
  | .inl i => .int i
  | .inr x => .str x
section
variable {κ : Type} [DecidableEq κ]
def lkG (kvs : List (κ × SV)) (k : κ) : Option SV := (kvs.find? fun kv => decide (kv.1 = k)).map (·.2)
def drG (kvs : List (κ × SV)) (k : κ) : List (κ × SV) := kvs.filter fun kv => decide (kv.1 ≠ k)
def ptG (kvs : List (κ × SV)) (k : κ) (v : SV) : List (κ × SV) :=
  if (kvs.any fun kv => decide (kv.1 = k)) = true then kvs.map (fun kv => if kv.1 = k then (kv.1, v) else kv) else kvs ++ [(k, v)]
end
/-- what a dict has at a key -/
def dGet : Ob → PyData → Option (Option SV)
  | .dk kvs, k => (asK k).map fun k => lkG kvs k
  | .dt kvs, .tuple xs => (asKs xs).map fun k => lkG kvs k
  | _, _ => none
def dPut : Ob → PyData → SV → Option Ob
  | .dk kvs, k, v => if fitsN (kvs.length + 1) then (asK k).map fun k => .dk (ptG kvs k v) else none
  | .dt kvs, .tuple xs, v => if fitsN (kvs.length + 1) then (asKs xs).map fun k => .dt (ptG kvs k v) else none
  | _, _, _ => none
def isDic : Option Ob → Bool
  | some (.dk _) => true
  | some (.dt _) => true
  | _ => false
def keysD : Ob → Option (List PyData)
  | .dk kvs => some (kvs.map fun p => keyD p.1)
  | .dt kvs => some (kvs.map fun p => .tuple (p.1.map keyD))
  | _ => none
def valD : SV → Option PyData
  | .d x => some x
  | _ => none
def itemsD : List (L2.Key × SV) → Option (List PyData)
  | [] => some []
  | p :: r => (valD p.2).bind fun v => (itemsD r).map (.tuple [keyD p.1, v] :: ·)
/-- the pairs of a list, as a dict -/
def dictK : List PyData → List (L2.Key × SV) → Option (List (L2.Key × SV))
  | [], acc => some acc
  | .tuple [k, v] :: r, acc => (asK k).bind fun k => dictK r (ptG acc k (.d v))
  | _ :: _, _ => none
/-- the pairs of a list, tuple keys -/
def dictT : List PyData → Option (List (List L2.Key × SV))
  | [] => some []
  | .tuple [.tuple ks, v] :: r => (asKs ks).bind fun k => (dictT r).map ((k, .d v) :: ·)
  | _ :: _ => none
def putF (f : Str) (v : SV) (fs : List (Str × SV)) : List (Str × SV) := fs.map fun p => if p.1 = f then (p.1, v) else p

mutual
/-- a target takes a value -/
def asgT : Tg → PyData → Rho → Option Rho
  | .nm i, x, r => if i < r.length then some (r.set i (some (.d x))) else none
  | .tp ts, .tuple xs, r => asgTs ts xs r
  | .tp ts, .list xs, r => asgTs ts xs r
  | .tp _, _, _ => none
def asgTs : Tgs → List PyData → Rho → Option Rho
  | .nil, [], r => some r
  | .cons t ts, x :: xs, r => (asgT t x r).bind fun r' => asgTs ts xs r'
  | _, _, _ => none
end
def killR (ks : List Nat) (r : Rho) : Rho := ks.foldl (fun r i => r.set i none) r

/-- what is walked: its items, and the list that is locked meanwhile -/
abbrev Items := List PyData × Option Nat
def seqI (m : Sto) : SV → Option Items
  | .d (.list xs) => some (xs, none)
  | .d (.tuple xs) => some (xs, none)
  | .ref l => match m[l]? with
    | some (.lst xs) => some (xs, some l)
    | _ => none
  | _ => none
/-- the items of a dict that is walked for good -/
def itmD (m : Sto) : List (L2.Key × SV) → Option (List (L2.Key × PyData))
  | [] => some []
  | p :: r => (dat m p.2).bind fun x => (itmD m r).map ((p.1, x) :: ·)
def refsL (kvs : List (L2.Key × SV)) : List Nat := kvs.filterMap fun p => match p.2 with
  | .ref l => some l
  | _ => none
def killM (ls : List Nat) (m : Sto) : Sto := ls.foldl (fun m l => m.set l .dead) m
def lockM (k : Option Nat) (m : Sto) : Sto := match k with
  | none => m
  | some l => m.set l .dead
def openM (k : Option Nat) (xs : List PyData) (m : Sto) : Sto := match k with
  | none => m
  | some l => m.set l (.lst xs)
def rngD (a b : Int) : List PyData := (List.range (b - a).toNat).map fun (i : Nat) => .int (a + i)
def small62 (i : Int) : Bool := decide (-(2 ^ 62) ≤ i) && decide (i < 2 ^ 62)

/-- the elements of a comprehension -/
def compL (tst : PyData → Sto → Out Bool) (elt : PyData → Sto → Out PyData) : List PyData → Sto → Out (List PyData)
  | [], m => .ok [] m
  | x :: xs, m => (tst x m).bind fun b m1 => match b with
    | true => (elt x m1).bind fun y m2 => (compL tst elt xs m2).bind fun ys m3 => .ok (y :: ys) m3
    | false => compL tst elt xs m1

/-- what gives a new list -/
def freshE : E → Bool
  | .lst _ => true
  | .comp .. => true
  | .slc .. => true
  | .rev _ => true
  | .bin .. => true
  | .blt .. => true
  | .call .. => true
  | .skd _ => true
  | .sid _ => true
  | _ => false
def retOk (e : E) : SV → Bool
  | .d (.list _) => freshE e
  | .d (.dict _) => freshE e
  | _ => true
def boxK (fr : Bool) (x : SV) (m : Sto) : Out SV := match fr, x with
  | true, .d (.list xs) => .ok (.ref m.length) (m ++ [.lst xs])
  | _, _ => .bad
section
variable (C : Nat → List SV → Sto → Out SV)
mutual
def ev : E → Rho → Sto → Out SV
  | .var i, r, m => match r[i]? with
    | some (some x) => .ok x m
    | _ => .bad
  | .cst c, _, m => .ok (.d (dOf c)) m
  | .gcs _ c, _, m => .ok (.d (dOf c)) m
  | .bin o a b, r, m => (ev a r m).bind fun x m1 => (ev b r m1).bind fun y m2 => Out.of ((dat m2 x).bind fun u => (dat m2 y).bind fun v => (bop o u v).map .d) m2
  | .neg a, r, m => (ev a r m).bind fun x m1 => match x with
    | .d (.int i) => .ok (.d (.int (-i))) m1
    | _ => .bad
  | .nt a, r, m => (ev a r m).bind fun x m1 => Out.of (((dat m1 x).bind truD).map fun b => .d (.bool (!b))) m1
  | .and2 a b, r, m => (ev a r m).bind fun x m1 => match x with
    | .d (.bool true) => ev b r m1
    | .d (.bool false) => .ok (.d (.bool false)) m1
    | _ => .bad
  | .or2 a b, r, m => (ev a r m).bind fun x m1 => match x with
    | .d (.bool false) => ev b r m1
    | .d (.bool true) => .ok (.d (.bool true)) m1
    | _ => .bad
  | .cmp o a b, r, m => (ev a r m).bind fun x m1 => (ev b r m1).bind fun y m2 => Out.of ((dat m2 x).bind fun u => (dat m2 y).bind fun v => (cop o u v).map fun k => .d (.bool k)) m2
  | .cmp2 o p a b c, r, m => (ev a r m).bind fun x m1 => (ev b r m1).bind fun y m2 =>
      (Out.of ((dat m2 x).bind fun u => (dat m2 y).bind fun v => cop o u v) m2).bind fun k m3 => match k with
        | true => (ev c r m3).bind fun z m4 => Out.of ((dat m4 y).bind fun u => (dat m4 z).bind fun v => (cop p u v).map fun k => .d (.bool k)) m4
        | false => .ok (.d (.bool false)) m3
  | .ite c a b, r, m => (ev c r m).bind fun x m1 => match (dat m1 x).bind truD with
    | some true => ev a r m1
    | some false => ev b r m1
    | none => .bad
  | .tup es, r, m => (evs es r m).bind fun xs m1 => Out.of ((datP xs).bind fun ys => if fitsN ys.length then some (.d (.tuple ys)) else none) m1
  | .lst es, r, m => (evs es r m).bind fun xs m1 => Out.of ((datP xs).bind fun ys => if fitsN ys.length then some (.d (.list ys)) else none) m1
  | .rcd ks es, r, m => (evs es r m).bind fun xs m1 => if ks.length = xs.length then .ok (.ref m1.length) (m1 ++ [.rcd (ks.zip xs)]) else .bad
  | .idx a i, r, m => (ev a r m).bind fun x m1 => (ev i r m1).bind fun y m2 => match x, y with
    | .ref l, .d (.str k) => match m2[l]? with
      | some (.rcd fs) => Out.of (fs.lookup k) m2
      | some o => Out.of ((dGet o (.str k)).bind id) m2
      | none => .bad
    | .ref l, .d k => match isDic m2[l]? with
      | true => Out.of ((m2[l]?).bind fun o => (dGet o k).bind id) m2
      | false => Out.of ((dat m2 x).bind fun u => (dat m2 y).bind fun v => (ixD u v).map .d) m2
    | _, _ => Out.of ((dat m2 x).bind fun u => (dat m2 y).bind fun v => (ixD u v).map .d) m2
  | .slc a lo hi, r, m => (ev a r m).bind fun x m1 => (evo lo r m1).bind fun l m2 => (evo hi r m2).bind fun h m3 => Out.of ((datX m3 x).bind fun u => (slD u l h).map .d) m3
  | .rev a, r, m => (ev a r m).bind fun x m1 => match dat m1 x with
    | some (.tuple xs) => .ok (.d (.tuple xs.reverse)) m1
    | some (.list xs) => .ok (.d (.list xs.reverse)) m1
    | _ => .bad
  | .box e, r, m => (ev e r m).bind fun x m1 => boxK (freshE e) x m1
  | .call g es, r, m => (evs es r m).bind fun xs m1 => C g xs m1
  | .blt f es, r, m => (evs es r m).bind fun xs m1 => Out.of ((datAll m1 xs).bind fun ys => (bfn f ys).map .d) m1
  | .mth q o es, r, m => (ev o r m).bind fun x m1 => if recvOk q m1 x then (evs es r m1).bind fun ys m2 => match isMut q with
    | false => Out.of ((dat m2 x).bind fun u => (datAll m2 ys).bind fun vs => (mfn q u vs).map .d) m2
    | true => match x with
      | .ref l => match m2[l]?, datP ys with
        | some (.lst xs), some vs => match mmu q xs vs with
          | some (xs', z) => .ok (.d z) (m2.set l (.lst xs'))
          | none => .bad
        | _, _ => .bad
      | _ => .bad
    else .bad
  | .isi a t, r, m => (ev a r m).bind fun x m1 => Out.of ((dat m1 x).map fun u => .d (.bool (isiD u t))) m1
  | .comp own t it c e, r, m => (evI it r m).bind fun q m1 =>
      (compL (fun x m => match asgT t x (killR own r) with
          | some r1 => (evT c r1 m).nox
          | none => .bad)
        (fun x m => match asgT t x (killR own r) with
          | some r1 => ((ev e r1 m).bind fun y m' => match y with
            | .d z => .ok z m'
            | _ => .bad).nox
          | none => .bad) q.1 (lockM q.2 m1)).bind fun ys m2 => if fitsN ys.length then .ok (.d (.list ys)) (openM q.2 q.1 m2) else .bad
  | .ext o e, r, m => (ev o r m).bind fun x m1 => if recvOk .append m1 x then (ev e r m1).bind fun y m2 => match x with
      | .ref l => match m2[l]?, (dat m2 y).bind seqD with
        | some (.lst xs), some ys => if fitsN (xs.length + ys.length) then .ok (.d .none) (m2.set l (.lst (xs ++ ys))) else .bad
        | _, _ => .bad
      | _ => .bad
    else .bad
  | .dnw t, r, m => .ok (.ref m.length) (m ++ [match t with | true => .dt [] | false => .dk []])
  | .dget d k e, r, m => (ev d r m).bind fun x m1 => match x with
    | .ref l => if isDic m1[l]? then (ev k r m1).bind fun y m2 => (ev e r m2).bind fun z m3 => match y with
      | .d kk => Out.of ((m3[l]?).bind fun o => (dGet o kk).map fun o => o.getD z) m3
      | _ => .bad
      else .bad
    | _ => .bad
  | .dpop d k e, r, m => (ev d r m).bind fun x m1 => match x with
    | .ref l => if isDic m1[l]? then (ev k r m1).bind fun y m2 => (ev e r m2).bind fun z m3 => match y with
      | .d (.tuple kk) => match m3[l]? with
        | some (.dt kvs) => match asKs kk with
          | some ks => match lkG kvs ks with
            | some v => .ok v (m3.set l (.dt (drG kvs ks)))
            | none => .ok z m3
          | none => .bad
        | _ => .bad
      | _ => .bad
      else .bad
    | _ => .bad
  | .dsd d k e, r, m => (ev d r m).bind fun x m1 => match x with
    | .ref l => if isDic m1[l]? then (ev k r m1).bind fun y m2 => (ev e r m2).bind fun z m3 => match y with
      | .d kk => match m3[l]? with
        | some (.dk kvs) => match asK kk with
          | some ks => if fitsN (kvs.length + 1) then (match lkG kvs ks with
            | some v => .ok v m3
            | none => .ok z (m3.set l (.dk (ptG kvs ks z)))) else .bad
          | none => .bad
        | _ => .bad
      | _ => .bad
      else .bad
    | _ => .bad
  | .din neg k d, r, m => (ev k r m).bind fun y m1 => (ev d r m1).bind fun x m2 => match x, y with
    | .ref l, .d kk => Out.of ((m2[l]?).bind fun o => (dGet o kk).map fun o => .d (.bool (neg != o.isSome))) m2
    | _, _ => .bad
  | .dof t e, r, m => (ev e r m).bind fun x m1 => match t, dat m1 x with
    | false, some (.list xs) => match dictK xs [] with
      | some kvs => .ok (.ref m1.length) (m1 ++ [.dk kvs])
      | none => .bad
    | true, some (.list xs) => match dictT xs with
      | some kvs => if decide (kvs.map (·.1)).Nodup && fitsN kvs.length then .ok (.ref m1.length) (m1 ++ [.dt kvs]) else .bad
      | none => .bad
    | _, _ => .bad
  | .skd e, r, m => (ev e r m).bind fun x m1 => match x with
    | .ref l => Out.of ((m1[l]?).bind fun o => (keysD o).bind fun ks => (sortD ks).map fun ys => .d (.list ys)) m1
    | _ => .bad
  | .sid e, r, m => (ev e r m).bind fun x m1 => match x with
    | .ref l => Out.of ((m1[l]?).bind fun o => match o with
      | .dk kvs => (itemsD kvs).bind fun ks => (sortD ks).map fun ys => .d (.list ys)
      | _ => none) m1
    | _ => .bad
def evs : Es → Rho → Sto → Out (List SV)
  | .nil, _, m => .ok [] m
  | .cons e es, r, m => (ev e r m).bind fun x m1 => (evs es r m1).bind fun xs m2 => .ok (x :: xs) m2
/-- a part of a slice -/
def evo : Eo → Rho → Sto → Out (Option Int)
  | .none, _, m => .ok none m
  | .some e, r, m => (ev e r m).bind fun x m1 => match x with
    | .d (.int i) => .ok (some i) m1
    | _ => .bad
/-- a comprehension's test -/
def evT : Eo → Rho → Sto → Out Bool
  | .none, _, m => .ok true m
  | .some e, r, m => (ev e r m).bind fun x m1 => Out.of ((dat m1 x).bind truD) m1
def evI : It → Rho → Sto → Out Items
  | .seq e, r, m => (ev e r m).bind fun x m1 => Out.of (seqI m1 x) m1
  | .rng1 e, r, m => (ev e r m).bind fun x m1 => match x with
    | .d (.int j) => if small62 j then .ok (rngD 0 j, none) m1 else .bad
    | _ => .bad
  | .rng2 a b, r, m => (ev a r m).bind fun x m1 => (ev b r m1).bind fun y m2 => match x, y with
    | .d (.int i), .d (.int j) => if small62 i && small62 j then .ok (rngD i j, none) m2 else .bad
    | _, _ => .bad
  | .zip a b, r, m => (ev a r m).bind fun x m1 => (ev b r m1).bind fun y m2 => match x, y with
    | .d (.list xs), .d (.list ys) => .ok ((xs.zip ys).map fun p => .tuple [p.1, p.2], none) m2
    | .d (.tuple xs), .d (.tuple ys) => .ok ((xs.zip ys).map fun p => .tuple [p.1, p.2], none) m2
    | _, _ => .bad
  | .enm e, r, m => (ev e r m).bind fun x m1 => match x with
    | .d (.list xs) => .ok (xs.mapIdx fun i y => .tuple [.int i, y], none) m1
    | _ => .bad
  | .itm e, r, m => (ev e r m).bind fun x m1 => match x with
    | .ref l => match m1[l]? with
      | some (.dk kvs) => match itmD m1 kvs with
        | some its => .ok (its.map fun p => .tuple [keyD p.1, p.2], none) (killM (refsL kvs) (m1.set l .dead))
        | none => .bad
      | _ => .bad
    | _ => .bad
  | .key e, r, m => (ev e r m).bind fun x m1 => match x with
    | .ref l => match m1[l]? with
      | some (.dk kvs) => .ok (kvs.map fun p => keyD p.1, none) (m1.set l .dead)
      | some (.dt kvs) => .ok (kvs.map fun p => .tuple (p.1.map keyD), none) (m1.set l .dead)
      | _ => .bad
    | _ => .bad
end

/-! ### statements -/
inductive Fl where
  | bad | next (r : Rho) (m : Sto) | ret (x : SV) (m : Sto) | brk (r : Rho) (m : Sto) | cont (r : Rho) (m : Sto) | exc (x : Exn) (r : Rho) (m : Sto)
def Fl.of {α : Type} (x : Out α) (r : Rho) (f : α → Sto → Fl) : Fl := match x with
  | .bad => .bad
  | .ok a m => f a m
  | .exc x m => .exc x r m
def Fl.open_ (k : Option Nat) (xs : List PyData) : Fl → Fl
  | .bad => .bad
  | .next r m => .next r (openM k xs m)
  | .ret x m => .ret x (openM k xs m)
  | .brk r m => .brk r (openM k xs m)
  | .cont r m => .cont r (openM k xs m)
  | .exc x r m => .exc x r (openM k xs m)
def forL (step : PyData → Rho → Sto → Fl) (kill : List Nat) : List PyData → Rho → Sto → Fl
  | [], r, m => .next r m
  | x :: xs, r, m => match step x r m with
    | .next r' m' => forL step kill xs (killR kill r') m'
    | .cont r' m' => forL step kill xs (killR kill r') m'
    | .brk r' m' => .next r' m'
    | .ret x m' => .ret x m'
    | .exc x r' m' => .exc x r' m'
    | .bad => .bad
def whlL (tst : Rho → Sto → Out Bool) (step : Rho → Sto → Fl) (kill : List Nat) : Nat → Rho → Sto → Fl
  | 0, _, _ => .bad
  | n + 1, r, m => Fl.of (tst r m) r fun b m1 => match b with
    | false => .next r m1
    | true => match step r m1 with
      | .next r' m' => whlL tst step kill n (killR kill r') m'
      | .cont r' m' => whlL tst step kill n (killR kill r') m'
      | .brk r' m' => .next r' m'
      | .ret x m' => .ret x m'
      | .exc x r' m' => .exc x r' m'
      | .bad => .bad
mutual
def ex : S → Rho → Sto → Fl
  | .set i e, r, m => Fl.of (ev C e r m) r fun x m1 => if i < r.length then .next (r.set i (some x)) m1 else .bad
  | .asg t e, r, m => Fl.of (ev C e r m) r fun x m1 => match x with
    | .d y => match asgT t y r with
      | some r' => .next r' m1
      | none => .bad
    | _ => .bad
  | .par i j a b, r, m => Fl.of (ev C a r m) r fun x m1 => Fl.of (ev C b r m1) r fun y m2 => if decide (i < r.length) && decide (j < r.length) then .next ((r.set i (some x)).set j (some y)) m2 else .bad
  | .sti o i e, r, m => Fl.of (ev C e r m) r fun z m1 => Fl.of (ev C o r m1) r fun x m2 => Fl.of (ev C i r m2) r fun y m3 => match x, y, z with
    | .ref l, .d k, w => match m3[l]? with
      | some (.lst xs) => match k, w with
        | .int k, .d w => match L2.ixN xs.length k with
          | some j => .next r (m3.set l (.lst (xs.set j w)))
          | none => .bad
        | _, _ => .bad
      | some (.rcd fs) => match k with
        | .str k => if (fs.lookup k).isSome && fitsN (fs.length + 1) then .next r (m3.set l (.rcd (putF k w fs))) else .bad
        | _ => .bad
      | some o => match dPut o k w with
        | some o' => .next r (m3.set l o')
        | none => .bad
      | none => .bad
    | _, _, _ => .bad
  | .expr e, r, m => Fl.of (ev C e r m) r fun _ m1 => .next r m1
  | .iff c a b, r, m => Fl.of (ev C c r m) r fun x m1 => match (dat m1 x).bind truD with
    | some true => exs a r m1
    | some false => exs b r m1
    | none => .bad
  | .for_ t kill it b, r, m => Fl.of (evI C it r m) r fun q m1 =>
      Fl.open_ q.2 q.1 (forL (fun x r m => match asgT t x r with
        | some r1 => exs b r1 m
        | none => .bad) kill q.1 (killR kill r) (lockM q.2 m1))
  | .whl c kill b, r, m => whlL (fun r m => (ev C c r m).bind fun x m1 => Out.of ((dat m1 x).bind truD) m1) (fun r m => exs b r m) kill 100000 (killR kill r) m
  | .ret e, r, m => Fl.of (ev C e r m) r fun x m1 => if retOk e x then .ret x m1 else .bad
  | .pass, r, m => .next r m
def exs : Ss → Rho → Sto → Fl
  | .nil, r, m => .next r m
  | .cons s ss, r, m => match ex s r m with
    | .next r' m' => exs ss r' m'
    | f => f
end
end

/-! ### calls -/
def SV.lt (n : Nat) : SV → Bool
  | .ref l => decide (l < n)
  | _ => true
def Ob.lt (n : Nat) : Ob → Bool
  | .rcd fs => fs.all fun p => p.2.lt n
  | .dk kvs => kvs.all fun p => p.2.lt n
  | .dt kvs => kvs.all fun p => p.2.lt n
  | .ins _ fs => fs.all fun p => p.2.lt n
  | _ => true
/-- the objects ahead of n point to none behind -/
def OkOld (m m' : Sto) : Prop := m.length ≤ m'.length ∧ ∀ l o, l < m.length → m'[l]? = some o → m[l]? = some o ∨ o.lt m.length = true
structure Fn where
  nm : Str
  ps : List Str
  ns : List Str
  keep : Bool
  body : Ss
open Classical in
noncomputable def finish (keep : Bool) (m : Sto) (x : SV) (m' : Sto) : Out SV :=
  if keep then .ok x m' else if OkOld m m' then match x with
    | .d y => .ok (.d y) (m'.take m.length)
    | .ref l => if l < m.length then .ok (.ref l) (m'.take m.length) else match m'[l]? with
      | some (.lst xs) => .ok (.d (.list xs)) (m'.take m.length)
      | _ => .bad
    | .fn g => .ok (.fn g) (m'.take m.length)
    | .ext _ => .bad
  else .bad
noncomputable def finX (keep : Bool) (m : Sto) : Fl → Out SV
  | .ret x m' => finish keep m x m'
  | .next _ m' => finish keep m (.d .none) m'
  | .exc x _ m' => match finish keep m (.d .none) m' with
    | .ok _ m'' => .exc x m''
    | _ => .bad
  | _ => .bad
noncomputable def callI (G : Nat → Option Fn) : Nat → Nat → List SV → Sto → Out SV
  | 0, _, _, _ => .bad
  | n + 1, g, xs, m => match G g with
    | none => .bad
    | some F => if xs.length = F.ps.length then finX F.keep m (exs (callI G n) F.body (xs.map some ++ List.replicate (F.ns.length - xs.length) none) m) else .bad
end Pil

set_option Elab.async false
set_option linter.all false
set_option autoImplicit false
set_option maxRecDepth 100000
set_option maxHeartbeats 4000000
namespace Pil
open PySem PySem.Spec PyProof.Rows L2

/-! ### promises of defs where nothing is being shown (no repr under way) -/
structure FnG (P : Program) (w : World) (K : PySem.W.Frag) (mg : Str → Option Value) (base : Heap) (CX : CXT) (k : Nat) (f : Addr) (fd : FuncData) (ps : List Str) (sp : Sp) : Prop where
  len : ∀ vs H Q E, sp vs H Q E → vs.length = ps.length
  go : ∀ (A : Around) (outer : List Env) (s : Shared) (H : Hp) (args : Args) (us : List Value) (vs : List V) (Q : VK) (E : XK),
    A.guards = some [] → Room k A → Env0 P w K mg base A outer s H → BindsTo s fd args (ps.zip us) → Vals vs us → sp vs H Q E →
      codeAny (model P w) A (.call (.ref f) args) (CR CX outer P w H s Q E) s
section
variable {X : Cx} {CX : CXT} {k : Nat} {f : Addr} {fd : FuncData} {ps : List Str} {sp : Sp} {E : L2.St → XK} {x : Str} {p pos : Pos} {e : Expr} {es : List Expr} {t : TA}
def tCallG (sp : Sp) (E : L2.St → XK) (t : TA) : TE := fun σ H Q => t σ H fun vs H1 => sp vs H1 Q (E σ)
theorem goG {pins : List (Addr × Obj)} {σ : L2.St} {H : Hp} {s : Shared} {Q : VK} {us : List Value} {vs : List V} (F : FnG X.prog X.w X.K X.mg X.base CX k f fd ps sp) (hg : X.A.guards = some []) (hr : Room k X.A) (hb : Binds X.K fd ps [])
    (hx : PassesAt CX X σ (E σ)) (I : Inv X pins σ H s) (r : Vals vs us) (h : sp vs H Q (E σ)) : wpAny (model X.prog X.w) X.A (call (.ref f) us) (EP X pins σ Q) X.xe s := by
  have hl := F.len _ _ _ _ h
  have hb1 := hb s us I.kIn (by rw [List.append_nil, ← r.length]; exact hl)
  rw [List.append_nil] at hb1
  have run := F.go X.A X.stack s H ⟨us, []⟩ us vs Q (E σ) hg hr I.env0 hb1 r h
  refine wpAny_call (codeAny_mono run ?_)
  intro res s' q
  match res, q with
  | .error e, q => exact hx pins H s e s' I q
  | .ok (.ret u), q => exact I.after q
theorem pe_callG (F : FnG X.prog X.w X.K X.mg X.base CX k f fd ps sp) (hgd : X.A.guards = some []) (hr : Room k X.A) (hg : Gl X x) (hm : X.mg x = some (.ref f)) (hk : PySem.W.keepIn X.K (.ref f) = true) (hb : Binds X.K fd ps [])
    (hx : ∀ σ, PassesAt CX X σ (E σ)) (ha : PA X (e :: es) t) (hdb : (x == ("__debug__" : Str)) = false) (he : starEach (e :: es) X.env = (false, eval e X.env) :: starEach es X.env) (hpl : (backTo pos (starEach es X.env)).any (·.1) = false) :
    PE X (.Call (.Name x p) (e :: es) [] pos) (tCallG sp E t) := ⟨fun pins s σ H Q I h => by
  have inner := thn (ha.run pos pins s σ H _ I h) (fun us s1 z => by
    obtain ⟨vs, H1, I1, r, q⟩ := z
    exact (⟨I1.kIn, goG F hgd hr hb (hx σ) I1 r q⟩ : X.K.In s1.heap ∧ wpAny (model X.prog X.w) X.A (call (.ref f) us) (EP X pins σ Q) X.xe s1))
  exact wpAny_Call_Name_kw (ld_glob I hg hm (PySem.W.callWith_K (h₀ := X.base) I.ok.mod.kin hk inner he hpl) hdb)⟩
theorem pe_callG0 (F : FnG X.prog X.w X.K X.mg X.base CX k f fd ps sp) (hgd : X.A.guards = some []) (hr : Room k X.A) (hg : Gl X x) (hm : X.mg x = some (.ref f)) (hk : PySem.W.keepIn X.K (.ref f) = true) (hb : Binds X.K fd ps [])
    (hx : ∀ σ, PassesAt CX X σ (E σ)) (hdb : (x == ("__debug__" : Str)) = false) : PE X (.Call (.Name x p) [] [] pos) (tCallG sp E tNil) := ⟨fun pins s σ H Q I h =>
  wpAny_Call_Name_kw (ld_glob I hg hm (PySem.W.callWith_K0 I.kIn hk (goG (us := []) F hgd hr hb (hx σ) I .nil h)) hdb)⟩
end
/-- a def of the text, by its body -/
theorem fnG_of {CX : CXT} {P : Program} {w : World} {K : PySem.W.Frag} {mg : Str → Option Value} {base : Heap} {k : Nat} {f : Addr} {name qual : Str} {params : Arguments} {body : List Stmt} {scope : Scope} {dV kV doc pm cdv ct oc : Value} {an od : Option Addr}
    {osl : Array (Option Value)} {N ps : List Str} {sp : Sp} (lk : K.lookup f = some ⟨oc, od, .func (PySem.W.fnOf name qual params body scope dV kV doc pm an cdv ct), osl⟩) (hcd : PySem.W.codeIn K cdv qual = true) (S : FnScope N ps scope)
    (len : ∀ vs H Q E, sp vs H Q E → vs.length = ps.length)
    (hbody : ∀ (A : Around) (outer : List Env) (s : Shared) (H : Hp) (vs : List V) (Q : VK) (E : XK), A.guards = some [] → Room k (A.deeper (envOfC qual scope s.heap.objs.size f cdv)) → sp vs H Q E →
      ∃ t, PSs (cxOf CX P w K mg base N qual scope f cdv A outer s H E) body t ∧ t { nx := fun _ H' => Q .non H', rt := Q } (start N vs) H) :
    FnG P w K mg base CX (k + 1) f (PySem.W.fnOf name qual params body scope dV kV doc pm an cdv ct) ps sp where
  len := len
  go := by
    intro A outer s H args us vs Q E hgd hr e0 hb r hsp
    have inK : K.In s.heap := e0.mod.kin.keeps fun b o e => (e0.bs b o e).1
    have nolim : s.heap.NoLimit := e0.mod.nolimit.keeps fun b o e => (e0.bs b o e).1
    have kinds : ∀ y ∈ ps.zip us, scope.names.lookup y.1 = some .local ∨ (scope.names.lookup y.1 = some .cell ∧ ((cellsFrom (s.heap.objs.size + 1) scope.names []).lookup y.1).isSome = true) := by
      rintro ⟨n, v⟩ hy
      have q := S.par n (List.of_mem_zip hy).1
      rcases q with q | q
      · exact .inl q
      · exact .inr ⟨q, PySem.W.cellsFrom_some _ _ _ (.inl q)⟩
    refine codeAny_call_function hr.depth (inK _ _ lk) rfl S.co S.gen rfl (PySem.W.codeRec_of inK hcd) (hb _ _ _ _ ?_)
    refine wpAny_newFunctionEnv_cells S.kind kinds ?_
    intro env he s1 x
    subst he
    refine ⟨nolim.keeps x.toInCall.keep, codeAny_func ?_⟩
    obtain ⟨t, ht, hq⟩ := hbody A outer s H vs Q E hgd (hr.deeper _) hsp
    have I := inv_start (CX := CX) (E := E) (cd := cdv) (f := f) (qual := qual) S hr.hd e0 (len _ _ _ _ hsp) r x
    refine wpAny_mono (ht.run [] s1 (start N vs) H _ I hq) (fun fl s' z => ?_) fun e s' z => z
    have fin : ∀ {σ' : L2.St} {H' : Hp} {v : V} {u : Value}, Inv (cxOf CX P w K mg base N qual scope f cdv A outer s H E) [] σ' H' s' → RelV v u → Q v H' → CE outer P w H s Q u s' :=
      fun {σ' H' v u} J rv q => ⟨v, H', J.os, J.bare, J.base, J.hok, rv, q⟩
    cases fl with
    | next => exact let ⟨_, _, J, q⟩ := z; fin (v := V.non) (u := Value.none) J rfl q
    | ret u => exact let ⟨_, _, _, J, rv, q⟩ := z; fin J rv q
    | cont => exact let ⟨_, _, _, q⟩ := z; False.elim q
    | brk => exact let ⟨_, _, _, q⟩ := z; False.elim q

/-! ### the end of a law -/
theorem law_callG {P : Program} {w : World} {K : PySem.W.Frag} {mg mb : Str → Option Value} {CX : CXT} {k : Nat} {fa a : Addr} {fd : FuncData} {x : Str} {sp : Sp} {s1 : Shared} {vs : List Value} {ns : List Int}
    (inK : K.In s1.heap) (hns : s1.heap.Ns mainGlobals mg) (hb : s1.heap.Ns builtinsNs mb) (hbb : ∀ x : Str, x ≠ "__name__" → mb x = bootBuiltins x) (hlim : s1.heap.NoLimit) (hg : s1.gens = #[])
    (ha : s1.heap.get? a = some { cls := .type "list", data := .seq vs.toArray }) (hi : IntsAre vs ns) (hl : ns.length ≤ sizeLine) (hr : Room k callerA)
    (F : ∀ base : Heap, K.In base → base.Ns mainGlobals mg → FnG P w K mg base CX k fa fd [x] sp) (hbind : ∀ (s : Shared) (u : Value), BindsTo s fd ⟨[u], []⟩ [(x, u)])
    (hsp : ∀ H : Hp, Only H → SqL K H a (ns.map V.int) → sp [.ref a] H (fun v _ => v = .bl true) fun _ _ _ => False)
    (hCX : ∀ H e s', CX [] H s1 (fun _ _ _ => False) e s' → False) :
    codeAny (model P w) callerA (.call (.ref fa) ⟨[.ref a], []⟩) (fun r s' => r = .ok (.ret (.bool true)) ∧ OldK s1.heap s'.heap ∧ s'.os = s1.os ∧ AllBare s'.gens) s1 := by
  have rv : Vals (ns.map V.int) vs := vals_ints hi
  have lenV := hi.length
  have mid : ∀ H : Hp, Only H → SqL K H a (ns.map V.int) → HOk P w H s1.heap → (∀ b, H b ≠ none → b = a) → (H a ≠ none → K.lookup a = none) →
      codeAny (model P w) callerA (.call (.ref fa) ⟨[.ref a], []⟩) (fun r s' => r = .ok (.ret (.bool true)) ∧ OldK s1.heap s'.heap ∧ s'.os = s1.os ∧ AllBare s'.gens) s1 := by
    intro H hO hS hok hA hK
    have some_of : ∀ {b : Addr} {u : HO}, H b = some u → H b ≠ none := fun {b u} e z => by rw [e] at z; cases z
    have noA : ∀ {b : Addr} {o : Obj} {es : Array DictEntry} {ep : Nat}, s1.heap.get? b = some o → o.data = .dict es ep → H b = none := by
      intro b o es ep e d
      cases q : H b with
      | none => rfl
      | some u =>
        obtain rfl := hA b (some_of q)
        rw [ha] at e
        cases e
        cases d
    have nsK : ∀ {b : Addr} {m : Str → Option Value}, s1.heap.Ns b m → (hidT s1.heap H).Ns b m := by
      rintro b m ⟨o, es, ep, e, d, r⟩
      exact ⟨o, es, ep, hidT_get e (noA e d), d, r⟩
    have inKb : K.In (hidT s1.heap H) := by
      intro b o e
      refine hidT_get (inK b o e) ?_
      cases q : H b with
      | none => rfl
      | some u =>
        obtain rfl := hA b (some_of q)
        rw [hK (some_of q)] at e
        cases e
    have hM : Mod K mg (hidT s1.heap H) := by
      refine ⟨inKb, nsK hns, ⟨mb, nsK hb, hbb⟩, ?_⟩
      obtain ⟨mc, h1, h2⟩ := hlim
      exact ⟨mc, nsK h1, h2⟩
    have e0 : Env0 P w K mg (hidT s1.heap H) callerA [] s1 H := ⟨rfl, hM, fun b o e => of_hidT e, Nat.le_of_eq (hidT_size _ _), trivial, (fun b hb => by cases hb), hok, .of_eq hg⟩
    have run := (F _ inKb (nsK hns)).go callerA [] s1 H ⟨[.ref a], []⟩ [.ref a] [.ref a] _ _ rfl hr e0 (hbind s1 (.ref a)) (.cons rfl .nil) (hsp H hO hS)
    refine codeAny_mono run ?_
    intro r s' h
    match r, h with
    | .error e, h => exact (hCX H e s' h).elim
    | .ok (.ret u), ⟨v, H', os, bare, un, hok', r', q⟩ =>
      have q' : v = .bl true := q
      subst q'
      obtain rfl : u = Value.bool true := r'
      refine ⟨rfl, OldK.of_keep fun b o e => ?_, os, bare⟩
      cases q : H b with
      | none => exact un.keep b o e q (fun z => by cases z) (fun z => by cases z)
      | some u =>
        rcases hO b with z | ⟨ob, xs, z⟩
        · rw [q] at z; cases z
        · have e1 := (hok b _ z).1
          have e2 := (hok' b _ (un.frzs b ob _ z)).1
          rw [e] at e1
          cases e1
          exact e2
  cases hk : K.lookup a with
  | some o =>
    have e := inK a o hk
    rw [ha] at e
    cases e
    exact mid (fun _ => none) (fun _ => .inl rfl) (.inr ⟨_, vs.toArray, _, hk, rfl, rfl, rfl, by rw [List.size_toArray, lenV]; exact hl, by simpa using rv⟩) (fun b u z => by cases z) (fun b z => absurd rfl z) fun z => absurd rfl z
  | none =>
    refine mid (fun b => if b = a then some (.frz { cls := .type "list", data := .seq vs.toArray } (.lst (ns.map V.int))) else none) ?_ (.inl (.inr ⟨{ cls := .type "list", data := .seq vs.toArray }, if_pos rfl⟩)) ?_ ?_ fun _ => hk
    · intro b
      by_cases q : b = a
      · exact .inr ⟨_, _, if_pos q⟩
      · exact .inl (if_neg q)
    · intro b u z
      by_cases q : b = a
      · have z' := (if_pos q).symm.trans z
        cases z'
        subst q
        exact ⟨ha, by rw [List.length_map]; exact hl, vs, _, rv, ha⟩
      · have z' := (if_neg q).symm.trans z
        cases z'
    · intro b z
      by_cases q : b = a
      · exact q
      · exact absurd (if_neg q) z
theorem walk_ofG {l : PySem.W.OpenLaw} {n k : Nat} {q : Program} {loose : List Str} {XP : (Str → Option Value) → Heap → Prop} {YP : World → Heap → Prop} {d : DefRec} {K : Params → PySem.W.Frag} {CX : World → CXT} {sp : World → Sp} {x : Str}
    (hn : l.most = some n) (hn2 : n ≤ sizeLine) (hdf : d.params.defaults = []) (hr : Room k callerA) (hY : ∀ (w : World) (h : Heap), YP w h → (K w.params).In h)
    (F : ∀ (w : World) (mg : Str → Option Value) (fa : Addr) (h : Heap), (K w.params).In h → h.Ns mainGlobals mg → mg d.name = some (.ref fa) →
      ∃ fd : FuncData, (∀ (s : Shared) (u : Value), BindsTo s fd ⟨[u], []⟩ [(x, u)]) ∧ ∀ base : Heap, (K w.params).In base → base.Ns mainGlobals mg → FnG l.prog w (K w.params) mg base (CX w) k fa fd [x] (sp w))
    (hsp : ∀ (w : World) (H : Hp) (a : Addr) (ns : List Int), ns.length ≤ n → Only H → SqL (K w.params) H a (ns.map V.int) → sp w [.ref a] H (fun v _ => v = .bl true) fun _ _ _ => False)
    (hCX : ∀ (w : World) (H : Hp) (s : Shared) (e : Value) (s' : Shared), CX w [] H s (fun _ _ _ => False) e s' → False) :
    PySem.W.WalkO q loose XP YP l.row.toRowW d [] (fun f vs => PySem.call f vs) :=
  Att.attach_call hn hdf fun w _ s1 mg mb fa o pm cd doc a vs ns G Y ho hd hcd hmg hobj hints hlen hg => by
    have inK := hY w _ Y
    obtain ⟨fd, hb, hF⟩ := F w mg fa _ inK G.T.g hmg
    exact law_callG inK G.T.g G.T.b G.T.builtins G.T.nolimit hg hobj hints (Nat.le_trans hlen hn2) hr hF hb (fun H hO hS => hsp w H a ns hlen hO hS) fun H e s' => hCX w H s1 e s'
end Pil

set_option Elab.async false
set_option linter.all false
set_option autoImplicit false
set_option maxRecDepth 100000
set_option maxHeartbeats 4000000
namespace Pil
open PySem PySem.Spec PyProof.Rows L2

/-! ### how data and the store stand in the heap -/
/-- the places of defs and classes; places that are set aside -/
structure Ads where
  K : PySem.W.Frag
  F : Nat → Addr
  Cl : Nat → Addr
  Z : Addr → Prop
def Live (f : Nat → Addr) (m : Sto) (a : Addr) : Prop := ∃ (l : Nat) (o : Ob), m[l]? = some o ∧ o ≠ Ob.dead ∧ f l = a
def Box (A : Ads) (f : Nat → Addr) (m : Sto) (a : Addr) : Prop := A.Z a ∨ Live f m a
mutual
inductive Rp (H : Hp) (B : Addr → Prop) : V → PyData → Prop
  | non : Rp H B .non .none
  | bl (b : Bool) : Rp H B (.bl b) (.bool b)
  | int (i : Int) : Rp H B (.int i) (.int i)
  | str (x : Str) : Rp H B (.str x) (.str x)
  | lst {a : Addr} {xs : List V} {ds : List PyData} : H a = some (.lst xs) → ¬ B a → RpAll H B xs ds → Rp H B (.ref a) (.list ds)
  | tup {a : Addr} {xs : List V} {ds : List PyData} : H a = some (.tup xs) → ¬ B a → RpAll H B xs ds → Rp H B (.ref a) (.tuple ds)
inductive RpAll (H : Hp) (B : Addr → Prop) : List V → List PyData → Prop
  | nil : RpAll H B [] []
  | cons {v : V} {vs : List V} {d : PyData} {ds : List PyData} : Rp H B v d → RpAll H B vs ds → RpAll H B (v :: vs) (d :: ds)
end
section
variable {H H' : Hp} {B B' : Addr → Prop}
mutual
theorem Rp.keep (hk : ∀ b o, H b = some o → ¬ B b → H' b = some o) (hb : ∀ b o, H b = some o → ¬ B b → ¬ B' b) : ∀ {v : V} {d : PyData}, Rp H B v d → Rp H' B' v d
  | _, _, .non => .non
  | _, _, .bl b => .bl b
  | _, _, .int i => .int i
  | _, _, .str x => .str x
  | _, _, .lst e n r => .lst (hk _ _ e n) (hb _ _ e n) (RpAll.keep hk hb r)
  | _, _, .tup e n r => .tup (hk _ _ e n) (hb _ _ e n) (RpAll.keep hk hb r)
theorem RpAll.keep (hk : ∀ b o, H b = some o → ¬ B b → H' b = some o) (hb : ∀ b o, H b = some o → ¬ B b → ¬ B' b) : ∀ {vs : List V} {ds : List PyData}, RpAll H B vs ds → RpAll H' B' vs ds
  | _, _, .nil => .nil
  | _, _, .cons r t => .cons (Rp.keep hk hb r) (RpAll.keep hk hb t)
end
theorem RpAll.length : ∀ {vs : List V} {ds : List PyData}, RpAll H B vs ds → vs.length = ds.length
  | _, _, .nil => rfl
  | _, _, .cons _ t => by rw [List.length_cons, List.length_cons, RpAll.length t]
theorem RpAll.get : ∀ {vs : List V} {ds : List PyData} {i : Nat} {d : PyData}, RpAll H B vs ds → ds[i]? = some d → ∃ v, vs[i]? = some v ∧ Rp H B v d
  | _, _, _, _, .nil, e => by simp at e
  | _, _, 0, _, .cons r _, e => by simp at e; subst e; exact ⟨_, rfl, r⟩
  | _, _, i + 1, d, .cons _ t, e => by
    obtain ⟨v, h1, h2⟩ := RpAll.get (i := i) (d := d) t (by simpa using e)
    exact ⟨v, by simpa using h1, h2⟩
theorem RpAll.get' : ∀ {vs : List V} {ds : List PyData} {i : Nat} {v : V}, RpAll H B vs ds → vs[i]? = some v → ∃ d, ds[i]? = some d ∧ Rp H B v d
  | _, _, _, _, .nil, e => by simp at e
  | _, _, 0, _, .cons r _, e => by simp at e; subst e; exact ⟨_, rfl, r⟩
  | _, _, i + 1, d, .cons _ t, e => by
    obtain ⟨v, h1, h2⟩ := RpAll.get' (i := i) (v := d) t (by simpa using e)
    exact ⟨v, by simpa using h1, h2⟩
theorem RpAll.append : ∀ {xs ys : List V} {us ws : List PyData}, RpAll H B xs us → RpAll H B ys ws → RpAll H B (xs ++ ys) (us ++ ws)
  | _, _, _, _, .nil, s => s
  | _, _, _, _, .cons r t, s => .cons r (RpAll.append t s)
theorem RpAll.take : ∀ {xs : List V} {us : List PyData} (n : Nat), RpAll H B xs us → RpAll H B (xs.take n) (us.take n)
  | _, _, 0, _ => .nil
  | _, _, _ + 1, .nil => .nil
  | _, _, n + 1, .cons r t => .cons r (RpAll.take n t)
theorem RpAll.drop : ∀ {xs : List V} {us : List PyData} (n : Nat), RpAll H B xs us → RpAll H B (xs.drop n) (us.drop n)
  | _, _, 0, r => r
  | _, _, _ + 1, .nil => .nil
  | _, _, n + 1, .cons _ t => RpAll.drop n t
theorem RpAll.reverse {xs : List V} {us : List PyData} (r : RpAll H B xs us) : RpAll H B xs.reverse us.reverse := by
  induction xs generalizing us with
  | nil => cases r; exact .nil
  | cons x xs ih =>
    cases r with
    | cons r t =>
      rw [List.reverse_cons, List.reverse_cons]
      exact (ih t).append (.cons r .nil)
theorem RpAll.set {v : V} {d : PyData} (r : Rp H B v d) : ∀ {xs : List V} {us : List PyData} (i : Nat), RpAll H B xs us → RpAll H B (xs.set i v) (us.set i d)
  | _, _, _, .nil => .nil
  | _, _, 0, .cons _ t => .cons r t
  | _, _, i + 1, .cons q t => .cons q (RpAll.set r i t)
theorem RpAll.eraseIdx : ∀ {xs : List V} {us : List PyData} (i : Nat), RpAll H B xs us → RpAll H B (xs.eraseIdx i) (us.eraseIdx i)
  | _, _, _, .nil => .nil
  | _, _, 0, .cons _ t => t
  | _, _, i + 1, .cons q t => .cons q (RpAll.eraseIdx i t)
theorem RpAll.dropLast {xs : List V} {us : List PyData} (r : RpAll H B xs us) : RpAll H B xs.dropLast us.dropLast := by
  rw [List.dropLast_eq_take, List.dropLast_eq_take, r.length]
  exact r.take _
theorem RpAll.ints : ∀ {vs : List V} {ds : List PyData} {ns : List Int}, RpAll H B vs ds → asInts ds = some ns → vs = ns.map V.int
  | _, _, ns, .nil, e => by
    have : some [] = some ns := e
    cases this; rfl
  | _, _, ns, .cons r t, e => by
    cases r with
    | int i =>
      unfold asInts at e
      obtain ⟨ms, e1, rfl⟩ := Option.map_eq_some_iff.mp e
      rw [RpAll.ints t e1]
      rfl
    | _ => simp [asInts] at e
theorem RpAll.bools : ∀ {vs : List V} {ds : List PyData} {ns : List Bool}, RpAll H B vs ds → asBools ds = some ns → vs = ns.map V.bl
  | _, _, ns, .nil, e => by
    have : some [] = some ns := e
    cases this; rfl
  | _, _, ns, .cons r t, e => by
    cases r with
    | bl i =>
      unfold asBools at e
      obtain ⟨ms, e1, rfl⟩ := Option.map_eq_some_iff.mp e
      rw [RpAll.bools t e1]
      rfl
    | _ => simp [asBools] at e
theorem RpAll.strs : ∀ {vs : List V} {ds : List PyData} {ns : List Str}, RpAll H B vs ds → asStrs ds = some ns → vs = ns.map V.str
  | _, _, ns, .nil, e => by
    have : some [] = some ns := e
    cases this; rfl
  | _, _, ns, .cons r t, e => by
    cases r with
    | str i =>
      unfold asStrs at e
      obtain ⟨ms, e1, rfl⟩ := Option.map_eq_some_iff.mp e
      rw [RpAll.strs t e1]
      rfl
    | _ => simp [asStrs] at e
end

/-- a value that is read: a list may be a boxed one -/
inductive Rq (H : Hp) (B : Addr → Prop) : V → PyData → Prop
  | of {v : V} {d : PyData} : Rp H B v d → Rq H B v d
  | lst {a : Addr} {xs : List V} {ds : List PyData} : H a = some (.lst xs) → RpAll H B xs ds → Rq H B (.ref a) (.list ds)
theorem Rq.int {H : Hp} {B : Addr → Prop} {v : V} {i : Int} (r : Rq H B v (.int i)) : v = .int i := by cases r with | of r => cases r; rfl
theorem Rq.bool {H : Hp} {B : Addr → Prop} {v : V} {i : Bool} (r : Rq H B v (.bool i)) : v = .bl i := by cases r with | of r => cases r; rfl
theorem Rq.str {H : Hp} {B : Addr → Prop} {v : V} {i : Str} (r : Rq H B v (.str i)) : v = .str i := by cases r with | of r => cases r; rfl
theorem Rq.none {H : Hp} {B : Addr → Prop} {v : V} (r : Rq H B v .none) : v = .non := by cases r with | of r => cases r; rfl
theorem Rq.list {H : Hp} {B : Addr → Prop} {v : V} {ds : List PyData} (r : Rq H B v (.list ds)) : ∃ a xs, v = .ref a ∧ H a = some (.lst xs) ∧ RpAll H B xs ds := by
  cases r with
  | of r => cases r with | lst e n r => exact ⟨_, _, rfl, e, r⟩
  | lst e r => exact ⟨_, _, rfl, e, r⟩
theorem Rq.tuple {H : Hp} {B : Addr → Prop} {v : V} {ds : List PyData} (r : Rq H B v (.tuple ds)) : ∃ a xs, v = .ref a ∧ H a = some (.tup xs) ∧ ¬ B a ∧ RpAll H B xs ds := by
  cases r with
  | of r => cases r with | tup e n r => exact ⟨_, _, rfl, e, n, r⟩
mutual
theorem Rp.dp {H : Hp} {B : Addr → Prop} {K : PySem.W.Frag} : ∀ {v : V} {d : PyData}, Rp H B v d → Dp K H v d
  | _, _, .non => .non
  | _, _, .bl b => .bl b
  | _, _, .int i => .int i
  | _, _, .str x => .str x
  | _, _, .lst e _ r => .lst (SqL.of e) (RpAll.dp r)
  | _, _, .tup e _ r => .tup (SqT.of e) (RpAll.dp r)
theorem RpAll.dp {H : Hp} {B : Addr → Prop} {K : PySem.W.Frag} : ∀ {vs : List V} {ds : List PyData}, RpAll H B vs ds → DpAll K H vs ds
  | _, _, .nil => .nil
  | _, _, .cons r t => .cons (Rp.dp r) (RpAll.dp t)
end
theorem Rq.dp {H : Hp} {B : Addr → Prop} {K : PySem.W.Frag} {v : V} {d : PyData} (r : Rq H B v d) : Dp K H v d := by
  cases r with
  | of r => exact r.dp
  | lst e r => exact .lst (SqL.of e) r.dp

section
variable (A : Ads)
def RpS (f : Nat → Addr) (m : Sto) (H : Hp) (v : V) : SV → Prop
  | .d x => Rp H (Box A f m) v x
  | .ref l => v = .ref (f l) ∧ l < m.length
  | .fn g => v = .ref (A.F g)
  | .ext ns => ∃ a, v = .ref a ∧ ((¬ Box A f m a ∧ ∃ o, H a = some (.frz o (.lst (ns.map V.int)))) ∨
      ∃ (o : Obj) (its : Array Value) (n : Nat), A.K.lookup a = some o ∧ o.cls = .type "list" ∧ o.dict = none ∧ o.data = .seq its n ∧ its.size ≤ sizeLine ∧ Vals (ns.map V.int) its.toList)
def RpO (f : Nat → Addr) (m : Sto) (H : Hp) (a : Addr) : Ob → Prop
  | .lst xs => ∃ vs, H a = some (.lst vs) ∧ RpAll H (Box A f m) vs xs
  | .dk kvs => ∃ ws : List (Key × V), H a = some (.dK ws) ∧ Paired (fun (p : Key × V) (q : Key × SV) => p.1 = q.1 ∧ RpS A f m H p.2 q.2) ws kvs
  | .dt kvs => ∃ ws : List (List Key × V), H a = some (.dT ws) ∧ Paired (fun (p : List Key × V) (q : List Key × SV) => p.1 = q.1 ∧ RpS A f m H p.2 q.2) ws kvs
  | .rcd fs => ∃ kvs : List (Key × V), H a = some (.dK kvs) ∧ Paired (fun (p : Key × V) (q : Str × SV) => p.1 = Sum.inr q.1 ∧ RpS A f m H p.2 q.2) kvs fs
  | .ins _ _ => False
  | .dead => True
/-- no tuple -/
def NT : HO → Prop
  | .tup _ => False
  | _ => True
structure RS (f : Nat → Addr) (m : Sto) (H : Hp) : Prop where
  ob : ∀ (l : Nat) (o : Ob), m[l]? = some o → RpO A f m H (f l) o
  inj : ∀ (l l' : Nat) (o o' : Ob), m[l]? = some o → m[l']? = some o' → o ≠ Ob.dead → o' ≠ Ob.dead → f l = f l' → l = l'
  zt : ∀ a, A.Z a → ∃ o, H a = some o ∧ NT o
  zl : ∀ a, A.Z a → ¬ Live f m a
structure RE (f : Nat → Addr) (m : Sto) (H : Hp) (σ : L2.St) (ρ : Rho) : Prop where
  len : σ.length = ρ.length
  at_ : ∀ (i : Nat) (x : SV), ρ[i]? = some (some x) → ∃ v, σ[i]? = some (some v) ∧ RpS A f m H v x
end
structure Fra (f : Nat → Addr) (m : Sto) (H : Hp) (f' : Nat → Addr) (m' : Sto) (H' : Hp) : Prop where
  agree : ∀ (l : Nat), l < m.length → f' l = f l
  new : ∀ (l : Nat) (o : Ob), m.length ≤ l → m'[l]? = some o → o ≠ Ob.dead → H (f' l) = none
  keep : ∀ b o, H b = some o → ¬ Live f m b → H' b = some o
  len : m.length ≤ m'.length
  dead : ∀ (l : Nat), m[l]? = some Ob.dead → m'[l]? = some Ob.dead
  mono : ∀ b, H' b = none → H b = none
section
variable {f f' f'' : Nat → Addr} {m m' m'' : Sto} {H H' H'' : Hp} {A : Ads}
theorem Fra.refl : Fra f m H f m H := ⟨fun _ _ => rfl, fun l o h e _ => by
    have := (List.getElem?_eq_some_iff.mp e).1
    omega, fun _ _ e _ => e, Nat.le_refl _, fun _ e => e, fun _ e => e⟩
theorem Fra.live (F : Fra f m H f' m' H') {b : Addr} {o : HO} (e : H b = some o) (n : ¬ Live f m b) : ¬ Live f' m' b := by
  rintro ⟨l, ob, h1, h2, h3⟩
  by_cases hl : l < m.length
  · rw [F.agree l hl] at h3
    refine n ⟨l, m[l], List.getElem?_eq_getElem hl, fun z => ?_, h3⟩
    have := F.dead l (by rw [List.getElem?_eq_getElem hl, z])
    rw [h1] at this
    cases this
    exact h2 rfl
  · have := F.new l ob (by omega) h1 h2
    rw [h3, e] at this
    cases this
theorem Fra.trans (F : Fra f m H f' m' H') (G : Fra f' m' H' f'' m'' H'') : Fra f m H f'' m'' H'' where
  agree := fun l h => (G.agree l (Nat.lt_of_lt_of_le h F.len)).trans (F.agree l h)
  new := fun l o h e n => by
    by_cases hl : l < m'.length
    · rw [G.agree l hl]
      refine F.new l m'[l] h (List.getElem?_eq_getElem hl) fun z => ?_
      have := G.dead l (by rw [List.getElem?_eq_getElem hl, z])
      rw [e] at this
      cases this
      exact n rfl
    · exact F.mono _ (G.new l o (by omega) e n)
  keep := fun b o e n => G.keep b o (F.keep b o e n) (F.live e n)
  len := Nat.le_trans F.len G.len
  dead := fun l e => G.dead l (F.dead l e)
  mono := fun b e => F.mono b (G.mono b e)
theorem Fra.box (F : Fra f m H f' m' H') {b : Addr} {o : HO} (e : H b = some o) (n : ¬ Box A f m b) : ¬ Box A f' m' b := fun h => h.elim (fun z => n (.inl z)) (F.live e fun z => n (.inr z))
theorem Fra.rp (F : Fra f m H f' m' H') {v : V} {d : PyData} (r : Rp H (Box A f m) v d) : Rp H' (Box A f' m') v d := r.keep (fun b o e n => F.keep b o e fun z => n (.inr z)) fun _ _ e n => F.box e n
theorem Fra.rpAll (F : Fra f m H f' m' H') {v : List V} {d : List PyData} (r : RpAll H (Box A f m) v d) : RpAll H' (Box A f' m') v d := r.keep (fun b o e n => F.keep b o e fun z => n (.inr z)) fun _ _ e n => F.box e n
theorem Fra.rpS (F : Fra f m H f' m' H') {v : V} : ∀ {x : SV}, RpS A f m H v x → RpS A f' m' H' v x
  | .d _, r => F.rp r
  | .ref l, r => by
    obtain ⟨e, h⟩ := r
    exact ⟨by rw [F.agree l h]; exact e, Nat.lt_of_lt_of_le h F.len⟩
  | .fn _, r => r
  | .ext ns, r => by
    obtain ⟨a, e, r⟩ := r
    rcases r with ⟨n, o, r⟩ | r
    · exact ⟨a, e, .inl ⟨F.box r n, o, F.keep _ _ r fun z => n (.inr z)⟩⟩
    · exact ⟨a, e, .inr r⟩
theorem Fra.re (F : Fra f m H f' m' H') {σ : L2.St} {ρ : Rho} (r : RE A f m H σ ρ) : RE A f' m' H' σ ρ := ⟨r.len, fun i x e => by
  obtain ⟨v, h1, h2⟩ := r.at_ i x e
  exact ⟨v, h1, F.rpS h2⟩⟩
end
end Pil

set_option Elab.async false
set_option linter.all false
set_option autoImplicit false
set_option maxRecDepth 100000
set_option maxHeartbeats 4000000
namespace Pil
open PySem PySem.Spec PyProof.Rows L2

section
variable {A : Ads} {f f' f1 : Nat → Addr} {m m' m1 : Sto} {H H' H1 : Hp}
theorem RpO.there' {a : Addr} {o : Ob} (r : RpO A f m H a o) (n : o ≠ Ob.dead) : ∃ u, H a = some u ∧ NT u := by
  cases o with
  | lst xs => obtain ⟨vs, e, _⟩ := r; exact ⟨_, e, True.intro⟩
  | dk fs => obtain ⟨kvs, e, _⟩ := r; exact ⟨_, e, True.intro⟩
  | dt fs => obtain ⟨kvs, e, _⟩ := r; exact ⟨_, e, True.intro⟩
  | rcd fs => obtain ⟨kvs, e, _⟩ := r; exact ⟨_, e, True.intro⟩
  | ins _ _ => exact r.elim
  | dead => exact absurd rfl n
theorem RpO.there {a : Addr} {o : Ob} (r : RpO A f m H a o) (n : o ≠ Ob.dead) : ∃ u, H a = some u := (r.there' n).imp fun _ h => h.1
theorem RS.box' (R : RS A f m H) {a : Addr} (b : Box A f m a) : ∃ u, H a = some u ∧ NT u := by
  rcases b with z | ⟨l, o, e, n, rfl⟩
  · exact R.zt a z
  · exact (R.ob l o e).there' n
theorem RS.box (R : RS A f m H) {a : Addr} (b : Box A f m a) : ∃ u, H a = some u := (R.box' b).imp fun _ h => h.1
theorem RS.notup (R : RS A f m H) {a : Addr} {xs : List V} (e : H a = some (.tup xs)) : ¬ Box A f m a := fun b => by
  obtain ⟨u, q, n⟩ := R.box' b
  rw [e] at q
  cases q
  exact n
theorem RS.nobox (R : RS A f m H) {a : Addr} (e : H a = none) : ¬ Box A f m a := fun b => by
  obtain ⟨u, q⟩ := R.box b
  rw [e] at q; cases q
/-- everything that stands stays -/
def Up (H H' : Hp) : Prop := ∀ b o, H b = some o → H' b = some o
theorem up_new {p : Addr} {o : HO} (h : H p = none) : Up H (upd H p o) := fun b u e => by rw [upd_ne (ne_of_none e h)]; exact e
theorem Up.rp (u : Up H H') {B : Addr → Prop} {v : V} {d : PyData} (r : Rp H B v d) : Rp H' B v d := r.keep (fun b o e _ => u b o e) fun _ _ _ n => n
theorem Up.rpAll (u : Up H H') {B : Addr → Prop} {v : List V} {d : List PyData} (r : RpAll H B v d) : RpAll H' B v d := r.keep (fun b o e _ => u b o e) fun _ _ _ n => n
theorem Up.rpS (u : Up H H') {v : V} : ∀ {x : SV}, RpS A f m H v x → RpS A f m H' v x
  | .d _, r => u.rp r
  | .ref _, r => r
  | .fn _, r => r
  | .ext _, r => by
    obtain ⟨a, e, r⟩ := r
    rcases r with ⟨n, o, r⟩ | r
    · exact ⟨a, e, .inl ⟨n, o, u _ _ r⟩⟩
    · exact ⟨a, e, .inr r⟩
theorem Up.rpO (u : Up H H') {a : Addr} : ∀ {o : Ob}, RpO A f m H a o → RpO A f m H' a o
  | .lst _, r => by obtain ⟨vs, e, r⟩ := r; exact ⟨vs, u _ _ e, u.rpAll r⟩
  | .dk _, r => by obtain ⟨vs, e, r⟩ := r; exact ⟨vs, u _ _ e, Paired.mapP r fun p q z => ⟨z.1, u.rpS z.2⟩⟩
  | .dt _, r => by obtain ⟨vs, e, r⟩ := r; exact ⟨vs, u _ _ e, Paired.mapP r fun p q z => ⟨z.1, u.rpS z.2⟩⟩
  | .rcd _, r => by obtain ⟨vs, e, r⟩ := r; exact ⟨vs, u _ _ e, Paired.mapP r fun p q z => ⟨z.1, u.rpS z.2⟩⟩
  | .ins _ _, r => r
  | .dead, _ => True.intro
theorem Up.rs (u : Up H H') (R : RS A f m H) : RS A f m H' := ⟨fun l o e => u.rpO (R.ob l o e), R.inj, fun a z => by
    obtain ⟨o, e, n⟩ := R.zt a z
    exact ⟨o, u a o e, n⟩, R.zl⟩
theorem Up.fra (u : Up H H') : Fra f m H f m H' := ⟨fun _ _ => rfl, fun l o h e _ => by
    have := (List.getElem?_eq_some_iff.mp e).1
    omega, fun b o e _ => u b o e, Nat.le_refl _, fun _ e => e, fun b e => by
    cases q : H b with
    | none => rfl
    | some o => rw [u b o q] at e; cases e⟩

/-- a value that is read -/
theorem dat_rq (R : RS A f m H) {v : V} {x : SV} {d : PyData} (r : RpS A f m H v x) (e : dat m x = some d) : Rq H (Box A f m) v d := by
  cases x with
  | d y =>
    have e' : some y = some d := e
    cases e'
    exact .of r
  | fn _ => have e' : (none : Option PyData) = some d := e; cases e'
  | ext _ => have e' : (none : Option PyData) = some d := e; cases e'
  | ref l =>
    obtain ⟨rfl, hl⟩ := r
    dsimp only [dat] at e
    cases h : m[l]? with
    | none => rw [h] at e; cases e
    | some o =>
      rw [h] at e
      cases o with
      | lst xs =>
        have e' : some (PyData.list xs) = some d := e
        cases e'
        obtain ⟨vs, q, r⟩ := R.ob l _ h
        exact .lst q r
      | _ => cases e

/-! ### what is wanted behind -/
/-- one more place is set aside -/
def Ads.plus (A : Ads) (a : Addr) : Ads := { A with Z := fun b => A.Z b ∨ b = a }
theorem box_plus {a b : Addr} (h : Box (A.plus a) f m b) : Box A f m b ∨ b = a := by
  rcases h with (z | z) | z
  · exact .inl (.inl z)
  · exact .inr z
  · exact .inl (.inr z)
theorem plus_box {a b : Addr} (h : Box A f m b ∨ b = a) : Box (A.plus a) f m b := by
  rcases h with (z | z) | z
  · exact .inl (.inl z)
  · exact .inr z
  · exact .inl (.inr z)
theorem rp_plus {a : Addr} {o : HO} (h : H a = none) {v : V} {d : PyData} (r : Rp H (Box A f m) v d) : Rp (upd H a o) (Box (A.plus a) f m) v d :=
  r.keep (fun b u e _ => up_new h b u e) fun b u e n z => (box_plus z).elim n fun z => by subst z; rw [h] at e; cases e
theorem rpAll_plus {a : Addr} {o : HO} (h : H a = none) {v : List V} {d : List PyData} (r : RpAll H (Box A f m) v d) : RpAll (upd H a o) (Box (A.plus a) f m) v d :=
  r.keep (fun b u e _ => up_new h b u e) fun b u e n z => (box_plus z).elim n fun z => by subst z; rw [h] at e; cases e
theorem rpS_plus {a : Addr} {o : HO} (h : H a = none) {v : V} : ∀ {x : SV}, RpS A f m H v x → RpS (A.plus a) f m (upd H a o) v x
  | .d _, r => rp_plus h r
  | .ref _, r => r
  | .fn _, r => r
  | .ext _, r => by
    obtain ⟨b, e, r⟩ := r
    rcases r with ⟨n, u, r⟩ | r
    · exact ⟨b, e, .inl ⟨fun z => (box_plus z).elim n (fun z => by subst z; rw [h] at r; cases r), u, up_new h _ _ r⟩⟩
    · exact ⟨b, e, .inr r⟩
theorem rpO_plus {a b : Addr} {o : HO} (h : H a = none) : ∀ {x : Ob}, RpO A f m H b x → RpO (A.plus a) f m (upd H a o) b x
  | .lst _, r => by obtain ⟨vs, e, r⟩ := r; exact ⟨vs, up_new h _ _ e, rpAll_plus h r⟩
  | .dk _, r => by obtain ⟨vs, e, r⟩ := r; exact ⟨vs, up_new h _ _ e, Paired.mapP r fun p q z => ⟨z.1, rpS_plus h z.2⟩⟩
  | .dt _, r => by obtain ⟨vs, e, r⟩ := r; exact ⟨vs, up_new h _ _ e, Paired.mapP r fun p q z => ⟨z.1, rpS_plus h z.2⟩⟩
  | .rcd _, r => by obtain ⟨vs, e, r⟩ := r; exact ⟨vs, up_new h _ _ e, Paired.mapP r fun p q z => ⟨z.1, rpS_plus h z.2⟩⟩
  | .ins _ _, r => r
  | .dead, _ => True.intro
theorem RS.plus {a : Addr} {o : HO} (R : RS A f m H) (h : H a = none) (hn : NT o := by first | exact True.intro | assumption) : RS (A.plus a) f m (upd H a o) := ⟨fun l ob e => rpO_plus h (R.ob l ob e), R.inj, fun b z => by
    rcases z with z | rfl
    · obtain ⟨u, e, n⟩ := R.zt b z
      exact ⟨u, up_new h _ _ e, n⟩
    · exact ⟨o, upd_same, hn⟩, fun b z => by
    rcases z with z | rfl
    · exact R.zl b z
    · exact fun l => R.nobox h (.inr l)⟩
/-- a new object that nothing else knows -/
def Fresh (A : Ads) (H0 : Hp) (f : Nat → Addr) (m : Sto) (H : Hp) (v : V) : SV → Prop
  | .d (.list ds) => ∀ a, v = .ref a → H0 a = none ∧ RS (A.plus a) f m H ∧ ∃ vs, H a = some (.lst vs) ∧ RpAll H (Box (A.plus a) f m) vs ds
  | _ => True
def ExcR (A : Ads) (H : Hp) (cl : Value) (d : Option Addr) (x : Exn) : Prop :=
  cl = .ref (A.Cl x.cls) ∧ (x.arg = none → d = none) ∧ ∀ y, x.arg = some y → ∃ dd nm v, d = some dd ∧ H dd = some (.xd [(nm, v)]) ∧ Rp H (fun _ => False) v y
abbrev Rel (α β : Type) := Hp → (Nat → Addr) → Sto → Hp → β → α → Prop
def Po {α β : Type} (A : Ads) (W : WX) (σ : L2.St) (Rl : Rel α β) (f : Nat → Addr) (m : Sto) (H : Hp) (r : Out α) (Q : β → Hp → Prop) : Prop := match r with
  | .bad => False
  | .ok x m' => ∀ f' H' v, RS A f' m' H' → Fra f m H f' m' H' → Rl H f' m' H' v x → Q v H'
  | .exc x m' => ∀ f' H' cl d, RS A f' m' H' → Fra f m H f' m' H' → ExcR A H' cl d x → W cl d σ H'
variable {α β γ δ : Type} {W : WX} {σ : L2.St}
theorem Po.imp {Rl : Rel α β} {r : Out α} {Q Q' : β → Hp → Prop} (h : Po A W σ Rl f m H r Q) (k : ∀ v H', Q v H' → Q' v H') : Po A W σ Rl f m H r Q' := by
  cases r with
  | bad => exact h
  | ok x m' => exact fun f' H' v a b c => k _ _ (h f' H' v a b c)
  | exc x m' => exact h
theorem Po.start {Rl : Rel α β} {r : Out α} {Q : β → Hp → Prop} (F : Fra f m H f1 m1 H1) (hR : ∀ f' m' H' v x, Rl H1 f' m' H' v x → Rl H f' m' H' v x) (h : Po A W σ Rl f m H r Q) : Po A W σ Rl f1 m1 H1 r Q := by
  cases r with
  | bad => exact h
  | ok x m' => exact fun f' H' v a b c => h f' H' v a (F.trans b) (hR _ _ _ _ _ c)
  | exc x m' => exact fun f' H' cl d a b c => h f' H' cl d a (F.trans b) c
theorem Po.bind {Ra : Rel α β} {Rc : Rel γ δ} {r : Out α} {k : α → Sto → Out γ} {Q : δ → Hp → Prop} (hR : ∀ H H1 f' m' H' v x, (∀ b, H1 b = none → H b = none) → Rc H1 f' m' H' v x → Rc H f' m' H' v x) (h : Po A W σ Rc f m H (r.bind k) Q) :
    Po A W σ Ra f m H r fun v H1 => ∃ f1 m1 x, RS A f1 m1 H1 ∧ Fra f m H f1 m1 H1 ∧ Ra H f1 m1 H1 v x ∧ Po A W σ Rc f1 m1 H1 (k x m1) Q := by
  cases r with
  | bad => exact h
  | ok x m' => exact fun f' H' v a b c => ⟨f', m', x, a, b, c, h.start b fun _ _ _ _ _ q => hR _ _ _ _ _ _ _ b.mono q⟩
  | exc x m' => exact h
theorem Po.rel {Ra Rb : Rel α β} {r : Out α} {Q : β → Hp → Prop} (hR : ∀ H f' m' H' v x, Rb H f' m' H' v x → Ra H f' m' H' v x) (h : Po A W σ Ra f m H r Q) : Po A W σ Rb f m H r Q := by
  cases r with
  | bad => exact h
  | ok x m' => exact fun f' H' v a b c => h f' H' v a b (hR _ _ _ _ _ _ c)
  | exc x m' => exact h
/-- values -/
def RlV (A : Ads) (fr : Bool) : Rel SV V := fun H f m H' v x => RpS A f m H' v x ∧ (fr = true → Fresh A H f m H' v x)
def RlB : Rel Bool Bool := fun _ _ _ _ v x => v = x
def RlA (A : Ads) : Rel (List SV) (List V) := fun _ f m H' vs xs => Paired (RpS A f m H') vs xs
def RlO : Rel (Option Int) (Option Int) := fun _ _ _ _ v x => v = x
theorem Fresh.mono {v : V} {H' : Hp} {f' : Nat → Addr} {m' : Sto} (k : ∀ b, H1 b = none → H b = none) : ∀ {x : SV}, Fresh A H1 f' m' H' v x → Fresh A H f' m' H' v x
  | .d (.list _), h => fun a e => ⟨k a (h a e).1, (h a e).2⟩
  | .d (.dict _), _ => True.intro
  | .d .none, _ => True.intro
  | .d (.bool _), _ => True.intro
  | .d (.int _), _ => True.intro
  | .d (.str _), _ => True.intro
  | .d (.tuple _), _ => True.intro
  | .ref _, _ => True.intro
  | .fn _, _ => True.intro
  | .ext _, _ => True.intro
theorem rlV_mono {fr : Bool} : ∀ H H1 f' m' H' v x, (∀ b, H1 b = none → H b = none) → RlV A fr H1 f' m' H' v x → RlV A fr H f' m' H' v x := fun _ _ _ _ _ _ _ k h => ⟨h.1, fun e => (h.2 e).mono k⟩
theorem Po.fr {fr : Bool} {r : Out SV} {Q : V → Hp → Prop} (h : Po A W σ (RlV A false) f m H r Q) : Po A W σ (RlV A fr) f m H r Q := h.rel fun _ _ _ _ _ _ z => ⟨z.1, fun e => nomatch e⟩
theorem rlB_mono : ∀ H H1 f' m' H' v x, (∀ b, H1 b = none → H b = none) → RlB H1 f' m' H' v x → RlB H f' m' H' v x := fun _ _ _ _ _ _ _ _ h => h
theorem rlA_mono : ∀ H H1 f' m' H' v x, (∀ b, H1 b = none → H b = none) → RlA A H1 f' m' H' v x → RlA A H f' m' H' v x := fun _ _ _ _ _ _ _ _ h => h
theorem rlO_mono : ∀ H H1 f' m' H' v x, (∀ b, H1 b = none → H b = none) → RlO H1 f' m' H' v x → RlO H f' m' H' v x := fun _ _ _ _ _ _ _ _ h => h
section
variable (A) (W) (C : Nat → List SV → Sto → Out SV)
def tE (e : E) : TE := fun σ H Q => ∃ f m ρ, RS A f m H ∧ RE A f m H σ ρ ∧ Po A W σ (RlV A (freshE e)) f m H (ev C e ρ m) Q
def tT (e : E) : TT := fun σ H Q => ∃ f m ρ, RS A f m H ∧ RE A f m H σ ρ ∧ Po A W σ RlB f m H ((ev C e ρ m).bind fun x m1 => Out.of ((dat m1 x).bind truD) m1) Q
def tA (es : Es) : TA := fun σ H Q => ∃ f m ρ, RS A f m H ∧ RE A f m H σ ρ ∧ Po A W σ (RlA A) f m H (evs C es ρ m) Q
def tO (e : Eo) : TO := fun σ H Q => ∃ f m ρ, RS A f m H ∧ RE A f m H σ ρ ∧ Po A W σ RlO f m H (evo C e ρ m) Q
end
end
section
variable {X : Cx}
theorem _root_.L2.PE.imp {e : Expr} {t t' : TE} (h : PE X e t) (k : ∀ σ H Q, t' σ H Q → t σ H Q) : PE X e t' := ⟨fun pins s σ H Q I q => h.run pins s σ H Q I (k _ _ _ q)⟩
theorem _root_.L2.PT.imp {e : Expr} {t t' : TT} (h : PT X e t) (k : ∀ σ H Q, t' σ H Q → t σ H Q) : PT X e t' := ⟨fun pins s σ H Q I q => h.run pins s σ H Q I (k _ _ _ q)⟩
theorem _root_.L2.PW.imp {e : Expr} {t t' : TT} (h : PW X e t) (k : ∀ σ H Q, t' σ H Q → t σ H Q) : PW X e t' := ⟨fun wh pins s σ H Q I q => h.run wh pins s σ H Q I (k _ _ _ q)⟩
theorem _root_.L2.PA.imp {e : List Expr} {t t' : TA} (h : PA X e t) (k : ∀ σ H Q, t' σ H Q → t σ H Q) : PA X e t' := ⟨fun pos pins s σ H Q I q => h.run pos pins s σ H Q I (k _ _ _ q)⟩
theorem _root_.L2.PO.imp {e : Option Expr} {t t' : TO} (h : PO X e t) (k : ∀ σ H Q, t' σ H Q → t σ H Q) : PO X e t' := ⟨fun pins s σ H Q I q => h.run pins s σ H Q I (k _ _ _ q)⟩
theorem _root_.L2.PS.imp {e : Stmt} {t t' : TS} (h : PS X e t) (k : ∀ D σ H, t' D σ H → t D σ H) : PS X e t' := ⟨fun pins s σ H D I q => h.run pins s σ H D I (k _ _ _ q)⟩
theorem _root_.L2.PSs.imp {e : List Stmt} {t t' : TS} (h : PSs X e t) (k : ∀ D σ H, t' D σ H → t D σ H) : PSs X e t' := ⟨fun pins s σ H D I q => h.run pins s σ H D I (k _ _ _ q)⟩
end

/-! ### operations: the data that comes, somewhere -/
section
variable {A : Ads} {f : Nat → Addr} {m : Sto} {H : Hp}
def Done (A : Ads) (f : Nat → Addr) (m : Sto) (H : Hp) (w : PyData) (Q : VK) : Prop := ∀ v' H', RS A f m H' → Fra f m H f m H' → Rp H' (Box A f m) v' w → Fresh A H f m H' v' (.d w) → Q v' H'
theorem Done.newL {vs : List V} {xs : List PyData} {Q : VK} (R : RS A f m H) (h : Done A f m H (.list xs) Q) (r : RpAll H (Box A f m) vs xs) : ∀ p, H p = none → Q (.ref p) (upd H p (.lst vs)) := fun p hp =>
  h _ _ ((up_new hp).rs R) (up_new hp).fra (.lst upd_same (R.nobox hp) ((up_new hp).rpAll r)) fun a e => by
    cases e
    exact ⟨hp, R.plus hp, vs, upd_same, rpAll_plus hp r⟩
theorem Done.newT {vs : List V} {xs : List PyData} {Q : VK} (R : RS A f m H) (h : Done A f m H (.tuple xs) Q) (r : RpAll H (Box A f m) vs xs) : ∀ p, H p = none → Q (.ref p) (upd H p (.tup vs)) := fun p hp =>
  h _ _ ((up_new hp).rs R) (up_new hp).fra (.tup upd_same (R.nobox hp) ((up_new hp).rpAll r)) True.intro
theorem Done.int {i : Int} {Q : VK} (R : RS A f m H) (h : Done A f m H (.int i) Q) : Q (.int i) H := h _ _ R Fra.refl (.int i) True.intro
theorem Done.bool {i : Bool} {Q : VK} (R : RS A f m H) (h : Done A f m H (.bool i) Q) : Q (.bl i) H := h _ _ R Fra.refl (.bl i) True.intro
theorem Done.str {i : Str} {Q : VK} (R : RS A f m H) (h : Done A f m H (.str i) Q) : Q (.str i) H := h _ _ R Fra.refl (.str i) True.intro
theorem Done.none {Q : VK} (R : RS A f m H) (h : Done A f m H .none Q) : Q .non H := h _ _ R Fra.refl .non True.intro
theorem Done.tupAt {v : V} {xs : List PyData} {Q : VK} (R : RS A f m H) (h : Done A f m H (.tuple xs) Q) (r : Rp H (Box A f m) v (.tuple xs)) : Q v H := h _ _ R Fra.refl r True.intro
theorem fits_le {n : Nat} (h : fitsN n = true) : n ≤ sizeLine := by
  rw [sizeLine_eq]; exact of_decide_eq_true h
theorem rpAll_rep {b : Addr → Prop} {vs : List V} {xs : List PyData} (r : RpAll H b vs xs) : ∀ n : Nat, RpAll H b (List.replicate n vs).flatten (List.replicate n xs).flatten
  | 0 => .nil
  | n + 1 => by
    rw [List.replicate_succ, List.replicate_succ, List.flatten_cons, List.flatten_cons]
    exact r.append (rpAll_rep r n)
def opB : BO → Operator
  | .add => .Add
  | .sub => .Sub
  | .mul => .Mult
  | .fdiv => .FloorDiv
  | .mod => .Mod
  | .pow => .Pow
def rB (K : PySem.W.Frag) : BO → R2
  | .add => fun x y H Q => rI0 (fun i j => .int (i + j)) x y H Q ∨ (∃ i j, x = .str i ∧ y = .str j ∧ i.length + j.length ≤ sizeLine ∧ Q (.str (i ++ j)) H) ∨ rCatA K x y H Q ∨ rCat x y H Q
  | .sub => rI0 fun i j => .int (i - j)
  | .mul => fun x y H Q => rI CMul (fun i j => .int (i * j)) x y H Q ∨ rRep1 K x y H Q ∨ rRepT K x y H Q
  | .fdiv => rI CDiv fun i j => .int (i / j)
  | .mod => rI (fun _ j => 0 < j) fun i j => .int (i % j)
  | .pow => rI CPow fun i j => .int (i ^ j.toNat)
theorem op_B {X : Cx} : ∀ o : BO, OpR X (binaryOp (opB o)) (rB X.K o)
  | .add => op_add.or (op_add_str.or (op_catA.or op_cat))
  | .sub => op_sub
  | .mul => op_mul.or (op_rep1.or op_repT)
  | .fdiv => op_fdiv
  | .mod => op_mod
  | .pow => op_pow
theorem bop_ok {o : BO} {x y : PyData} {w : PyData} {v u : V} {Q : VK} (R : RS A f m H) (rx : Rq H (Box A f m) v x) (ry : Rq H (Box A f m) u y) (e : bop o x y = some w) (h : Done A f m H w Q) : rB A.K o v u H Q := by
  unfold bop at e
  split at e
  · cases e; exact .inl ⟨_, _, rx.int, ry.int, h.int R⟩
  · split at e
    · cases e; exact .inr (.inl ⟨_, _, rx.str, ry.str, fits_le (by assumption), h.str R⟩)
    · cases e
  · split at e
    · cases e
      obtain ⟨a, xs, rfl, ea, na, ra⟩ := rx.tuple
      obtain ⟨b, ys, rfl, eb, nb, rb⟩ := ry.tuple
      refine .inr (.inr (.inl ⟨a, b, xs, ys, rfl, rfl, SqT.of ea, SqT.of eb, ?_, ?_⟩))
      · rw [ra.length, rb.length]; exact fits_le (by assumption)
      · refine ⟨fun z => ?_, fun _ z => ?_, fun _ _ => h.newT R (ra.append rb)⟩
        · subst z
          cases ra
          exact h.tupAt R (.tup eb nb (by simpa using rb))
        · subst z
          cases rb
          exact h.tupAt R (.tup ea na (by simpa using ra))
    · cases e
  · split at e
    · cases e
      obtain ⟨a, xs, rfl, ea, ra⟩ := rx.list
      obtain ⟨b, ys, rfl, eb, rb⟩ := ry.list
      exact .inr (.inr (.inr ⟨a, b, xs, ys, rfl, rfl, ea, eb, by rw [ra.length, rb.length]; exact fits_le (by assumption), h.newL R (ra.append rb)⟩))
    · cases e
  · cases e; exact ⟨_, _, rx.int, ry.int, h.int R⟩
  · split at e
    · cases e
      rename_i hc
      refine .inl ⟨_, _, rx.int, ry.int, ?_, h.int R⟩
      simp only [Bool.or_eq_true, small64, Bool.and_eq_true, decide_eq_true_eq] at hc
      exact hc
    · cases e
  · split at e
    · cases e
      rename_i xs0 k0 hc
      simp only [Bool.and_eq_true, decide_eq_true_eq, Bool.not_eq_true'] at hc
      obtain ⟨⟨⟨hk1, hk2⟩, hl0⟩, hne⟩ := hc
      obtain ⟨a, xs, rfl, ea, na, ra⟩ := rx.tuple
      have hlen := ra.length
      by_cases hk : k0 = 1
      · subst hk
        exact .inr (.inl ⟨a, xs, rfl, ry.int, SqT.of ea, h.tupAt R (.tup ea na (by simpa using ra))⟩)
      · refine .inr (.inr ⟨a, k0, xs, rfl, ry.int, SqT.of ea, fun z => ?_, by omega, by omega, by omega, h.newT R (rpAll_rep ra k0.toNat)⟩)
        subst z
        cases ra
        cases hne
    · cases e
  · split at e
    · cases e
      rename_i hc
      simp only [Bool.and_eq_true, decide_eq_true_eq] at hc
      exact ⟨_, _, rx.int, ry.int, hc, h.int R⟩
    · cases e
  · split at e
    · cases e
      exact ⟨_, _, rx.int, ry.int, by assumption, h.int R⟩
    · cases e
  · split at e
    · cases e
      rename_i hc
      simp only [Bool.and_eq_true, decide_eq_true_eq] at hc
      exact ⟨_, _, rx.int, ry.int, ⟨hc.1.1, by omega, hc.2⟩, h.int R⟩
    · cases e
  · cases e
end
end Pil

set_option Elab.async false
set_option linter.all false
set_option autoImplicit false
set_option maxRecDepth 100000
set_option maxHeartbeats 4000000
namespace Pil
open PySem PySem.Spec PyProof.Rows L2

section
variable {A : Ads} {f : Nat → Addr} {m : Sto} {H : Hp}
/-! ### comparisons -/
def opC : CO → CmpOp
  | .eq => .Eq
  | .ne => .NotEq
  | .lt => .Lt
  | .le => .LtE
  | .gt => .Gt
  | .ge => .GtE
  | .is => .Is
  | .isnot => .IsNot
  | .isin => .In
  | .notin => .NotIn
def rC (K : PySem.W.Frag) : CO → R2
  | .eq => fun x y H Q => rEq x y H Q ∨ rEqD K x y H Q
  | .ne => fun x y H Q => rNe x y H Q ∨ rNeD K x y H Q
  | .lt => fun x y H Q => rI0 (fun i j => .bl (decide (i < j))) x y H Q ∨ ∃ i j, x = .str i ∧ y = .str j ∧ Q (.bl (decide (i.cps.toList < j.cps.toList))) H
  | .le => rI0 fun i j => .bl (decide (i ≤ j))
  | .gt => rI0 fun i j => .bl (decide (j < i))
  | .ge => rI0 fun i j => .bl (decide (j ≤ i))
  | .is => fun x y H Q => (y = .non ∧ Q (.bl (decide (x = .non))) H) ∨ ∃ a b, x = .bl a ∧ y = .bl b ∧ Q (.bl (decide (a = b))) H
  | .isnot => fun x y H Q => (y = .non ∧ Q (.bl (!decide (x = .non))) H) ∨ ∃ a b, x = .bl a ∧ y = .bl b ∧ Q (.bl (!decide (a = b))) H
  | .isin => fun x y H Q => (∃ i j, x = .str i ∧ y = .str j ∧ Q (.bl (!(Builtin.Str.occurrences j i 0 j.length 1).isEmpty)) H) ∨ rIn K false x y H Q
  | .notin => fun x y H Q => (∃ i j, x = .str i ∧ y = .str j ∧ Q (.bl (!(!(Builtin.Str.occurrences j i 0 j.length 1).isEmpty))) H) ∨ rIn K true x y H Q
theorem op_C {X : Cx} (hu : X.A.units + 64 < cLine) : ∀ o : CO, OpR X (compareOp (opC o)) (rC X.K o)
  | .eq => op_eq.or (op_eqD hu)
  | .ne => op_ne.or (op_neD hu)
  | .lt => op_lt.or op_lt_str
  | .le => op_le
  | .gt => op_gt
  | .ge => op_ge
  | .is => op_isN.or op_is_bl
  | .isnot => op_notN.or op_isnot_bl
  | .isin => op_in_str.or op_in_seq
  | .notin => op_notIn_str.or op_notIn_seq
theorem eqD_ok {x y : PyData} {k : Bool} {v u : V} (rx : Rq H (Box A f m) v x) (ry : Rq H (Box A f m) u y) (e : eqD x y = some k) {Q : VK} :
    (Q (.bl k) H → rC A.K .eq v u H Q) ∧ (Q (.bl (!k)) H → rC A.K .ne v u H Q) := by
  have one : scal v u = true → decide (v = u) = k → (Q (.bl k) H → rC A.K .eq v u H Q) ∧ (Q (.bl (!k)) H → rC A.K .ne v u H Q) := fun hs e => by
    subst e
    exact ⟨fun q => .inl ⟨hs, q⟩, fun q => .inl ⟨hs, q⟩⟩
  unfold eqD at e
  split at e
  · rename_i es
    cases e
    unfold eqS at es
    split at es
    · cases es
      rw [rx.str, ry.str] at *
      exact one rfl (by rw [Bool.eq_iff_iff]; simp)
    · cases es
      rw [rx.int, ry.int] at *
      exact one rfl (by rw [Bool.eq_iff_iff]; simp)
    · cases es
      rw [rx.bool, ry.bool] at *
      exact one rfl (by rw [Bool.eq_iff_iff]; simp)
    · cases es
  · split at e
    · cases e
      rename_i hc
      simp only [Bool.and_eq_true] at hc
      exact ⟨fun q => .inr ⟨x, y, rx.dp, ry.dp, hc.1, hc.2, q⟩, fun q => .inr ⟨x, y, rx.dp, ry.dp, hc.1, hc.2, q⟩⟩
    · cases e
theorem eqF_ok {x y : PyData} {v u : V} {B : Addr → Prop} (rx : Rp H B v x) (ry : Rp H B u y) (fx : flatD x = true) (fy : flatD y = true) : eqF x y = eqV v u := by
  cases rx <;> cases ry <;> first | rfl | (simp [flatD] at fx; done) | (simp [flatD] at fy; done)
theorem flat_ok {x : PyData} {v : V} {B : Addr → Prop} (rx : Rp H B v x) (fx : flatD x = true) : flatV v = true := by
  cases rx <;> first | rfl | (simp [flatD] at fx; done)
theorem flatAll_ok {B : Addr → Prop} : ∀ {vs : List V} {xs : List PyData}, RpAll H B vs xs → xs.all flatD = true → vs.all flatV = true
  | _, _, .nil, _ => rfl
  | _, _, .cons r t, h => by
    rw [List.all_cons, Bool.and_eq_true] at h ⊢
    exact ⟨flat_ok r h.1, flatAll_ok t h.2⟩
theorem anyF_ok {B : Addr → Prop} {x : PyData} {v : V} (rx : Rp H B v x) (fx : flatD x = true) : ∀ {vs : List V} {xs : List PyData}, RpAll H B vs xs → xs.all flatD = true → (xs.any fun y => eqF y x) = inV v vs
  | _, _, .nil, _ => rfl
  | _, _, .cons r t, h => by
    rw [List.all_cons, Bool.and_eq_true] at h
    show (eqF _ _ || _) = (eqV _ _ || _)
    rw [eqF_ok r rx h.1 fx]
    congr 1
    exact anyF_ok rx fx t h.2
theorem Rq.flat {B : Addr → Prop} {v : V} {x : PyData} (r : Rq H B v x) (h : flatD x = true) : Rp H B v x := by
  cases r with
  | of r => exact r
  | lst _ _ => simp [flatD] at h
theorem mem_ok {x : PyData} {xs : List PyData} {k : Bool} {v : V} {p : Addr} {vs : List V} {neg : Bool} (rx : Rq H (Box A f m) v x) (hs : SqL A.K H p vs ∨ SqT A.K H p vs) (r : RpAll H (Box A f m) vs xs) (e : memD x xs = some k) {Q : VK}
    (q : Q (.bl (if neg then !k else k)) H) : rIn A.K neg v (.ref p) H Q := by
  unfold memD at e
  split at e
  · cases e
    rename_i hc
    simp only [Bool.and_eq_true] at hc
    refine ⟨p, vs, rfl, hs, flat_ok (rx.flat hc.1) hc.1, flatAll_ok r hc.2, ?_⟩
    rw [anyF_ok (rx.flat hc.1) hc.1 r hc.2] at q
    exact q
  · cases e
theorem inD_ok {x y : PyData} {k : Bool} {v u : V} (rx : Rq H (Box A f m) v x) (ry : Rq H (Box A f m) u y) (e : inD x y = some k) {Q : VK} :
    (Q (.bl k) H → rC A.K .isin v u H Q) ∧ (Q (.bl (!k)) H → rC A.K .notin v u H Q) := by
  unfold inD at e
  split at e
  · cases e
    exact ⟨fun q => .inl ⟨_, _, rx.str, ry.str, q⟩, fun q => .inl ⟨_, _, rx.str, ry.str, q⟩⟩
  · obtain ⟨a, xs, rfl, ea, ra⟩ := ry.list
    exact ⟨fun q => .inr (mem_ok rx (.inl (SqL.of ea)) ra e q), fun q => .inr (mem_ok rx (.inl (SqL.of ea)) ra e q)⟩
  · obtain ⟨a, xs, rfl, ea, _, ra⟩ := ry.tuple
    exact ⟨fun q => .inr (mem_ok rx (.inr (SqT.of ea)) ra e q), fun q => .inr (mem_ok rx (.inr (SqT.of ea)) ra e q)⟩
  · cases e
theorem isN_ok {x : PyData} {v : V} {B : Addr → Prop} (rx : Rq H B v x) : decide (v = .non) = isNone x := by
  cases rx with
  | of r => cases r <;> rfl
  | lst _ _ => rfl
theorem isD_ok {x y : PyData} {k : Bool} {v u : V} (rx : Rq H (Box A f m) v x) (ry : Rq H (Box A f m) u y) (e : isD x y = some k) {Q : VK} :
    (Q (.bl k) H → rC A.K .is v u H Q) ∧ (Q (.bl (!k)) H → rC A.K .isnot v u H Q) := by
  unfold isD at e
  split at e
  · cases e
    refine ⟨fun q => .inl ⟨ry.none, ?_⟩, fun q => .inl ⟨ry.none, ?_⟩⟩
    · rw [isN_ok rx]; exact q
    · rw [isN_ok rx]; exact q
  · cases e
    rename_i a b
    have ed : decide (a = b) = (a == b) := by cases a <;> cases b <;> rfl
    refine ⟨fun q => .inr ⟨_, _, rx.bool, ry.bool, ?_⟩, fun q => .inr ⟨_, _, rx.bool, ry.bool, ?_⟩⟩
    · rw [ed]; exact q
    · rw [ed]; exact q
  · cases e
theorem cop_ok {o : CO} {x y : PyData} {k : Bool} {v u : V} {Q : VK} (rx : Rq H (Box A f m) v x) (ry : Rq H (Box A f m) u y) (e : cop o x y = some k) (h : Q (.bl k) H) : rC A.K o v u H Q := by
  unfold cop at e
  split at e
  · exact (eqD_ok rx ry e).1 h
  · obtain ⟨k', e', rfl⟩ := Option.map_eq_some_iff.mp e
    exact (eqD_ok rx ry e').2 h
  · cases e; exact .inl ⟨_, _, rx.int, ry.int, h⟩
  · cases e; exact ⟨_, _, rx.int, ry.int, h⟩
  · cases e; exact ⟨_, _, rx.int, ry.int, h⟩
  · cases e; exact ⟨_, _, rx.int, ry.int, h⟩
  · cases e; exact .inr ⟨_, _, rx.str, ry.str, h⟩
  · exact (isD_ok rx ry e).1 h
  · obtain ⟨k', e', rfl⟩ := Option.map_eq_some_iff.mp e
    exact (isD_ok rx ry e').2 h
  · exact (inD_ok rx ry e).1 h
  · obtain ⟨k', e', rfl⟩ := Option.map_eq_some_iff.mp e
    exact (inD_ok rx ry e').2 h
  · cases e

/-! ### truth -/
theorem isEmpty_rp {B : Addr → Prop} {vs : List V} {xs : List PyData} (r : RpAll H B vs xs) : xs.isEmpty = vs.isEmpty := by cases r <;> rfl
theorem tru_D {x : PyData} {k : Bool} {v : V} {B : Addr → Prop} (rx : Rq H B v x) (e : truD x = some k) : TruV A.K v H k := by
  cases x with
  | none => cases e; rw [rx.none]; rfl
  | bool b => cases e; rw [rx.bool]; rfl
  | int i => cases e; rw [rx.int]; rfl
  | str y =>
    dsimp only [truD] at e
    split at e
    · cases e; rw [rx.str]; exact ⟨fits_le (by assumption), rfl⟩
    · cases e
  | list xs =>
    cases e
    obtain ⟨a, vs, rfl, ea, ra⟩ := rx.list
    exact .inl ⟨vs, SqL.of ea, by rw [isEmpty_rp ra]⟩
  | tuple xs =>
    cases e
    obtain ⟨a, vs, rfl, ea, _, ra⟩ := rx.tuple
    exact .inr (.inl ⟨vs, SqT.of ea, by rw [isEmpty_rp ra]⟩)
  | dict _ => cases e

/-! ### places, slices -/
theorem atI_ok {B : Addr → Prop} {vs : List V} {xs : List PyData} {i : Int} {w : PyData} (r : RpAll H B vs xs) (e : atI xs i = some w) : ∃ v, atI vs i = some v ∧ Rp H B v w := by
  unfold atI at e ⊢
  rw [r.length]
  cases h : ixN xs.length i with
  | none => rw [h] at e; cases e
  | some j =>
    rw [h] at e
    exact r.get e
theorem ix_ok {x y : PyData} {w : PyData} {v u : V} {Q : VK} (R : RS A f m H) (rx : Rq H (Box A f m) v x) (ry : Rq H (Box A f m) u y) (e : ixD x y = some w) (h : ∀ v', Rp H (Box A f m) v' w → Q v' H) : rIx A.K v u H Q := by
  unfold ixD at e
  split at e
  · obtain ⟨a, xs, rfl, ea, ra⟩ := rx.list
    obtain ⟨v', h1, h2⟩ := atI_ok ra e
    exact .inl ⟨a, xs, _, v', rfl, ry.int, SqL.of ea, h1, h v' h2⟩
  · obtain ⟨a, xs, rfl, ea, _, ra⟩ := rx.tuple
    obtain ⟨v', h1, h2⟩ := atI_ok ra e
    exact .inr (.inl ⟨a, xs, _, v', rfl, ry.int, SqT.of ea, h1, h v' h2⟩)
  · split at e
    · obtain ⟨c, e1, rfl⟩ := Option.map_eq_some_iff.mp e
      exact .inr (.inr ⟨_, _, c, rx.str, ry.int, fits_le (by assumption), e1, h _ (.str _)⟩)
    · cases e
  · cases e
def rSl (K : PySem.W.Frag) : V → Option Int → Option Int → Hp → VK → Prop := fun x lo hi H Q => rSlL K x lo hi H Q ∨ rSlA K x lo hi H Q ∨ rSlS x lo hi H Q
theorem sl_all {X : Cx} : SlR X (rSl X.K) := sl_list.or (sl_tupA.or sl_str)
theorem cut_ok {B : Addr → Prop} {vs : List V} {xs : List PyData} (r : RpAll H B vs xs) (lo hi : Option Int) : RpAll H B (cutV vs lo hi) (cutD xs lo hi) := by
  unfold cutV cutD
  rw [r.length]
  exact (r.drop _).take _
theorem cut_whole {α : Type} {xs : List α} {lo hi : Option Int} (h : HT.sIx xs.length 0 lo = 0 ∧ HT.sIx xs.length xs.length hi = xs.length) : cutD xs lo hi = xs := by
  unfold cutD
  rw [h.1, h.2]
  simp
theorem rpAll_ints {B : Addr → Prop} : ∀ ns : List Int, RpAll H B (ns.map V.int) (ns.map PyData.int)
  | [] => .nil
  | n :: r => .cons (.int n) (rpAll_ints r)
theorem sl_ok {x : SV} {y : PyData} {w : PyData} {v : V} {lo hi : Option Int} {Q : VK} (R : RS A f m H) (rx : RpS A f m H v x) (ed : datX m x = some y) (e : slD y lo hi = some w) (h : Done A f m H w Q) : rSl A.K v lo hi H Q := by
  have key : ∀ {a : Addr} {vs : List V} {xs : List PyData}, SqL A.K H a vs → RpAll H (Box A f m) vs xs → Done A f m H (.list (cutD xs lo hi)) Q → rSl A.K (.ref a) lo hi H Q := fun hs r hd =>
    .inl ⟨_, _, rfl, hs, hd.newL R (cut_ok r lo hi)⟩
  by_cases hx : ∃ ns, x = .ext ns
  · obtain ⟨ns, rfl⟩ := hx
    have ed' : some (PyData.list (ns.map .int)) = some y := ed
    cases ed'
    cases e
    obtain ⟨a, rfl, r⟩ := rx
    refine key ?_ (rpAll_ints ns) h
    rcases r with ⟨_, o, r⟩ | r
    · exact .inl (.inr ⟨o, r⟩)
    · exact .inr r
  · have ed' : dat m x = some y := by
      cases x with
      | ext ns => exact absurd ⟨ns, rfl⟩ hx
      | _ => exact ed
    have rq := dat_rq R rx ed'
    unfold slD at e
    split at e
    · cases e
      obtain ⟨a, xs, rfl, ea, ra⟩ := rq.list
      exact key (SqL.of ea) ra h
    · cases e
      obtain ⟨a, xs, rfl, ea, na, ra⟩ := rq.tuple
      refine .inr (.inl ⟨a, xs, rfl, SqT.of ea, fun z => ?_, fun _ => h.newT R (cut_ok ra lo hi)⟩)
      have z' := z
      rw [ra.length] at z'
      rw [cut_whole z'] at h
      exact h.tupAt R (.tup ea na ra)
    · split at e
      · cases e
        exact .inr (.inr ⟨_, rq.str, fits_le (by assumption), h.str R⟩)
      · cases e
    · cases e
end
end Pil

set_option Elab.async false
set_option linter.all false
set_option autoImplicit false
set_option maxRecDepth 100000
set_option maxHeartbeats 4000000
namespace Pil
open PySem PySem.Spec PyProof.Rows L2

/-! ### repr and sorted of data of any depth -/
def rRepr (K : PySem.W.Frag) : List V → Hp → VK → Prop := fun xs H Q => ∃ x d, xs = [x] ∧ Dp K H x d ∧ d.showable = true ∧ d.hasDict = false ∧ isDisplay d = true ∧ d.depth ≤ 60 ∧ d.shown.length ≤ sizeLine ∧ Q (.str d.shown) H
def rSrt (K : PySem.W.Frag) : List V → Hp → VK → Prop := fun xs H Q => ∃ a vs ds, xs = [.ref a] ∧ SqL K H a vs ∧ DpAll K H vs ds ∧ PySem.W.AllAlike ds ∧ PySem.W.Sortable ds ∧ (∀ d ∈ ds, d.depth ≤ 40) ∧ vs.length ≤ sizeLine ∧
  ∀ zs : List (V × PyData), zs.Perm (vs.zip ds) → zs.map (·.2) = ds.mergeSort (PySem.W.dataLe false id) → ∀ p, H p = none → Q (.ref p) (upd H p (.lst (zs.map (·.1))))
section
variable {X : Cx}
theorem cr_repr (hg : X.A.guards = some []) (hu : X.A.units + 64 < cLine) : CallR X (.builtin "repr") (rRepr X.K) := by
  intro pins s σ H xs us Q I r h
  obtain ⟨x, d, rfl, hd, h1, h2, h3, h4, h5, q⟩ := h
  cases r with
  | cons r1 r2 =>
    cases r2
    obtain ⟨as, rd⟩ := Dp.reads I d _ _ hd r1
    obtain ⟨a, rfl⟩ := isRef_of_reads rd h3
    exact repr_of_reads' rd h1 (PyData.noDict_hsm h2) hg (by omega) (fun _ _ e => e) (fun h' u tk hk => ⟨.str d.shown, H, I.kept hk, ⟨u, rfl⟩, q⟩) h5
theorem dpAll_len {K : PySem.W.Frag} {H : Hp} : ∀ {vs : List V} {ds : List PyData}, DpAll K H vs ds → vs.length = ds.length
  | _, _, .nil => rfl
  | _, _, .cons _ t => by rw [List.length_cons, List.length_cons, dpAll_len t]
theorem each_rel : ∀ {vs : List V} {us : List Value} {ds : List PyData}, Vals vs us → vs.length = ds.length → PySem.W.EachIs (fun (u : Value) (b : V × PyData) => RelV b.1 u) us (vs.zip ds)
  | _, _, [], .nil, _ => .nil
  | _, _, _ :: _, .nil, h => by cases h
  | _, _, [], .cons _ _, h => by cases h
  | _, _, _ :: _, .cons r t, h => .cons r (each_rel t (Nat.succ.inj h))
theorem each_reads {pins : List (Addr × Obj)} {σ : L2.St} {H : Hp} {s : Shared} (I : Inv X pins σ H s) : ∀ {vs : List V} {us : List Value} {ds : List PyData}, Vals vs us → DpAll X.K H vs ds → PySem.W.EachIs (fun (u : Value) (b : V × PyData) => ∃ as, Reads s.heap u b.2 as) us (vs.zip ds)
  | _, _, _, .nil, .nil => .nil
  | _, _, _, .cons r t, .cons d t' => .cons (Dp.reads I _ _ _ d r) (each_reads I t t')
theorem each_vals : ∀ {us : List Value} {zs : List (V × PyData)}, PySem.W.EachIs (fun (u : Value) (b : V × PyData) => RelV b.1 u) us zs → Vals (zs.map (·.1)) us
  | _, _, .nil => .nil
  | _, _, .cons r t => .cons r (each_vals t)
theorem sort_snd {zs : List (V × PyData)} {ds : List PyData} (h : zs.map (·.2) = ds) : (zs.mergeSort (PySem.W.dataLe false (·.2))).map (·.2) = ds.mergeSort (PySem.W.dataLe false id) := by
  subst h
  exact List.map_mergeSort fun a _ b _ => rfl
theorem cr_srt (hu : X.A.units + 64 < cLine) : CallR X (.builtin "sorted") (rSrt X.K) := by
  intro pins s σ H xs us Q I r h
  obtain ⟨a, vs, ds, rfl, hs, hd, hal, hk, hdp, hl, q⟩ := h
  obtain ⟨its, rv, hpl, hz⟩ := I.list hs
  cases r with
  | cons r1 r2 =>
    cases r2
    cases r1
    have hlen := dpAll_len hd
    have esnd : (vs.zip ds).map (·.2) = ds := List.map_snd_zip (Nat.le_of_eq hlen.symm)
    refine PySem.W.sorted_data (bs := vs.zip ds) (enc := (·.2)) (R := fun (u : Value) (b : V × PyData) => RelV b.1 u) hpl.isList (each_rel rv hlen) (each_reads I rv hd) (by rw [esnd]; exact hal) (by rw [esnd]; exact hk) (by rw [List.length_zip]; omega) (fun b hb => ?_) fun out ho he => ?_
    · have : b.2 ∈ ds := by rw [← esnd]; exact List.mem_map.mpr ⟨b, hb, rfl⟩
      have := hdp _ this
      omega
    · have hsz : out.length ≤ sizeLine := by rw [ho, List.length_zip]; omega
      obtain ⟨n, hn⟩ := sortedAll_at s.heap its out.toArray
      have hv := each_vals he
      have hp : H (s.heap.objs.size + 1) = none := I.hok.fresh (Nat.le_succ _)
      have hq := q _ (List.mergeSort_perm (vs.zip ds) (PySem.W.dataLe false (·.2))) (sort_snd esnd) _ hp
      refine ⟨.ref (s.heap.objs.size + 1), upd H (s.heap.objs.size + 1) (.lst (((vs.zip ds).mergeSort (PySem.W.dataLe false (·.2))).map (·.1))), I.laid (t' := s.toks) (fun b o e => sortedAll_old e) (Nat.le_succ _) ?_, rfl, hq⟩
      exact ⟨by rw [hv.length]; exact hsz, out, n, hv, hn⟩
end
section
variable {A : Ads} {f : Nat → Addr} {m : Sto} {H : Hp} {B : Addr → Prop}
theorem rp_zip : ∀ {vs : List V} {ds : List PyData}, RpAll H B vs ds → ∀ z ∈ vs.zip ds, Rp H B z.1 z.2
  | _, _, .nil, _, h => by cases h
  | _, _, .cons r t, z, h => by
    rcases List.mem_cons.mp h with rfl | h
    · exact r
    · exact rp_zip t z h
theorem rp_unzip : ∀ {zs : List (V × PyData)}, (∀ z ∈ zs, Rp H B z.1 z.2) → RpAll H B (zs.map (·.1)) (zs.map (·.2))
  | [], _ => .nil
  | z :: zs, h => .cons (h z List.mem_cons_self) (rp_unzip fun y hy => h y (List.mem_cons_of_mem _ hy))
theorem sortD_is {xs ys : List PyData} (e : sortD xs = some ys) : PySem.W.AllAlike xs ∧ PySem.W.Sortable xs ∧ (∀ d ∈ xs, d.depth ≤ 40) ∧ xs.length ≤ sizeLine ∧ ys = xs.mergeSort (PySem.W.dataLe false id) := by
  unfold sortD at e
  split at e
  case isFalse => cases e
  rename_i hc
  cases e
  simp only [Bool.and_eq_true, List.all_eq_true, decide_eq_true_eq, Bool.or_eq_true] at hc
  obtain ⟨⟨⟨h1, h2⟩, h3⟩, h4⟩ := hc
  refine ⟨fun d hd d' hd' => h1 d hd d' hd', ?_, h3, fits_le h4, rfl⟩
  rcases h2 with h2 | h2
  · refine .inl fun d hd => ?_
    have := h2 d hd
    unfold tupNe at this
    split at this
    · exact ⟨_, _, rfl⟩
    · cases this
  · refine .inr fun d hd => ?_
    have := h2 d hd
    unfold noTupD at this
    split at this
    · cases this
    · cases this
    · rename_i n1 n2
      exact ⟨n1, n2⟩
theorem dispD_is {d : PyData} (h : dispD d = true) : isDisplay d = true := by
  cases d <;> first | rfl | cases h
end
end Pil

set_option Elab.async false
set_option linter.all false
set_option autoImplicit false
set_option maxRecDepth 100000
set_option maxHeartbeats 4000000
namespace Pil
open PySem PySem.Spec PyProof.Rows L2
open AutoSeq1 (wpAny_loadPart')

theorem ext_tup (l : Addr) (items : Array Value) (n : Nat) (b : Addr) (items2 : Array Value) (n2 : Nat) (dd : Option Addr) (sl : Array (Option Value)) (q0 : ¬(!items.isEmpty && Builtin.List.listTooLong (items.size + items2.size)) = true) (q1 : items.size ≤ sizeLine) (q2 : items.size + items2.size ≤ sizeLine + 1) :
    Meets (Builtin.«list.extend» ⟨[.ref l, .ref b], []⟩) (fun _ R s => s.heap.get? l = some { cls := .type "list", dict := none, data := .seq items n, slots := #[] } ∧ s.heap.get? b = some { cls := .type "tuple", dict := dd, data := .seq items2 n2, slots := sl } ∧
      R (.ok (.ret Value.none)) { s with heap := s.heap.update l (Obj.mapSeq fun x => x ++ items2), toks := s.toks }) :=
  .of_wp fun prog w A R s h => by
    obtain ⟨hp, g, d, tk, os⟩ := s
    obtain ⟨hl, hb, h⟩ := h
    have f1 := AutoSeq1.idx_int
    have f2 := AutoSeq1.sub_tuple_tuple
    have f3 := AutoSeq1.sub_list_list
    have f4 := AutoSeq1.sub_tuple_list
    have f5 := AutoSeq1.sub_list_tuple
    have hz' : (items ++ items2).size ≤ sizeLine + 1 := by rw [Array.size_append]; exact q2
    wp_walk using (wpAny_updateSeq hl rfl (hz := q1) (_hz' := hz')), wpAny_loadPart' hl, wpAny_loadPart' hb
    exact ⟨_, rfl, h⟩
def rExtT (K : PySem.W.Frag) : V → List V → Hp → VK → Prop := fun x vs H Q => ∃ l b xs zs, x = .ref l ∧ vs = [.ref b] ∧ H l = some (.lst xs) ∧ SqT K H b zs ∧ xs.length + zs.length ≤ sizeLine ∧ Q .non (upd H l (.lst (xs ++ zs)))
section
variable {X : Cx}
theorem mt_extT : MtM X "list.extend" (rExtT X.K) := by
  intro pins s σ H x vs v us Q I rx rv h
  obtain ⟨l, b, xs, zs, rfl, rfl, hH, hB, hz, q⟩ := h
  cases rx
  obtain ⟨u, rfl, ru⟩ := rv.one
  cases ru
  obtain ⟨z, its, n, r, hl, e⟩ := I.lstM hH
  obtain ⟨its2, r2, ⟨⟨cls, dd, data, sl⟩, ho, hc, n2, hd⟩, hl2⟩ := I.tuple hB
  simp only at hc hd
  subst hc hd
  have l2 := r2.length
  have hsz : its.toArray.size + its2.toArray.size ≤ sizeLine := by rw [List.size_toArray, List.size_toArray]; omega
  have hlong : ¬ (!its.toArray.isEmpty && Builtin.List.listTooLong (its.toArray.size + its2.toArray.size)) = true := by
    rw [notLongL hsz, Bool.and_false]
    exact Bool.false_ne_true
  refine call_meets F.slot_list_extend ⟨_, e, rfl⟩ F.entry_list_extend (F.args_list_extend_2 _ _)
    (ext_tup l its.toArray n b its2.toArray n2 dd sl hlong (by rw [List.size_toArray]; omega) (by omega)) ⟨e, ho, ?_⟩
  refine ⟨.non, _, I.lset (its' := its ++ its2) hH e (by simp) (r.append r2) ?_, rfl, q⟩
  rw [List.length_append]
  omega
def rExt (K : PySem.W.Frag) : V → List V → Hp → VK → Prop := fun x vs H Q => rExtend x vs H Q ∨ rExtT K x vs H Q
theorem mt_ext2 : MtM X "list.extend" (rExt X.K) := fun pins s σ H x xs v us Q I rx rs h => h.elim (mt_extend pins s σ H x xs v us Q I rx rs) (mt_extT pins s σ H x xs v us Q I rx rs)
def rCnt (K : PySem.W.Frag) (T : Bool) : V → List V → Hp → VK → Prop := fun x vs H Q => ∃ a y xs d ds, x = .ref a ∧ vs = [y] ∧ (if T = true then SqT K H a xs else SqL K H a xs) ∧ DpAll K H xs ds ∧ Dp K H y d ∧ PyData.plainAll ds = true ∧ d.plain = true ∧ d.depth = 0 ∧
  Q (.int ((ds.countP fun z => PyData.eqv z d : Nat) : Int)) H
theorem mt_lcnt (hu : X.A.units + 64 < cLine) : MtM X "list.count" (rCnt X.K false) := by
  intro pins s σ H x vs v us Q I rx rv h
  obtain ⟨a, y, xs, d, ds, rfl, rfl, hs, ha, hy, h1, h2, h3, q⟩ := h
  cases rx
  obtain ⟨u, rfl, ru⟩ := rv.one
  rw [if_neg Bool.false_ne_true] at hs
  obtain ⟨its, rv, hpl, hz⟩ := I.list hs
  obtain ⟨as, hr⟩ := Dp.readsAll I ds _ _ ha rv
  obtain ⟨bs, hx⟩ := Dp.reads I d _ _ hy ru
  exact PySem.SeqAt.count_list_data hpl.isList hr hx h1 h2 (by omega) ⟨.int _, H, I.tok _, ⟨_, rfl⟩, q⟩
theorem mt_tcnt (hu : X.A.units + 64 < cLine) : MtM X "tuple.count" (rCnt X.K true) := by
  intro pins s σ H x vs v us Q I rx rv h
  obtain ⟨a, y, xs, d, ds, rfl, rfl, hs, ha, hy, h1, h2, h3, q⟩ := h
  cases rx
  obtain ⟨u, rfl, ru⟩ := rv.one
  rw [if_pos rfl] at hs
  obtain ⟨its, rv, hpl, hz⟩ := I.tuple hs
  obtain ⟨as, hr⟩ := Dp.readsAll I ds _ _ ha rv
  obtain ⟨bs, hx⟩ := Dp.reads I d _ _ hy ru
  exact PySem.SeqAt.count_tuple_data hpl hr hx h1 h2 (by omega) ⟨.int _, H, I.tok _, ⟨_, rfl⟩, q⟩
end
end Pil

set_option Elab.async false
set_option linter.all false
set_option autoImplicit false
set_option maxRecDepth 100000
set_option maxHeartbeats 4000000
namespace Pil
open PySem PySem.Spec PyProof.Rows L2

/-! ### built-in functions -/
def bfN : BF → String
  | .len => "len"
  | .int => "int"
  | .str => "str"
  | .list => "list"
  | .tuple => "tuple"
  | .sum => "sum"
  | .max => "max"
  | .min => "min"
  | .all => "all"
  | .any => "any"
  | .abs => "abs"
  | .repr => "repr"
  | .sorted => "sorted"
def bfTy : BF → Bool
  | .int => true
  | .str => true
  | .list => true
  | .tuple => true
  | _ => false
def bfV (f : BF) : Value := if bfTy f then .type (bfN f) else .builtin (bfN f)
def rF (K : PySem.W.Frag) : BF → List V → Hp → VK → Prop
  | .len => fun xs H Q => ∃ x n, xs = [x] ∧ LenV K x H n ∧ Q (.int n) H
  | .int => fun xs H Q => (∃ i, xs = [.int i] ∧ Q (.int i) H) ∨ ∃ k, xs = [.bl k] ∧ Q (.int (if k then 1 else 0)) H
  | .str => fun xs H Q => ∃ i, xs = [.int i] ∧ i.natAbs.log2 < 1920 ∧ Q (.str (toString i)) H
  | .list => fun xs H Q => ∃ p ys, xs = [.ref p] ∧ (SqL K H p ys ∨ SqT K H p ys) ∧ ∀ l, H l = none → Q (.ref l) (upd H l (.lst ys))
  | .tuple => fun xs H Q => ∃ p ys, xs = [.ref p] ∧ ((SqL K H p ys ∧ ∀ l, H l = none → Q (.ref l) (upd H l (.tup ys))) ∨ (SqT K H p ys ∧ Q (.ref p) H))
  | .sum => rSum K
  | .max => fun xs H Q => rMax K xs H Q ∨ ∃ i j, xs = [.int i, .int j] ∧ Q (.int (if j > i then j else i)) H
  | .min => fun xs H Q => rMin K xs H Q ∨ ∃ i j, xs = [.int i, .int j] ∧ Q (.int (if j < i then j else i)) H
  | .all => rAll K
  | .any => rAny K
  | .abs => fun xs H Q => ∃ i, xs = [.int i] ∧ Q (.int (if i < 0 then -i else i)) H
  | .repr => rRepr K
  | .sorted => rSrt K
theorem cr_F {X : Cx} (hc : X.calm = true) (hgd : X.A.guards = some []) (hu : X.A.units + 64 < cLine) : ∀ g : BF, CallR X (bfV g) (rF X.K g)
  | .len => call_len
  | .int => call_int1
  | .str => call_str_int
  | .list => call_list_of
  | .tuple => call_tuple_of
  | .sum => cr_sum hc
  | .max => (cr_max hc).or (call_max2 hc)
  | .min => (cr_min hc).or (call_min2 hc)
  | .all => cr_all hc
  | .any => cr_any hc
  | .abs => call_abs
  | .repr => cr_repr hgd hu
  | .sorted => cr_srt hu
theorem bf_boot (g : BF) : bootBuiltins (Str.ofString (bfN g)) = some (bfV g) := by
  cases g <;> decide +kernel
theorem bf_name (g : BF) : (Str.ofString (bfN g)) ≠ ("__name__" : Str) := by cases g <;> decide +kernel
theorem bf_debug (g : BF) : (Str.ofString (bfN g) == ("__debug__" : Str)) = false := by cases g <;> decide +kernel

section
variable {A : Ads} {f : Nat → Addr} {m : Sto} {H : Hp}
abbrev RqAll (H : Hp) (B : Addr → Prop) : List V → List PyData → Prop := Paired (Rq H B)
theorem RqAll.one {B : Addr → Prop} {vs : List V} {x : PyData} (r : RqAll H B vs [x]) : ∃ v, vs = [v] ∧ Rq H B v x := by
  cases r with
  | cons r t => cases t; exact ⟨_, rfl, r⟩
theorem RqAll.two {B : Addr → Prop} {vs : List V} {x y : PyData} (r : RqAll H B vs [x, y]) : ∃ v u, vs = [v, u] ∧ Rq H B v x ∧ Rq H B u y := by
  cases r with
  | cons r t =>
    cases t with
    | cons r' t => cases t; exact ⟨_, _, rfl, r, r'⟩
theorem datAll_rq (R : RS A f m H) : ∀ {xs : List SV} {vs : List V} {ds : List PyData}, Paired (RpS A f m H) vs xs → datAll m xs = some ds → RqAll H (Box A f m) vs ds
  | _, _, _, .nil, e => by
    have e' : some [] = some _ := e
    cases e'; exact .nil
  | _, _, _, .cons r t, e => by
    unfold datAll at e
    obtain ⟨y, e1, e2⟩ := Option.bind_eq_some_iff.mp e
    obtain ⟨ys, e3, rfl⟩ := Option.map_eq_some_iff.mp e2
    exact .cons (dat_rq R r e1) (datAll_rq R t e3)
theorem datP_rp : ∀ {xs : List SV} {vs : List V} {ds : List PyData}, Paired (RpS A f m H) vs xs → datP xs = some ds → RpAll H (Box A f m) vs ds
  | _, _, _, .nil, e => by
    have e' : some [] = some _ := e
    cases e'; exact .nil
  | x :: xs, _, _, .cons r t, e => by
    cases x with
    | d y =>
      unfold datP at e
      obtain ⟨ys, e3, rfl⟩ := Option.map_eq_some_iff.mp e
      exact .cons r (datP_rp t e3)
    | _ => cases e
theorem foldl_max_ge (r : List Int) : ∀ n : Int, n ≤ r.foldl max n ∧ ∀ y ∈ r, y ≤ r.foldl max n := by
  induction r with
  | nil => intro n; exact ⟨Int.le_refl _, fun y h => by cases h⟩
  | cons a r ih =>
    intro n
    obtain ⟨h1, h2⟩ := ih (max n a)
    refine ⟨Int.le_trans (Int.le_max_left n a) h1, fun y h => ?_⟩
    rcases List.mem_cons.mp h with rfl | h
    · exact Int.le_trans (Int.le_max_right n _) h1
    · exact h2 y h
theorem foldl_max_mem (r : List Int) : ∀ n : Int, r.foldl max n = n ∨ r.foldl max n ∈ r := by
  induction r with
  | nil => intro n; exact .inl rfl
  | cons a r ih =>
    intro n
    rcases ih (max n a) with h | h
    · rcases (show max n a = n ∨ max n a = a by omega) with e | e
      · left; rw [List.foldl_cons, h, e]
      · right; rw [List.foldl_cons, h, e]; exact List.mem_cons_self
    · right; exact List.mem_cons_of_mem _ h
theorem maxI_is {ns : List Int} {k m : Int} (e : maxI ns = some k) (hm : m ∈ ns) (hle : ∀ y, y ∈ ns → y ≤ m) : m = k := by
  cases ns with
  | nil => cases e
  | cons n r =>
    have e' : some (r.foldl max n) = some k := e
    cases e'
    obtain ⟨h1, h2⟩ := foldl_max_ge r n
    have a : m ≤ r.foldl max n := by
      rcases List.mem_cons.mp hm with rfl | h
      · exact h1
      · exact h2 m h
    have b : r.foldl max n ≤ m := by
      rcases foldl_max_mem r n with h | h
      · rw [h]; exact hle _ List.mem_cons_self
      · exact hle _ (List.mem_cons_of_mem _ h)
    omega
theorem foldl_min_le (r : List Int) : ∀ n : Int, r.foldl min n ≤ n ∧ ∀ y ∈ r, r.foldl min n ≤ y := by
  induction r with
  | nil => intro n; exact ⟨Int.le_refl _, fun y h => by cases h⟩
  | cons a r ih =>
    intro n
    obtain ⟨h1, h2⟩ := ih (min n a)
    refine ⟨Int.le_trans h1 (Int.min_le_left n a), fun y h => ?_⟩
    rcases List.mem_cons.mp h with rfl | h
    · exact Int.le_trans h1 (Int.min_le_right n _)
    · exact h2 y h
theorem foldl_min_mem (r : List Int) : ∀ n : Int, r.foldl min n = n ∨ r.foldl min n ∈ r := by
  induction r with
  | nil => intro n; exact .inl rfl
  | cons a r ih =>
    intro n
    rcases ih (min n a) with h | h
    · rcases (show min n a = n ∨ min n a = a by omega) with e | e
      · left; rw [List.foldl_cons, h, e]
      · right; rw [List.foldl_cons, h, e]; exact List.mem_cons_self
    · right; exact List.mem_cons_of_mem _ h
theorem minI_is {ns : List Int} {k m : Int} (e : minI ns = some k) (hm : m ∈ ns) (hle : ∀ y, y ∈ ns → m ≤ y) : m = k := by
  cases ns with
  | nil => cases e
  | cons n r =>
    have e' : some (r.foldl min n) = some k := e
    cases e'
    obtain ⟨h1, h2⟩ := foldl_min_le r n
    have a : r.foldl min n ≤ m := by
      rcases List.mem_cons.mp hm with rfl | h
      · exact h1
      · exact h2 m h
    have b : m ≤ r.foldl min n := by
      rcases foldl_min_mem r n with h | h
      · rw [h]; exact hle _ List.mem_cons_self
      · exact hle _ (List.mem_cons_of_mem _ h)
    omega
theorem bfn_ok {g : BF} {xs : List PyData} {w : PyData} {vs : List V} {Q : VK} (R : RS A f m H) (r : RqAll H (Box A f m) vs xs) (e : bfn g xs = some w) (h : Done A f m H w Q) : rF A.K g vs H Q := by
  unfold bfn at e
  split at e
  · cases e
    obtain ⟨v, rfl, rv⟩ := r.one
    obtain ⟨a, ys, rfl, ea, ra⟩ := rv.list
    exact ⟨_, _, rfl, .inl ⟨ys, SqL.of ea, ra.length.symm⟩, h.int R⟩
  · cases e
    obtain ⟨v, rfl, rv⟩ := r.one
    obtain ⟨a, ys, rfl, ea, _, ra⟩ := rv.tuple
    exact ⟨_, _, rfl, .inr ⟨ys, SqT.of ea, ra.length.symm⟩, h.int R⟩
  · split at e
    · cases e
      obtain ⟨v, rfl, rv⟩ := r.one
      rw [rv.str]
      exact ⟨_, _, rfl, ⟨fits_le (by assumption), rfl⟩, h.int R⟩
    · cases e
  · cases e
    obtain ⟨v, rfl, rv⟩ := r.one
    rw [rv.int]
    exact .inl ⟨_, rfl, h.int R⟩
  · cases e
    obtain ⟨v, rfl, rv⟩ := r.one
    rw [rv.bool]
    exact .inr ⟨_, rfl, h.int R⟩
  · split at e
    · cases e
      obtain ⟨v, rfl, rv⟩ := r.one
      rw [rv.int]
      exact ⟨_, rfl, of_decide_eq_true (by assumption), h.str R⟩
    · cases e
  · cases e
    obtain ⟨v, rfl, rv⟩ := r.one
    obtain ⟨a, ys, rfl, ea, ra⟩ := rv.list
    exact ⟨a, ys, rfl, .inl (SqL.of ea), h.newL R ra⟩
  · cases e
    obtain ⟨v, rfl, rv⟩ := r.one
    obtain ⟨a, ys, rfl, ea, _, ra⟩ := rv.tuple
    exact ⟨a, ys, rfl, .inr (SqT.of ea), h.newL R ra⟩
  · cases e
    obtain ⟨v, rfl, rv⟩ := r.one
    obtain ⟨a, ys, rfl, ea, ra⟩ := rv.list
    exact ⟨a, ys, rfl, .inl ⟨SqL.of ea, h.newT R ra⟩⟩
  · cases e
    obtain ⟨v, rfl, rv⟩ := r.one
    obtain ⟨a, ys, rfl, ea, na, ra⟩ := rv.tuple
    exact ⟨a, ys, rfl, .inr ⟨SqT.of ea, h.tupAt R (.tup ea na ra)⟩⟩
  · obtain ⟨ns, e1, rfl⟩ := Option.map_eq_some_iff.mp e
    obtain ⟨v, rfl, rv⟩ := r.one
    obtain ⟨a, ys, rfl, ea, ra⟩ := rv.list
    cases ra.ints e1
    exact ⟨a, ns, rfl, SqL.of ea, h.int R⟩
  · obtain ⟨ns, e1, e2⟩ := Option.bind_eq_some_iff.mp e
    obtain ⟨k, e3, rfl⟩ := Option.map_eq_some_iff.mp e2
    obtain ⟨v, rfl, rv⟩ := r.one
    obtain ⟨a, ys, rfl, ea, ra⟩ := rv.list
    cases ra.ints e1
    refine .inl ⟨a, ns, rfl, SqL.of ea, ?_, fun m hm hle => ?_⟩
    · cases ns with
      | nil => cases e3
      | cons _ _ => exact Nat.succ_pos _
    · rw [maxI_is e3 hm hle]; exact h.int R
  · obtain ⟨ns, e1, e2⟩ := Option.bind_eq_some_iff.mp e
    obtain ⟨k, e3, rfl⟩ := Option.map_eq_some_iff.mp e2
    obtain ⟨v, rfl, rv⟩ := r.one
    obtain ⟨a, ys, rfl, ea, ra⟩ := rv.list
    cases ra.ints e1
    refine .inl ⟨a, ns, rfl, SqL.of ea, ?_, fun m hm hle => ?_⟩
    · cases ns with
      | nil => cases e3
      | cons _ _ => exact Nat.succ_pos _
    · rw [minI_is e3 hm hle]; exact h.int R
  · cases e
    obtain ⟨v, u, rfl, rv, ru⟩ := r.two
    rw [rv.int, ru.int]
    exact .inr ⟨_, _, rfl, h.int R⟩
  · cases e
    obtain ⟨v, u, rfl, rv, ru⟩ := r.two
    rw [rv.int, ru.int]
    exact .inr ⟨_, _, rfl, h.int R⟩
  · obtain ⟨ns, e1, rfl⟩ := Option.map_eq_some_iff.mp e
    obtain ⟨v, rfl, rv⟩ := r.one
    obtain ⟨a, ys, rfl, ea, ra⟩ := rv.list
    cases ra.bools e1
    exact ⟨a, ns, rfl, SqL.of ea, h.bool R⟩
  · obtain ⟨ns, e1, rfl⟩ := Option.map_eq_some_iff.mp e
    obtain ⟨v, rfl, rv⟩ := r.one
    obtain ⟨a, ys, rfl, ea, ra⟩ := rv.list
    cases ra.bools e1
    exact ⟨a, ns, rfl, SqL.of ea, h.bool R⟩
  · cases e
    obtain ⟨v, rfl, rv⟩ := r.one
    rw [rv.int]
    exact ⟨_, rfl, h.int R⟩
  · split at e
    · cases e
      rename_i hc
      simp only [Bool.and_eq_true, decide_eq_true_eq, Bool.not_eq_true'] at hc
      obtain ⟨⟨⟨⟨c1, c2⟩, c3⟩, c4⟩, c5⟩ := hc
      obtain ⟨v, rfl, rv⟩ := r.one
      exact ⟨v, _, rfl, rv.dp, c1, c2, dispD_is c3, c4, fits_le c5, h.str R⟩
    · cases e
  · obtain ⟨ys, e1, rfl⟩ := Option.map_eq_some_iff.mp e
    obtain ⟨c1, c2, c3, c4, rfl⟩ := sortD_is e1
    obtain ⟨v, rfl, rv⟩ := r.one
    obtain ⟨a, ws, rfl, ea, ra⟩ := rv.list
    refine ⟨a, ws, _, rfl, SqL.of ea, ra.dp, c1, c2, c3, by rw [ra.length]; exact c4, fun zs hp hz p hn => ?_⟩
    have rz := rp_unzip (zs := zs) fun z hz => rp_zip ra z (hp.mem_iff.mp hz)
    rw [hz] at rz
    exact h.newL R rz p hn
  · cases e
end

/-! ### methods of built-in classes -/
def mfT : MF → String
  | .append => "list"
  | .pop => "list"
  | .insert => "list"
  | .lindex => "list"
  | .lcount => "list"
  | .sindex => "str"
  | .join => "str"
  | .startswith => "str"
def mfN : MF → String
  | .append => "append"
  | .pop => "pop"
  | .insert => "insert"
  | .lindex => "index"
  | .lcount => "count"
  | .sindex => "index"
  | .join => "join"
  | .startswith => "startswith"
def mfI : MF → String
  | .append => "list.append"
  | .pop => "list.pop"
  | .insert => "list.insert"
  | .lindex => "list.index"
  | .lcount => "list.count"
  | .sindex => "str.index"
  | .join => "str.join"
  | .startswith => "str.startswith"
def rM (K : PySem.W.Frag) : MF → V → List V → Hp → VK → Prop
  | .append => rAppend
  | .pop => fun x vs H Q => rPop x vs H Q ∨ rPopAt x vs H Q
  | .insert => fun x vs H Q => ∃ (l : Addr) (xs : List V) (i : Int) (y : V), x = .ref l ∧ vs = [.int i, y] ∧ H l = some (.lst xs) ∧ xs.length < sizeLine ∧ 0 ≤ i ∧ i < 2 ^ 63 ∧
    Q .non (upd H l (.lst (xs.take i.toNat ++ [y] ++ xs.drop i.toNat)))
  | .lindex => rIndex K
  | .lcount => rCnt K false
  | .sindex => fun x xs H Q => ∃ (a b : Str) (k : Nat), x = .str a ∧ xs = [.str b] ∧ Txt.index0 a b = some k ∧ Q (.int (k : Nat)) H
  | .join => fun x xs H Q => ∃ a p, ∃ ys : List Str, x = .str a ∧ xs = [.ref p] ∧ (SqL K H p (ys.map V.str) ∨ SqT K H p (ys.map V.str)) ∧
    (ys.map (·.length)).sum + ys.length * a.length ≤ 16777216 ∧ Q (.str (Txt.join a ys)) H
  | .startswith => fun x xs H Q => ∃ a b, x = .str a ∧ xs = [.str b] ∧ Q (.bl (Txt.startswith a b)) H
theorem mt_sindex {X : Cx} : MtR X "str.index" (rM X.K .sindex) := by
  intro pins s σ H x xs v us Q I rx rs h
  obtain ⟨a, b, k, rfl, rfl, hk, q⟩ := h
  obtain ⟨t, rfl⟩ := rx
  cases rs with
  | cons r1 rs =>
    cases rs
    obtain ⟨u, rfl⟩ := r1
    unfold Txt.index0 at hk
    cases e : Builtin.Str.occurrences a b 0 a.length 1 with
    | nil => rw [e] at hk; cases hk
    | cons k' rest =>
      rw [e] at hk
      cases hk
      exact PySem.SC.index e ⟨.int (k : Nat), H, I.tok _, ⟨_, rfl⟩, q⟩
theorem mt_pop2 {X : Cx} : MtR X "list.pop" (rM X.K .pop) := fun pins s σ H x xs v us Q I rx rs h => h.elim (mt_pop pins s σ H x xs v us Q I rx rs) (mt_popAt pins s σ H x xs v us Q I rx rs)
theorem mt_M {X : Cx} (hu : X.A.units + 64 < cLine) : ∀ q : MF, MtR X (mfI q) (rM X.K q)
  | .append => mt_append
  | .pop => mt_pop2
  | .insert => mt_insert
  | .lindex => mt_index
  | .lcount => mt_lcnt hu
  | .sindex => mt_sindex
  | .join => mt_join
  | .startswith => mt_startswith
theorem mf_pa : ∀ q : MF, PlainAttrs (mfT q)
  | .append => F.plainAttrs_list
  | .pop => F.plainAttrs_list
  | .insert => F.plainAttrs_list
  | .lindex => F.plainAttrs_list
  | .lcount => F.plainAttrs_list
  | .sindex => F.plainAttrs_str
  | .join => F.plainAttrs_str
  | .startswith => F.plainAttrs_str
theorem mf_slot : ∀ q : MF, Slot (mfT q) (Str.ofString (mfN q)) (mfI q)
  | .append => F.slot_list_append
  | .pop => F.slot_list_pop
  | .insert => F.slot_list_insert
  | .lindex => F.slot_list_index
  | .lcount => F.slot_list_count
  | .sindex => F.slot_str_index
  | .join => F.slot_str_join
  | .startswith => F.slot_str_startswith
theorem mf_type : ∀ q : MF, typeOf (.builtin (mfI q)) = pure (.type "method_descriptor")
  | .append => F.type_list_append
  | .pop => F.type_list_pop
  | .insert => F.type_list_insert
  | .lindex => F.type_list_index
  | .lcount => F.type_list_count
  | .sindex => F.type_str_index
  | .join => F.type_str_join
  | .startswith => F.type_str_startswith
section
variable {A : Ads} {f : Nat → Addr} {m : Sto} {H : Hp}
theorem findIdx_ok {B : Addr → Prop} {y : PyData} {u : V} (ry : Rp H B u y) (fy : flatD y = true) : ∀ {vs : List V} {xs : List PyData} {j : Nat}, RpAll H B vs xs → xs.all flatD = true → xs.findIdx? (fun z => eqF z y) = some j →
    ∃ z, vs[j]? = some z ∧ eqV z u = true ∧ ∀ (i : Nat) (z' : V), i < j → vs[i]? = some z' → eqV z' u = false
  | _, _, _, .nil, _, e => by simp at e
  | v :: vs, x :: xs, j, .cons r t, h, e => by
    rw [List.all_cons, Bool.and_eq_true] at h
    rw [List.findIdx?_cons] at e
    split at e
    · cases e
      rename_i hx
      refine ⟨v, rfl, by rw [← eqF_ok r ry h.1 fy]; exact hx, fun i z' hi => by omega⟩
    · rename_i hx
      obtain ⟨j', e1, rfl⟩ := Option.map_eq_some_iff.mp e
      obtain ⟨z, h1, h2, h3⟩ := findIdx_ok ry fy t h.2 e1
      refine ⟨z, by simpa using h1, h2, fun i z' hi hz => ?_⟩
      cases i with
      | zero =>
        have hz' : some v = some z' := hz
        cases hz'
        rw [← eqF_ok r ry h.1 fy]
        simpa using hx
      | succ i => exact h3 i z' (by omega) (by simpa using hz)
theorem tyV_list {K : PySem.W.Frag} {B : Addr → Prop} {v : V} {xs : List PyData} (r : Rq H B v (.list xs)) : tyV K "list" v H := by
  obtain ⟨a, ys, rfl, ea, _⟩ := r.list
  exact .inl ⟨rfl, ys, SqL.of ea⟩
theorem flat_plain {d : PyData} (h : flatD d = true) : d.plain = true ∧ d.depth = 0 := by
  cases d <;> first | (simp [flatD] at h; done) | exact ⟨by simp [PyData.plain], by simp [PyData.depth]⟩
theorem flat_plainAll : ∀ {xs : List PyData}, xs.all flatD = true → PyData.plainAll xs = true
  | [], _ => by simp [PyData.plainAll]
  | x :: xs, h => by
    rw [List.all_cons, Bool.and_eq_true] at h
    rw [PyData.plainAll, (flat_plain h.1).1, flat_plainAll h.2]; rfl
theorem mfn_ty {q : MF} {x : PyData} {xs : List PyData} {w : PyData} {v : V} {B : Addr → Prop} {K : PySem.W.Frag} (r : Rq H B v x) (e : mfn q x xs = some w) : tyV K (mfT q) v H := by
  unfold mfn at e
  split at e
  · rw [r.str]; rfl
  · rw [r.str]; rfl
  · exact tyV_list r
  · rw [r.str]; rfl
  · exact tyV_list r
  · cases e
theorem mfn_ok {q : MF} {x : PyData} {xs : List PyData} {w : PyData} {v : V} {vs : List V} {Q : VK} (R : RS A f m H) (rx : Rq H (Box A f m) v x) (r : RqAll H (Box A f m) vs xs) (e : mfn q x xs = some w) (h : Done A f m H w Q) : rM A.K q v vs H Q := by
  unfold mfn at e
  split at e
  · obtain ⟨ys, e1, e2⟩ := Option.bind_eq_some_iff.mp e
    split at e2
    · cases e2
      obtain ⟨u, rfl, ru⟩ := r.one
      obtain ⟨a, zs, rfl, ea, ra⟩ := ru.list
      cases ra.strs e1
      rw [rx.str]
      exact ⟨_, a, ys, rfl, rfl, .inl (SqL.of ea), of_decide_eq_true (by assumption), h.str R⟩
    · cases e2
  · cases e
    obtain ⟨u, rfl, ru⟩ := r.one
    rw [rx.str, ru.str]
    exact ⟨_, _, rfl, rfl, h.bool R⟩
  · obtain ⟨j, e1, rfl⟩ := Option.map_eq_some_iff.mp e
    obtain ⟨u, rfl, ru⟩ := r.one
    obtain ⟨a, zs, rfl, ea, ra⟩ := rx.list
    unfold indexD at e1
    split at e1
    · rename_i hc
      simp only [Bool.and_eq_true] at hc
      obtain ⟨z, h1, h2, h3⟩ := findIdx_ok (ru.flat hc.1) hc.1 ra hc.2 e1
      exact ⟨a, zs, u, j, z, rfl, rfl, SqL.of ea, flat_ok (ru.flat hc.1) hc.1, flatAll_ok ra hc.2, h1, h2, h3, h.int R⟩
    · cases e1
  · obtain ⟨j, e1, rfl⟩ := Option.map_eq_some_iff.mp e
    obtain ⟨u, rfl, ru⟩ := r.one
    rw [rx.str, ru.str]
    exact ⟨_, _, j, rfl, rfl, e1, h.int R⟩
  · split at e
    · cases e
      rename_i hc
      simp only [Bool.and_eq_true] at hc
      obtain ⟨u, rfl, ru⟩ := r.one
      obtain ⟨a, zs, rfl, ea, ra⟩ := rx.list
      exact ⟨a, u, zs, _, _, rfl, rfl, by rw [if_neg Bool.false_ne_true]; exact SqL.of ea, ra.dp, ru.dp, flat_plainAll hc.2, (flat_plain hc.1).1, (flat_plain hc.1).2, h.int R⟩
    · cases e
  · cases e

/-! ### a boxed list is changed -/
theorem upd_up {l : Nat} {o o' : Ob} {u : HO} (R : RS A f m H) (e : m[l]? = some o) (n : o ≠ Ob.dead) (n' : o' ≠ Ob.dead) :
    (∀ b v, H b = some v → ¬ Live f m b → upd H (f l) u b = some v) ∧ (∀ b, Live f (m.set l o') b ↔ Live f m b) := by
  have hl : l < m.length := (List.getElem?_eq_some_iff.mp e).1
  refine ⟨fun b v hb nb => ?_, fun b => ⟨?_, ?_⟩⟩
  · rw [upd_ne (fun z => nb ⟨l, o, e, n, z.symm⟩)]; exact hb
  · rintro ⟨k, ob, h1, h2, h3⟩
    by_cases hk : l = k
    · subst hk; exact ⟨l, o, e, n, h3⟩
    · rw [List.getElem?_set_ne hk] at h1; exact ⟨k, ob, h1, h2, h3⟩
  · rintro ⟨k, ob, h1, h2, h3⟩
    by_cases hk : l = k
    · subst hk; exact ⟨l, o', by rw [List.getElem?_set_self hl], n', h3⟩
    · exact ⟨k, ob, by rw [List.getElem?_set_ne hk]; exact h1, h2, h3⟩
/-- a live object gets new content -/
theorem RS.put {l : Nat} {o o' : Ob} {u : HO} (R : RS A f m H) (e : m[l]? = some o) (n : o ≠ Ob.dead) (n' : o' ≠ Ob.dead) (r : RpO A f (m.set l o') (upd H (f l) u) (f l) o') :
    RS A f (m.set l o') (upd H (f l) u) ∧ Fra f m H f (m.set l o') (upd H (f l) u) := by
  have hl : l < m.length := (List.getElem?_eq_some_iff.mp e).1
  obtain ⟨hk, hb⟩ := upd_up (o' := o') (u := u) R e n n'
  have F : Fra f m H f (m.set l o') (upd H (f l) u) := by
    refine ⟨fun _ _ => rfl, fun k ob h h1 _ => ?_, hk, by rw [List.length_set]; exact Nat.le_refl _, fun k hd => ?_, fun b hb => ?_⟩
    · have := (List.getElem?_eq_some_iff.mp h1).1
      rw [List.length_set] at this; omega
    · by_cases hkl : l = k
      · subst hkl; rw [e] at hd; cases hd; exact absurd rfl n
      · rw [List.getElem?_set_ne hkl]; exact hd
    · by_cases z : b = f l
      · subst z; rw [upd_same] at hb; cases hb
      · rw [upd_ne z] at hb; exact hb
  have rpS : ∀ {v : V} {x : SV}, RpS A f m H v x → RpS A f (m.set l o') (upd H (f l) u) v x := fun {v x} r => F.rpS r
  refine ⟨⟨fun k ob h => ?_, fun k k' ob ob' h h' d d' z => ?_, fun a z => ?_, fun a z => ?_⟩, F⟩
  · by_cases hkl : l = k
    · subst hkl
      rw [List.getElem?_set_self hl] at h
      cases h
      exact r
    · rw [List.getElem?_set_ne hkl] at h
      have rk := R.ob k ob h
      have ne : ob ≠ Ob.dead → f k ≠ f l := fun d z => hkl (R.inj k l ob o h e d n z).symm
      cases ob with
      | lst xs =>
        obtain ⟨vs, q, r⟩ := rk
        exact ⟨vs, by rw [upd_ne (ne (fun z => nomatch z))]; exact q, F.rpAll r⟩
      | dk fs =>
        obtain ⟨vs, q, r⟩ := rk
        exact ⟨vs, by rw [upd_ne (ne (fun z => nomatch z))]; exact q, Paired.mapP r fun _ _ z => ⟨z.1, rpS z.2⟩⟩
      | dt fs =>
        obtain ⟨vs, q, r⟩ := rk
        exact ⟨vs, by rw [upd_ne (ne (fun z => nomatch z))]; exact q, Paired.mapP r fun _ _ z => ⟨z.1, rpS z.2⟩⟩
      | rcd fs =>
        obtain ⟨vs, q, r⟩ := rk
        exact ⟨vs, by rw [upd_ne (ne (fun z => nomatch z))]; exact q, Paired.mapP r fun _ _ z => ⟨z.1, rpS z.2⟩⟩
      | ins _ _ => exact rk
      | dead => exact True.intro
  · have live : ∀ {j : Nat} {oj : Ob}, (m.set l o')[j]? = some oj → oj ≠ Ob.dead → ∃ oj', m[j]? = some oj' ∧ oj' ≠ Ob.dead := fun {j oj} hj dj => by
      by_cases hjl : l = j
      · subst hjl; exact ⟨o, e, n⟩
      · rw [List.getElem?_set_ne hjl] at hj; exact ⟨oj, hj, dj⟩
    obtain ⟨o1, a1, a2⟩ := live h d
    obtain ⟨o2, b1, b2⟩ := live h' d'
    exact R.inj k k' o1 o2 a1 b1 a2 b2 z
  · by_cases z' : a = f l
    · subst z'; exact absurd ⟨l, o, e, n, rfl⟩ (R.zl _ z)
    · obtain ⟨ob, q, nq⟩ := R.zt a z
      exact ⟨ob, by rw [upd_ne z']; exact q, nq⟩
  · exact fun z' => R.zl a z ((hb a).mp z')
end
end Pil

set_option Elab.async false
set_option linter.all false
set_option autoImplicit false
set_option maxRecDepth 100000
set_option maxHeartbeats 4000000
namespace Pil
open PySem PySem.Spec PyProof.Rows L2

/-! ### the text beside the terms -/
structure Ctx where
  N : List Str
  sc : Scope
  raw : Scope
  G : Nat → Option Fn
  gc : List (Str × Const)
def Ctx.vis (c : Ctx) (x : Str) : Bool := match c.sc.names.lookup x with
  | some .local => true
  | some .cell => true
  | some .free => true
  | _ => false
def Ctx.loc (c : Ctx) (x : Str) : Bool := match c.raw.names.lookup x with
  | some .local => true
  | some .cell => true
  | _ => false
def Ctx.glob (c : Ctx) (x : Str) : Bool := match c.sc.names.lookup x with
  | some .globalImplicit => true
  | _ => false
def nodbg (x : Str) : Bool := !(x == ("__debug__" : Str)) && !(x == ("__classdict__" : Str))
def tkN : TK → String
  | .int => "int"
  | .bool => "bool"
  | .str => "str"
  | .tuple => "tuple"
  | .list => "list"
  | .dict => "dict"
def okC : Const → Bool
  | .none => true
  | .bool _ => true
  | .int _ => true
  | .str _ => true
  | _ => false
def noSuper : Expr → Bool
  | .Call (.Name id _) [] [] _ => id != "super"
  | _ => true
def noSlice : Expr → Bool
  | .Slice _ _ none _ => false
  | _ => true
def noSet : Expr → Bool
  | .Set _ _ _ => false
  | _ => true
def minusOne : Option Expr → Bool
  | some (.UnaryOp .USub (.Constant (.int 1) _ _) _) => true
  | _ => false
def ownL (N : List Str) (own : List Nat) : List (Str × Nat) := own.filterMap fun i => (N[i]?).map fun x => (x, i)
def blkCtx (c : Ctx) (scope : Scope) : Ctx := { c with sc := relS scope c.sc, raw := scope }
mutual
def mTg (c : Ctx) : Tg → Expr → Bool
  | .nm i, .Name x _ => c.N[i]? == some x && c.loc x
  | .tp ts, .Tuple es _ _ => mTgs c ts es
  | _, _ => false
def mTgs (c : Ctx) : Tgs → List Expr → Bool
  | .nil, [] => true
  | .cons t ts, e :: es => mTg c t e && mTgs c ts es
  | _, _ => false
end
mutual
def tgIn (own : List Nat) : Tg → Bool
  | .nm i => own.contains i
  | .tp ts => tgsIn own ts
def tgsIn (own : List Nat) : Tgs → Bool
  | .nil => true
  | .cons t ts => tgIn own t && tgsIn own ts
end
/-- no conditional expression where truth is asked -/
def tst : E → Bool
  | .ite .. => false
  | .box _ => false
  | .nt a => tst a
  | .and2 a b => tst a && tst b
  | .or2 a b => tst a && tst b
  | _ => true
mutual
def mE : Ctx → E → Expr → Bool
  | c, .var i, ex => match ex with
    | .Name x _ => c.N[i]? == some x && c.vis x && nodbg x
    | _ => false
  | c, .cst k, ex => match ex with
    | .Constant k' _ _ => k == k' && okC k
    | _ => false
  | c, .gcs x k, ex => match ex with
    | .Name y _ => x == y && c.glob x && nodbg x && c.gc.lookup x == some k && okC k
    | _ => false
  | c, .bin o a b, ex => match ex with
    | .BinOp l op r _ => op == opB o && mE c a l && mE c b r
    | _ => false
  | c, .neg a, ex => match ex with
    | .UnaryOp .USub x _ => mE c a x
    | _ => false
  | c, .nt a, ex => match ex with
    | .UnaryOp .Not x _ => mE c a x
    | _ => false
  | c, .and2 a b, ex => match ex with
    | .BoolOp .And (x :: y :: []) _ => mE c a x && mE c b y
    | .BoolOp .And (x :: y :: z :: r) p => mE c a x && mE c b (.BoolOp .And (y :: z :: r) p)
    | _ => false
  | c, .or2 a b, ex => match ex with
    | .BoolOp .Or (x :: y :: []) _ => mE c a x && mE c b y
    | .BoolOp .Or (x :: y :: z :: r) p => mE c a x && mE c b (.BoolOp .Or (y :: z :: r) p)
    | _ => false
  | c, .cmp o a b, ex => match ex with
    | .Compare l [op] [r] _ => op == opC o && mE c a l && mE c b r && noSet r
    | _ => false
  | c, .cmp2 o p a b d, ex => match ex with
    | .Compare l [op, op'] [r, s] _ => op == opC o && op' == opC p && mE c a l && mE c b r && mE c d s && noSet r && noSet s
    | _ => false
  | c, .ite d a b, ex => match ex with
    | .IfExp t x y _ => tst d && mE c d t && mE c a x && mE c b y
    | _ => false
  | c, .tup es, ex => match ex with
    | .Tuple xs _ _ => mEs c es xs
    | _ => false
  | c, .lst es, ex => match ex with
    | .List xs _ => mEs c es xs
    | _ => false
  | c, .rcd ks es, ex => match ex with
    | .Dict keys vals _ => !keys.isEmpty && mK ks keys && decide (keys.length = vals.length) && decide (ks.Nodup) && decide (ks.length ≤ 15) && mEs c es vals
    | _ => false
  | c, .idx a i, ex => match ex with
    | .Subscript x y _ => noSlice y && mE c a x && mE c i y
    | _ => false
  | c, .slc a lo hi, ex => match ex with
    | .Subscript x (.Slice l h none _) _ => mE c a x && mEo c lo l && mEo c hi h
    | _ => false
  | c, .rev a, ex => match ex with
    | .Subscript x (.Slice none none st _) _ => minusOne st && mE c a x
    | _ => false
  | c, .box e, ex => mE c e ex
  | c, .call g es, ex => match ex with
    | .Call (.Name x _) (y :: xs) [] _ => (c.G g).map (·.nm) == some x && c.glob x && nodbg x && mEs c es (y :: xs)
    | _ => false
  | c, .blt q es, ex => match ex with
    | .Call (.Name x _) (y :: xs) [] _ => x == Str.ofString (bfN q) && c.glob x && mEs c es (y :: xs)
    | _ => false
  | c, .mth q o es, ex => match ex with
    | .Call (.Attribute x nm ap) xs [] p => nm == Str.ofString (mfN q) && ap.endLine == p.line && noSuper x && decide (xs.length < 20) && mE c o x && mEs c es xs
    | _ => false
  | c, .isi a t, ex => match ex with
    | .Call (.Name x _) [y, .Name z _] [] _ => x == ("isinstance" : Str) && c.glob x && z == Str.ofString (tkN t) && c.glob z && mE c a y
    | _ => false
  | c, .comp own t it d e, ex => match ex with
    | .ListComp elt [⟨tg, iter, ifs, 0⟩] scope _ => (ownL c.N own).map (·.2) == own && blkC c.N c.sc scope (ownL c.N own) && tgIn own t && mTg (blkCtx c scope) t tg && mIt c it tg iter && mEt (blkCtx c scope) d ifs && mE (blkCtx c scope) e elt
    | _ => false
  | c, .ext o e, ex => match ex with
    | .Call (.Attribute x nm ap) [y] [] p => nm == ("extend" : Str) && ap.endLine == p.line && noSuper x && mE c o x && mE c e y
    | _ => false
  | c, .dnw t, ex => match ex with
    | .Dict [] [] _ => true
    | _ => false
  | c, .dget d k e, ex => match ex with
    | .Call (.Attribute x nm ap) [y, z] [] p => nm == ("get" : Str) && ap.endLine == p.line && noSuper x && mE c d x && mE c k y && mE c e z
    | _ => false
  | c, .dpop d k e, ex => match ex with
    | .Call (.Attribute x nm ap) [y, z] [] p => nm == ("pop" : Str) && ap.endLine == p.line && noSuper x && mE c d x && mE c k y && mE c e z
    | _ => false
  | c, .dsd d k e, ex => match ex with
    | .Call (.Attribute x nm ap) [y, z] [] p => nm == ("setdefault" : Str) && ap.endLine == p.line && noSuper x && mE c d x && mE c k y && mE c e z
    | _ => false
  | c, .din neg k d, ex => match ex with
    | .Compare l [op] [r] _ => op == (if neg then CmpOp.NotIn else CmpOp.In) && mE c k l && mE c d r && noSet r
    | _ => false
  | c, .dof t e, ex => match ex with
    | .Call (.Name x _) [y] [] _ => t && x == ("dict" : Str) && c.glob x && mE c e y
    | _ => false
  | c, .skd e, ex => match ex with
    | .Call (.Name x _) [y] [] _ => x == ("sorted" : Str) && c.glob x && mE c e y
    | _ => false
  | c, .sid e, ex => false
def mEs : Ctx → Es → List Expr → Bool
  | c, .nil, xs => match xs with
    | [] => true
    | _ => false
  | c, .cons e es, xs => match xs with
    | x :: xs => mE c e x && mEs c es xs
    | _ => false
def mEo : Ctx → Eo → Option Expr → Bool
  | c, .none, x => match x with
    | none => true
    | _ => false
  | c, .some e, x => match x with
    | some x => mE c e x
    | _ => false
def mEt : Ctx → Eo → List Expr → Bool
  | c, .none, x => match x with
    | [] => true
    | _ => false
  | c, .some e, x => match x with
    | [x] => tst e && mE c e x
    | _ => false
def mIt : Ctx → It → Expr → Expr → Bool
  | c, .seq e, _, ex => mE c e ex
  | c, .rng1 e, _, ex => match ex with
    | .Call (.Name x _) [y] [] _ => x == ("range" : Str) && c.glob x && mE c e y
    | _ => false
  | c, .rng2 a b, _, ex => match ex with
    | .Call (.Name x _) [y, z] [] _ => x == ("range" : Str) && c.glob x && mE c a y && mE c b z
    | _ => false
  | c, .zip a b, tg, ex => match tg, ex with
    | .Tuple _ _ _, .Call (.Name x _) [y, z] [] _ => x == ("zip" : Str) && c.glob x && mE c a y && mE c b z
    | _, _ => false
  | c, .enm a, tg, ex => match tg, ex with
    | .Tuple _ _ _, .Call (.Name x _) [y] [] _ => x == ("enumerate" : Str) && c.glob x && mE c a y
    | _, _ => false
  | c, .itm a, tg, ex => match tg, ex with
    | .Tuple _ _ _, .Call (.Attribute x nm ap) [] [] p => nm == ("items" : Str) && ap.endLine == p.line && noSuper x && mE c a x
    | _, _ => false
  | c, .key a, _, ex => mE c a ex
def mK : List Str → List (Option Expr) → Bool
  | [], [] => true
  | k :: ks, some (.Constant (.str x) _ _) :: es => k == x && mK ks es
  | _, _ => false
end
end Pil

set_option Elab.async false
set_option linter.all false
set_option autoImplicit false
set_option maxRecDepth 100000
set_option maxHeartbeats 4000000
namespace Pil
open PySem PySem.Spec PyProof.Rows L2

/-! ### what the syntax gives -/
theorem mE_star (c : Ctx) (a : Expr) (p : Pos) : ∀ e : E, mE c e (.Starred a p) = false
  | .var _ => rfl
  | .cst _ => rfl
  | .gcs _ _ => rfl
  | .bin _ _ _ => rfl
  | .neg _ => rfl
  | .nt _ => rfl
  | .and2 _ _ => rfl
  | .or2 _ _ => rfl
  | .cmp _ _ _ => rfl
  | .cmp2 _ _ _ _ _ => rfl
  | .ite _ _ _ => rfl
  | .tup _ => rfl
  | .lst _ => rfl
  | .rcd _ _ => rfl
  | .idx _ _ => rfl
  | .slc _ _ _ => rfl
  | .rev _ => rfl
  | .box e => mE_star c a p e
  | .call _ _ => rfl
  | .blt _ _ => rfl
  | .mth _ _ _ => rfl
  | .isi _ _ => rfl
  | .comp _ _ _ _ _ => rfl
  | .ext _ _ => rfl
  | .dnw _ => rfl
  | .dget _ _ _ => rfl
  | .dpop _ _ _ => rfl
  | .dsd _ _ _ => rfl
  | .din _ _ _ => rfl
  | .dof _ _ => rfl
  | .skd _ => rfl
  | .sid _ => rfl
theorem star_of {c : Ctx} {e : E} {x : Expr} (h : mE c e x = true) (xs : List Expr) (env : Env) : starEach (x :: xs) env = (false, eval x env) :: starEach xs env := by
  cases x <;> first
    | rfl
    | (rw [mE_star] at h; cases h)
theorem stars_of {c : Ctx} : ∀ {es : Es} {xs : List Expr}, mEs c es xs = true → ∀ env : Env, starEach xs env = xs.map fun x => (false, eval x env)
  | .nil, xs, h, env => by
    cases xs with
    | nil => rfl
    | cons _ _ => cases h
  | .cons e es, xs, h, env => by
    cases xs with
    | nil => cases h
    | cons x xs =>
      have h' : (mE c e x && mEs c es xs) = true := h
      rw [Bool.and_eq_true] at h'
      rw [star_of h'.1, stars_of h'.2 env]
      rfl
theorem plain_any {pos : Pos} {env : Env} : ∀ xs : List Expr, (backTo pos (xs.map fun x => (false, eval x env))).any (·.1) = false
  | [] => rfl
  | x :: xs => by
    show (false || _) = false
    rw [Bool.false_or]
    exact plain_any xs
theorem plain_few {pos : Pos} {env : Env} : ∀ xs : List Expr, (backTo pos (xs.map fun x => (false, eval x env))).all (fun x => !x.1) = true
  | [] => rfl
  | x :: xs => by
    show (true && _) = true
    rw [Bool.true_and]
    exact plain_few xs
def plainT : Expr → Bool
  | .UnaryOp .Not _ _ => false
  | .BoolOp .. => false
  | .IfExp .. => false
  | .Compare .. => false
  | _ => true
theorem plainT_is {x : Expr} (h : plainT x = true) (env : Env) (whole : Sem Value) : isTrue x env whole = (do let v ← whole; standAt x.pos; holding [v] (truthy v)) := by
  cases x with
  | UnaryOp op _ _ => cases op <;> first | rfl | cases h
  | BoolOp _ _ _ => cases h
  | IfExp _ _ _ _ => cases h
  | Compare _ _ _ _ => cases h
  | _ => rfl
theorem noSet_mark {x : Expr} (h : noSet x = true) (op : CmpOp) : behindInMarks op x = false := by
  cases x <;> first | rfl | cases h
theorem noSlice_is {x : Expr} (h : noSlice x = true) : PlainIx x := fun o i => by
  cases x with
  | Slice a b c p =>
    cases c with
    | none => cases h
    | some _ => rfl
  | _ => rfl
theorem noSuper_is {x : Expr} (h : noSuper x = true) (nm : Str) (env : Env) (whole : Sem Value) : attributeBase x nm env whole = whole := by
  by_cases hx : ∃ id p1 p2, x = .Call (.Name id p1) [] [] p2
  · obtain ⟨id, p1, p2, rfl⟩ := hx
    have h' : (id != ("super" : Str)) = true := h
    simp only [attributeBase, h', Bool.true_or, if_true]
    try rfl
  · unfold attributeBase
    split
    · exact absurd ⟨_, _, _, rfl⟩ hx
    · rfl

/-! ### where one stands -/
def Ads.z (A : Ads) (Z : Addr → Prop) : Ads := { A with Z := Z }
def bltNames : List Str := ["len", "int", "str", "list", "tuple", "sum", "max", "min", "all", "any", "abs", "range", "zip", "enumerate", "isinstance", "bool", "dict", "set", "sorted", "reversed", "repr"]
def vOf : Const → V
  | .bool b => .bl b
  | .int i => .int i
  | .str x => .str x
  | _ => .non
def spI (A : Ads) (G : Nat → Option Fn) (n g : Nat) : Sp := fun vs H Q E => ∃ Z f m xs, RS (A.z Z) f m H ∧ Paired (RpS (A.z Z) f m H) vs xs ∧ Po (A.z Z) (fun cl d _ H => E cl d H) [] (RlV (A.z Z) true) f m H (callI G n g xs m) Q
structure OkX (A : Ads) (c : Ctx) (X : Cx) (n k : Nat) (W : WX) : Prop where
  N : X.N = c.N
  sc : X.env.scope = c.sc
  nd : c.N.Nodup
  calm : X.calm = true
  K : X.K = A.K
  room : Room k X.A
  gd : X.A.guards = some []
  take : Takes X W
  po : PassesOwn (model X.prog X.w) X.A X.env X.xe
  st : ∀ x, c.loc x = true → Loc X.env.scope x ∧ (X.fn x = true ∨ X.env.scope.names.lookup x = some .local)
  blt : ∀ x ∈ bltNames, X.mg x = none
  gc : ∀ x k, c.gc.lookup x = some k → ∃ u, X.mg x = some u ∧ RelV (vOf k) u
  fn : ∀ g F, c.G g = some F → ∃ f fd, X.mg F.nm = some (.ref f) ∧ PySem.W.keepIn X.K (.ref f) = true ∧ Binds X.K fd F.ps [] ∧ FnG X.prog X.w X.K X.mg X.base (L2.CX X.prog X.w) k f fd F.ps (spI A c.G n g)

section
variable {A : Ads} {c : Ctx} {X : Cx} {n k : Nat} {W : WX}
theorem OkX.glob (ok : OkX A c X n k W) {x : Str} (h : c.glob x = true) : Gl X x := by
  unfold Ctx.glob at h
  show X.env.scope.names.lookup x = _
  rw [ok.sc]
  split at h
  · assumption
  · cases h
theorem OkX.vis (ok : OkX A c X n k W) {x : Str} (h : c.vis x = true) : Vis X.env.scope x := by
  unfold Ctx.vis at h
  unfold Vis
  rw [ok.sc]
  split at h
  · exact .inl (by assumption)
  · exact .inr (.inl (by assumption))
  · exact .inr (.inr (by assumption))
  · cases h
theorem nodbg_is {x : Str} (h : nodbg x = true) : (x == ("__debug__" : Str)) = false ∧ (x == ("__classdict__" : Str)) = false := by
  unfold nodbg at h
  simp only [Bool.and_eq_true, Bool.not_eq_true'] at h
  exact h
theorem OkX.bf (ok : OkX A c X n k W) (g : BF) : X.mg (Str.ofString (bfN g)) = none := ok.blt _ (by cases g <;> decide +kernel)

variable {f : Nat → Addr} {m : Sto} {H : Hp} {σ : L2.St}
theorem Po.of {α β : Type} {Rl : Rel α β} {o : Option α} {Q : β → Hp → Prop} (h : Po A W σ Rl f m H (Out.of o m) Q) : ∃ w, o = some w ∧ ∀ f' H' v, RS A f' m H' → Fra f m H f' m H' → Rl H f' m H' v w → Q v H' := by
  cases o with
  | none => exact h.elim
  | some w => exact ⟨w, rfl, h⟩
theorem Po.okD {fr : Bool} {w : PyData} {Q : VK} (h : Po A W σ (RlV A fr) f m H (.ok (.d w) m) Q) : Done A f m H w Q := fun v' H' R' F' rp fr => h f H' v' R' F' ⟨rp, fun _ => fr⟩
theorem Po.ofD {fr : Bool} {o : Option SV} {Q : VK} (h : Po A W σ (RlV A fr) f m H (Out.of o m) Q) : ∃ w, o = some w ∧ (∀ y, w = .d y → Done A f m H y Q) := by
  obtain ⟨w, e, q⟩ := h.of
  exact ⟨w, e, fun y ey v' H' R' F' rp fr => q f H' v' R' F' (by subst ey; exact ⟨rp, fun _ => fr⟩)⟩
variable {C : Nat → List SV → Sto → Out SV}
theorem k_var {i : Nat} {x : Str} {p : Pos} (ok : OkX A c X n k W) (h1 : c.N[i]? = some x) (h2 : c.vis x = true) (h3 : nodbg x = true) : PE X (.Name x p) (tE A W C (.var i)) :=
  (pe_var (by rw [ok.N]; exact h1) (ok.vis h2) (nodbg_is h3).1 (nodbg_is h3).2).imp fun σ H Q ⟨f, m, ρ, R, re, h⟩ => by
    have h : Po A W σ (RlV A false) f m H (match ρ[i]? with | some (some x) => Out.ok x m | _ => .bad) Q := h
    split at h
    · rename_i x e
      obtain ⟨v, h1, h2⟩ := re.at_ i x e
      exact ⟨v, h1, h f H v R Fra.refl ⟨h2, fun z => nomatch z⟩⟩
    · exact h.elim
theorem dOf_rp {k : Const} (h : okC k = true) {B : Addr → Prop} : Rp H B (vOf k) (dOf k) := by
  cases k <;> first | exact .non | exact .bl _ | exact .int _ | exact .str _ | cases h
theorem pe_const {k : Const} {j : Nat} {p : Pos} (h : okC k = true) : PE X (.Constant k j p) (tC (vOf k)) := by
  cases k <;> first | exact pe_non | exact pe_bl | exact pe_int | exact pe_str | cases h
theorem k_cst {k' : Const} {j : Nat} {p : Pos} (h : okC k' = true) : PE X (.Constant k' j p) (tE A W C (.cst k')) :=
  (pe_const h).imp fun σ H Q ⟨f, m, ρ, R, re, q⟩ => q f H (vOf k') R Fra.refl ⟨dOf_rp h, fun z => nomatch z⟩
theorem k_gcs {x : Str} {k' : Const} {p : Pos} (ok : OkX A c X n k W) (h1 : c.glob x = true) (h2 : nodbg x = true) (h3 : c.gc.lookup x = some k') (hk : okC k' = true) : PE X (.Name x p) (tE A W C (.gcs x k')) := by
  obtain ⟨u, hm, r⟩ := ok.gc x k' h3
  exact (pe_glob (ok.glob h1) hm r (nodbg_is h2).1).imp fun σ H Q ⟨f, m, ρ, R, re, q⟩ => q f H (vOf k') R Fra.refl ⟨dOf_rp hk, fun z => nomatch z⟩
theorem k_bin {o : BO} {a b : E} {l r : Expr} {p : Pos} (ok : OkX A c X n k W) (ha : PE X l (tE A W C a)) (hb : PE X r (tE A W C b)) : PE X (.BinOp l (opB o) r p) (tE A W C (.bin o a b)) := by
  have ho := op_B (X := X) o
  rw [ok.K] at ho
  refine (pe_op ho ha hb).imp fun σ H Q ⟨f, m, ρ, R, re, h⟩ => ⟨f, m, ρ, R, re, ?_⟩
  refine (Po.bind (Ra := RlV A (freshE a)) rlV_mono h).imp fun v H1 ⟨f1, m1, x, R1, F1, rx, h1⟩ => ⟨f1, m1, ρ, R1, F1.re re, ?_⟩
  refine (Po.bind (Ra := RlV A (freshE b)) rlV_mono h1).imp fun u H2 ⟨f2, m2, y, R2, F2, ry, h2⟩ => ?_
  obtain ⟨w, e, q⟩ := h2.ofD
  obtain ⟨d1, e1, e2⟩ := Option.bind_eq_some_iff.mp e
  obtain ⟨d2, e3, e4⟩ := Option.bind_eq_some_iff.mp e2
  obtain ⟨d3, e5, rfl⟩ := Option.map_eq_some_iff.mp e4
  exact bop_ok R2 (dat_rq R2 (F2.rpS rx.1) e1) (dat_rq R2 ry.1 e3) e5 (q d3 rfl)
theorem k_neg {a : E} {l : Expr} {p : Pos} (ha : PE X l (tE A W C a)) : PE X (.UnaryOp .USub l p) (tE A W C (.neg a)) :=
  (pe_un un_neg ha).imp fun σ H Q ⟨f, m, ρ, R, re, h⟩ => ⟨f, m, ρ, R, re, (Po.bind (Ra := RlV A (freshE a)) rlV_mono h).imp fun v H1 ⟨f1, m1, x, R1, F1, rx, h1⟩ => by
    split at h1
    · exact ⟨_, (Rq.of rx.1).int, h1.okD.int R1⟩
    · exact h1.elim⟩
theorem k_nt {a : E} {l : Expr} {p : Pos} (ok : OkX A c X n k W) (ha : PE X l (tE A W C a)) : PE X (.UnaryOp .Not l p) (tE A W C (.nt a)) := by
  have hp := pe_notT (pos := p) ha
  rw [ok.K] at hp
  refine hp.imp fun σ H Q ⟨f, m, ρ, R, re, h⟩ => ⟨f, m, ρ, R, re, ?_⟩
  refine (Po.bind (Ra := RlV A (freshE a)) rlV_mono h).imp fun v H1 ⟨f1, m1, x, R1, F1, rx, h1⟩ => ?_
  obtain ⟨w, e, q⟩ := h1.ofD
  obtain ⟨b, e1, rfl⟩ := Option.map_eq_some_iff.mp e
  obtain ⟨d1, e2, e3⟩ := Option.bind_eq_some_iff.mp e1
  exact ⟨b, tru_D (dat_rq R1 rx.1 e2) e3, (q _ rfl).bool R1⟩
theorem k_and {a b : E} {l : Expr} {y : Expr} {rest : List Expr} {p : Pos} (ha : PE X l (tE A W C a)) (hb : PE X (.BoolOp .And (y :: rest) p) (tE A W C b)) : PE X (.BoolOp .And (l :: y :: rest) p) (tE A W C (.and2 a b)) :=
  (pe_and ha hb).imp fun σ H Q ⟨f, m, ρ, R, re, h⟩ => ⟨f, m, ρ, R, re, (Po.bind (Ra := RlV A (freshE a)) rlV_mono h).imp fun v H1 ⟨f1, m1, x, R1, F1, rx, h1⟩ => by
    split at h1
    · refine ⟨true, (Rq.of rx.1).bool, ?_⟩
      rw [if_pos rfl]
      exact ⟨f1, m1, ρ, R1, F1.re re, Po.fr h1⟩
    · refine ⟨false, (Rq.of rx.1).bool, ?_⟩
      rw [if_neg Bool.false_ne_true]
      exact h1.okD.bool R1
    · exact h1.elim⟩
theorem k_or {a b : E} {l : Expr} {y : Expr} {rest : List Expr} {p : Pos} (ha : PE X l (tE A W C a)) (hb : PE X (.BoolOp .Or (y :: rest) p) (tE A W C b)) : PE X (.BoolOp .Or (l :: y :: rest) p) (tE A W C (.or2 a b)) :=
  (pe_or ha hb).imp fun σ H Q ⟨f, m, ρ, R, re, h⟩ => ⟨f, m, ρ, R, re, (Po.bind (Ra := RlV A (freshE a)) rlV_mono h).imp fun v H1 ⟨f1, m1, x, R1, F1, rx, h1⟩ => by
    split at h1
    · refine ⟨false, (Rq.of rx.1).bool, ?_⟩
      rw [if_neg Bool.false_ne_true]
      exact ⟨f1, m1, ρ, R1, F1.re re, Po.fr h1⟩
    · refine ⟨true, (Rq.of rx.1).bool, ?_⟩
      rw [if_pos rfl]
      exact h1.okD.bool R1
    · exact h1.elim⟩
/-- a comparison, up to its answer -/
theorem cmp_read {o : CO} {a b : E} {Q : VK} {f : Nat → Addr} {m : Sto} {ρ : Rho} {H : Hp} {σ : L2.St} (R : RS A f m H) (re : RE A f m H σ ρ)
    (h : Po A W σ (RlV A false) f m H (ev C (.cmp o a b) ρ m) Q) : tOp (rC A.K o) (tE A W C a) (tE A W C b) σ H Q := by
  refine ⟨f, m, ρ, R, re, ?_⟩
  refine (Po.bind (Ra := RlV A (freshE a)) rlV_mono h).imp fun v H1 ⟨f1, m1, x, R1, F1, rx, h1⟩ => ⟨f1, m1, ρ, R1, F1.re re, ?_⟩
  refine (Po.bind (Ra := RlV A (freshE b)) rlV_mono h1).imp fun u H2 ⟨f2, m2, y, R2, F2, ry, h2⟩ => ?_
  obtain ⟨w, e, q⟩ := h2.ofD
  obtain ⟨d1, e1, e2⟩ := Option.bind_eq_some_iff.mp e
  obtain ⟨d2, e3, e4⟩ := Option.bind_eq_some_iff.mp e2
  obtain ⟨d3, e5, rfl⟩ := Option.map_eq_some_iff.mp e4
  exact cop_ok (dat_rq R2 (F2.rpS rx.1) e1) (dat_rq R2 ry.1 e3) e5 ((q _ rfl).bool R2)
theorem k_cmp {o : CO} {a b : E} {l r : Expr} {p : Pos} (ok : OkX A c X n k W) (ha : PE X l (tE A W C a)) (hb : PE X r (tE A W C b)) (hr : noSet r = true) : PE X (.Compare l [opC o] [r] p) (tE A W C (.cmp o a b)) := by
  have ho := op_C (X := X) ok.room.units o
  rw [ok.K] at ho
  exact (pe_cmpR ho ha hb (noSet_mark hr _)).imp fun σ H Q ⟨f, m, ρ, R, re, h⟩ => cmp_read R re h
theorem bind_ok {α β : Type} {r : Out α} {k : α → Sto → Out β} {y : β} {m' : Sto} (h : r.bind k = .ok y m') : ∃ x m1, r = .ok x m1 ∧ k x m1 = .ok y m' := by
  cases r with
  | bad => cases h
  | exc _ _ => cases h
  | ok x m1 => exact ⟨x, m1, rfl, h⟩
theorem of_ok {α : Type} {o : Option α} {m m' : Sto} {y : α} (h : Out.of o m = .ok y m') : o = some y ∧ m' = m := by
  cases o with
  | none => cases h
  | some x => cases h; exact ⟨rfl, rfl⟩
theorem cmp_bool {o : CO} {a b : E} {ρ : Rho} {m m' : Sto} {x : SV} (h : ev C (.cmp o a b) ρ m = .ok x m') : ∃ k, x = .d (.bool k) := by
  obtain ⟨_, _, _, h⟩ := bind_ok h
  obtain ⟨_, _, _, h⟩ := bind_ok h
  obtain ⟨e, _⟩ := of_ok h
  obtain ⟨_, _, e⟩ := Option.bind_eq_some_iff.mp e
  obtain ⟨_, _, e⟩ := Option.bind_eq_some_iff.mp e
  obtain ⟨k, _, rfl⟩ := Option.map_eq_some_iff.mp e
  exact ⟨k, rfl⟩
theorem cmp2_bool {o p : CO} {a b d : E} {ρ : Rho} {m m' : Sto} {x : SV} (h : ev C (.cmp2 o p a b d) ρ m = .ok x m') : ∃ k, x = .d (.bool k) := by
  obtain ⟨_, _, _, h⟩ := bind_ok h
  obtain ⟨_, _, _, h⟩ := bind_ok h
  obtain ⟨k, _, _, h⟩ := bind_ok h
  cases k with
  | false => cases h; exact ⟨_, rfl⟩
  | true =>
    obtain ⟨_, _, _, h⟩ := bind_ok h
    obtain ⟨e, _⟩ := of_ok h
    obtain ⟨_, _, e⟩ := Option.bind_eq_some_iff.mp e
    obtain ⟨_, _, e⟩ := Option.bind_eq_some_iff.mp e
    obtain ⟨k, _, rfl⟩ := Option.map_eq_some_iff.mp e
    exact ⟨k, rfl⟩
/-- a test by a value that is True or False: what is wanted of the value -/
theorem Po.test {e : E} {f : Nat → Addr} {m : Sto} {ρ : Rho} {H : Hp} {σ : L2.St} {Q : Bool → Hp → Prop} (hb : ∀ x m', ev C e ρ m = .ok x m' → ∃ b, x = .d (.bool b))
    (h : Po A W σ RlB f m H ((ev C e ρ m).bind fun x m1 => Out.of ((dat m1 x).bind truD) m1) Q) : Po A W σ (RlV A false) f m H (ev C e ρ m) fun x H1 => ∃ k, x = .bl k ∧ Q k H1 := by
  cases r : ev C e ρ m with
  | bad => rw [r] at h; exact h
  | exc x m' => rw [r] at h; exact h
  | ok x m' =>
    obtain ⟨b, rfl⟩ := hb x m' r
    rw [r] at h
    exact fun f' H' v R F rv => ⟨b, (Rq.of rv.1).bool, h f' H' b R F rfl⟩
theorem k_cmpT {o : CO} {a b : E} {l r : Expr} {p : Pos} (ok : OkX A c X n k W) (ha : PE X l (tE A W C a)) (hb : PE X r (tE A W C b)) (hr : noSet r = true) : PT X (.Compare l [opC o] [r] p) (tT A W C (.cmp o a b)) := by
  have ho := op_C (X := X) ok.room.units o
  rw [ok.K] at ho
  refine (pt_cmpR ho ha hb (noSet_mark hr _)).imp fun σ H Q ⟨f, m, ρ, R, re, h⟩ => cmp_read R re (Po.test (fun _ _ e => cmp_bool e) h)
/-- two comparisons -/
theorem cmp2_read {o p : CO} {a b d : E} {Q : VK} {f : Nat → Addr} {m : Sto} {ρ : Rho} {H : Hp} {σ : L2.St} (R : RS A f m H) (re : RE A f m H σ ρ)
    (h : Po A W σ (RlV A false) f m H (ev C (.cmp2 o p a b d) ρ m) Q) : tChain (rC A.K o) (rC A.K p) (tE A W C a) (tE A W C b) (tE A W C d) σ H Q := by
  refine ⟨f, m, ρ, R, re, ?_⟩
  refine (Po.bind (Ra := RlV A (freshE a)) rlV_mono h).imp fun v H1 ⟨f1, m1, x, R1, F1, rx, h1⟩ => ⟨f1, m1, ρ, R1, F1.re re, ?_⟩
  refine (Po.bind (Ra := RlV A (freshE b)) rlV_mono h1).imp fun u H2 ⟨f2, m2, y, R2, F2, ry, h2⟩ => ?_
  have hx := F2.rpS rx.1
  cases e : ((dat m2 x).bind fun u => (dat m2 y).bind fun v => cop o u v) with
  | none =>
    simp only [e] at h2
    exact h2.elim
  | some k =>
    obtain ⟨d1, e1, e2⟩ := Option.bind_eq_some_iff.mp e
    obtain ⟨d2, e3, e4⟩ := Option.bind_eq_some_iff.mp e2
    refine cop_ok (dat_rq R2 hx e1) (dat_rq R2 ry.1 e3) e4 ⟨k, rfl, ?_⟩
    simp only [e] at h2
    cases k with
    | false =>
      rw [if_neg Bool.false_ne_true]
      exact Po.okD h2 |>.bool R2
    | true =>
      rw [if_pos rfl]
      refine ⟨f2, m2, ρ, R2, F2.re (F1.re re), ?_⟩
      have h3 : Po A W σ (RlV A false) f2 m2 H2 ((ev C d ρ m2).bind fun z m4 => Out.of ((dat m4 y).bind fun u => (dat m4 z).bind fun v => (cop p u v).map fun k => .d (.bool k)) m4) Q := h2
      refine (Po.bind (Ra := RlV A (freshE d)) rlV_mono h3).imp fun w H3 ⟨f3, m3, z, R3, F3, rz, h4⟩ => ?_
      obtain ⟨w, e, q⟩ := h4.ofD
      obtain ⟨d1, e1, e2⟩ := Option.bind_eq_some_iff.mp e
      obtain ⟨d2, e3, e4⟩ := Option.bind_eq_some_iff.mp e2
      obtain ⟨d3, e5, rfl⟩ := Option.map_eq_some_iff.mp e4
      exact cop_ok (dat_rq R3 (F3.rpS ry.1) e1) (dat_rq R3 rz.1 e3) e5 ((q _ rfl).bool R3)
theorem last_mark {o p : CmpOp} {r s : Expr} (hs : noSet s = true) : lastMarks [o, p] [r, s] = false := noSet_mark hs _
theorem k_cmp2 {o q : CO} {a b d : E} {l r s : Expr} {p : Pos} (ok : OkX A c X n k W) (ha : PE X l (tE A W C a)) (hb : PE X r (tE A W C b)) (hd : PE X s (tE A W C d)) (hs : noSet s = true) : PE X (.Compare l [opC o, opC q] [r, s] p) (tE A W C (.cmp2 o q a b d)) := by
  have ho := op_C (X := X) ok.room.units o
  have hq := op_C (X := X) ok.room.units q
  rw [ok.K] at ho hq
  exact (pe_chain ho hq ha hb hd (last_mark hs)).imp fun σ H Q ⟨f, m, ρ, R, re, h⟩ => cmp2_read R re h
theorem k_cmp2T {o q : CO} {a b d : E} {l r s : Expr} {p : Pos} (ok : OkX A c X n k W) (ha : PE X l (tE A W C a)) (hb : PE X r (tE A W C b)) (hd : PE X s (tE A W C d)) (hs : noSet s = true) : PT X (.Compare l [opC o, opC q] [r, s] p) (tT A W C (.cmp2 o q a b d)) := by
  have ho := op_C (X := X) ok.room.units o
  have hq := op_C (X := X) ok.room.units q
  rw [ok.K] at ho hq
  exact (pt_chain ho hq ha hb hd (last_mark hs)).imp fun σ H Q ⟨f, m, ρ, R, re, h⟩ => cmp2_read R re (Po.test (fun _ _ e => cmp2_bool e) h)
/-! ### tests -/
theorem k_plainT {e : E} {x : Expr} (ok : OkX A c X n k W) (h : PE X x (tE A W C e)) (hp : plainT x = true) : PT X x (tT A W C e) := by
  have ht := pt_truth h (fun wh => plainT_is hp _ wh)
  rw [ok.K] at ht
  refine ht.imp fun σ H Q ⟨f, m, ρ, R, re, h⟩ => ⟨f, m, ρ, R, re, ?_⟩
  refine (Po.bind (Ra := RlV A (freshE e)) rlB_mono h).imp fun v H1 ⟨f1, m1, x, R1, F1, rx, h1⟩ => ?_
  obtain ⟨b, e, q⟩ := h1.of
  obtain ⟨d, e1, e2⟩ := Option.bind_eq_some_iff.mp e
  exact ⟨b, tru_D (dat_rq R1 rx.1 e1) e2, q f1 H1 b R1 Fra.refl rfl⟩
theorem k_ntT {a : E} {l : Expr} {p : Pos} (ha : PT X l (tT A W C a)) : PT X (.UnaryOp .Not l p) (tT A W C (.nt a)) :=
  (pt_not ha).imp fun σ H Q ⟨f, m, ρ, R, re, h⟩ => ⟨f, m, ρ, R, re, by
    have h : Po A W σ RlB f m H (((ev C a ρ m).bind fun x m1 => Out.of (((dat m1 x).bind truD).map fun b => .d (.bool (!b))) m1).bind fun x m1 => Out.of ((dat m1 x).bind truD) m1) Q := h
    cases r : ev C a ρ m with
    | bad => rw [r] at h; exact h
    | exc x m' => rw [r] at h; exact h
    | ok x m' =>
      rw [r] at h
      cases e : (dat m' x).bind truD with
      | none =>
        have h' : Po A W σ RlB f m H ((Out.of (((dat m' x).bind truD).map fun b => SV.d (.bool (!b))) m').bind fun x m1 => Out.of ((dat m1 x).bind truD) m1) Q := h
        rw [e] at h'
        exact h'.elim
      | some b =>
        have h' : Po A W σ RlB f m H ((Out.of (((dat m' x).bind truD).map fun b => SV.d (.bool (!b))) m').bind fun x m1 => Out.of ((dat m1 x).bind truD) m1) Q := h
        rw [e] at h'
        show Po A W σ RlB f m H (Out.of ((dat m' x).bind truD) m') _
        rw [e]
        exact fun f' H' v R F rv => h' f' H' (!v) R F (by cases rv; rfl)⟩
theorem k_andT {a b : E} {l : Expr} {y : Expr} {rest : List Expr} {p : Pos} (ha : PT X l (tT A W C a)) (hb : PW X (.BoolOp .And (y :: rest) p) (tT A W C b)) : PT X (.BoolOp .And (l :: y :: rest) p) (tT A W C (.and2 a b)) :=
  (PW.pt (pw_and ha hb)).imp fun σ H Q ⟨f, m, ρ, R, re, h⟩ => ⟨f, m, ρ, R, re, by
    have h : Po A W σ RlB f m H (((ev C a ρ m).bind fun x m1 => match x with
      | .d (.bool true) => ev C b ρ m1
      | .d (.bool false) => .ok (.d (.bool false)) m1
      | _ => .bad).bind fun x m1 => Out.of ((dat m1 x).bind truD) m1) Q := h
    cases r : ev C a ρ m with
    | bad => rw [r] at h; exact h
    | exc x m' => rw [r] at h; exact h
    | ok x m' =>
      rw [r] at h
      have h' : Po A W σ RlB f m H ((match x with
        | .d (.bool true) => ev C b ρ m'
        | .d (.bool false) => .ok (.d (.bool false)) m'
        | _ => .bad).bind fun x m1 => Out.of ((dat m1 x).bind truD) m1) Q := h
      split at h'
      · intro f' H' v R' F rv
        cases rv
        rw [if_pos rfl]
        exact ⟨f', m', ρ, R', F.re re, h'.start F fun _ _ _ _ _ z => z⟩
      · intro f' H' v R' F rv
        cases rv
        rw [if_neg Bool.false_ne_true]
        exact h' f' H' false R' F rfl
      · exact h'.elim⟩
theorem k_orT {a b : E} {l : Expr} {y : Expr} {rest : List Expr} {p : Pos} (ha : PT X l (tT A W C a)) (hb : PW X (.BoolOp .Or (y :: rest) p) (tT A W C b)) : PT X (.BoolOp .Or (l :: y :: rest) p) (tT A W C (.or2 a b)) :=
  (PW.pt (pw_or ha hb)).imp fun σ H Q ⟨f, m, ρ, R, re, h⟩ => ⟨f, m, ρ, R, re, by
    have h : Po A W σ RlB f m H (((ev C a ρ m).bind fun x m1 => match x with
      | .d (.bool false) => ev C b ρ m1
      | .d (.bool true) => .ok (.d (.bool true)) m1
      | _ => .bad).bind fun x m1 => Out.of ((dat m1 x).bind truD) m1) Q := h
    cases r : ev C a ρ m with
    | bad => rw [r] at h; exact h
    | exc x m' => rw [r] at h; exact h
    | ok x m' =>
      rw [r] at h
      have h' : Po A W σ RlB f m H ((match x with
        | .d (.bool false) => ev C b ρ m'
        | .d (.bool true) => .ok (.d (.bool true)) m'
        | _ => .bad).bind fun x m1 => Out.of ((dat m1 x).bind truD) m1) Q := h
      split at h'
      · intro f' H' v R' F rv
        cases rv
        rw [if_neg Bool.false_ne_true]
        exact ⟨f', m', ρ, R', F.re re, h'.start F fun _ _ _ _ _ z => z⟩
      · intro f' H' v R' F rv
        cases rv
        rw [if_pos rfl]
        exact h' f' H' true R' F rfl
      · exact h'.elim⟩
theorem pw_of {op : BoolOp} {vs : List Expr} {p : Pos} {t : TT} (h : PT X (.BoolOp op vs p) t) : PW X (.BoolOp op vs p) t := ⟨fun _ pins s σ H Q I q => h.run pins s σ H Q I q⟩
theorem k_ite {d a b : E} {t x y : Expr} {p : Pos} (hd : PT X t (tT A W C d)) (ha : PE X x (tE A W C a)) (hb : PE X y (tE A W C b)) : PE X (.IfExp t x y p) (tE A W C (.ite d a b)) :=
  (pe_ifExp hd ha hb).imp fun σ H Q ⟨f, m, ρ, R, re, h⟩ => ⟨f, m, ρ, R, re, by
    have h : Po A W σ (RlV A false) f m H ((ev C d ρ m).bind fun x m1 => match (dat m1 x).bind truD with
      | some true => ev C a ρ m1
      | some false => ev C b ρ m1
      | none => .bad) Q := h
    cases r : ev C d ρ m with
    | bad => rw [r] at h; exact h
    | exc x m' => rw [r] at h; exact h
    | ok x m' =>
      rw [r] at h
      have h' : Po A W σ (RlV A false) f m H (match (dat m' x).bind truD with
        | some true => ev C a ρ m'
        | some false => ev C b ρ m'
        | none => .bad) Q := h
      show Po A W σ RlB f m H (Out.of ((dat m' x).bind truD) m') _
      split at h'
      · rename_i e
        rw [e]
        intro f' H' v R' F rv
        cases rv
        rw [if_pos rfl]
        exact ⟨f', m', ρ, R', F.re re, Po.fr (h'.start F fun _ _ _ _ _ z => ⟨z.1, fun e => nomatch e⟩)⟩
      · rename_i e
        rw [e]
        intro f' H' v R' F rv
        cases rv
        rw [if_neg Bool.false_ne_true]
        exact ⟨f', m', ρ, R', F.re re, Po.fr (h'.start F fun _ _ _ _ _ z => ⟨z.1, fun e => nomatch e⟩)⟩
      · exact h'.elim⟩
end
end Pil

set_option Elab.async false
set_option linter.all false
set_option autoImplicit false
set_option maxRecDepth 100000
set_option maxHeartbeats 4000000
namespace Pil
open PySem PySem.Spec PyProof.Rows L2
section
variable {A : Ads} {c : Ctx} {X : Cx} {n k : Nat} {W : WX} {C : Nat → List SV → Sto → Out SV}
/-! ### rows of expressions -/
theorem k_nil : PA X [] (tA A W C .nil) := pa_nil.imp fun σ H Q ⟨f, m, ρ, R, re, h⟩ => h f H [] R Fra.refl .nil
theorem k_cons {e : E} {es : Es} {x : Expr} {xs : List Expr} (he : PE X x (tE A W C e)) (hes : PA X xs (tA A W C es)) (hs : ∀ env, starEach (x :: xs) env = (false, eval x env) :: starEach xs env) : PA X (x :: xs) (tA A W C (.cons e es)) :=
  (pa_cons he hes (hs _)).imp fun σ H Q ⟨f, m, ρ, R, re, h⟩ => ⟨f, m, ρ, R, re, by
    refine (Po.bind (Ra := RlV A (freshE e)) rlA_mono h).imp fun v H1 ⟨f1, m1, y, R1, F1, rx, h1⟩ => ⟨f1, m1, ρ, R1, F1.re re, ?_⟩
    refine (Po.bind (Ra := RlA A) rlA_mono h1).imp fun vs H2 ⟨f2, m2, ys, R2, F2, ry, h2⟩ => ?_
    exact h2 f2 H2 (v :: vs) R2 Fra.refl (.cons (F2.rpS rx.1) ry)⟩
theorem rpAll_of {f : Nat → Addr} {m : Sto} {H : Hp} : ∀ {vs : List V} {xs : List SV} {ys : List PyData}, Paired (RpS A f m H) vs xs → datP xs = some ys → RpAll H (Box A f m) vs ys := datP_rp
theorem k_tup {es : Es} {xs : List Expr} {j : Nat} {p : Pos} (h : PA X xs (tA A W C es)) : PE X (.Tuple xs j p) (tE A W C (.tup es)) :=
  (pe_tup h).imp fun σ H Q ⟨f, m, ρ, R, re, h⟩ => ⟨f, m, ρ, R, re, (Po.bind (Ra := RlA A) rlV_mono h).imp fun vs H1 ⟨f1, m1, ys, R1, F1, rx, h1⟩ => by
    obtain ⟨w, e, q⟩ := h1.ofD
    obtain ⟨d, e1, e2⟩ := Option.bind_eq_some_iff.mp e
    split at e2
    · cases e2
      have r := datP_rp rx e1
      exact ⟨by rw [r.length]; exact fits_le (by assumption), (q _ rfl).newT R1 r⟩
    · cases e2⟩
theorem k_lst {es : Es} {xs : List Expr} {p : Pos} (h : PA X xs (tA A W C es)) : PE X (.List xs p) (tE A W C (.lst es)) :=
  (pe_lst h).imp fun σ H Q ⟨f, m, ρ, R, re, h⟩ => ⟨f, m, ρ, R, re, (Po.bind (Ra := RlA A) rlV_mono h).imp fun vs H1 ⟨f1, m1, ys, R1, F1, rx, h1⟩ => by
    obtain ⟨w, e, q⟩ := h1.ofD
    obtain ⟨d, e1, e2⟩ := Option.bind_eq_some_iff.mp e
    split at e2
    · cases e2
      have r := datP_rp rx e1
      exact ⟨by rw [r.length]; exact fits_le (by assumption), (q _ rfl).newL R1 r⟩
    · cases e2⟩

/-! ### places -/
theorem lookup_paired {f : Nat → Addr} {m : Sto} {H : Hp} {k' : Str} {x : SV} : ∀ {kvs : List (Key × V)} {fs : List (Str × SV)}, Paired (fun (p : Key × V) (q : Str × SV) => p.1 = Sum.inr q.1 ∧ RpS A f m H p.2 q.2) kvs fs → fs.lookup k' = some x →
    ∃ v, valV kvs (Sum.inr k') = some v ∧ RpS A f m H v x
  | _, _, .nil, e => by cases e
  | p :: kvs, (g, y) :: fs, .cons r t, e => by
    rw [List.lookup_cons] at e
    split at e
    · rename_i hk
      cases e
      have hg : k' = g := eq_of_beq hk
      exact ⟨p.2, valV_pos (by rw [hg]; exact r.1), r.2⟩
    · rename_i hk
      have hg : k' ≠ g := fun z => by
        rw [z] at hk
        simp at hk
      obtain ⟨v, h1, h2⟩ := lookup_paired t e
      refine ⟨v, ?_, h2⟩
      rw [valV_neg (by rw [r.1]; exact fun z => hg (Sum.inr.inj z).symm)]
      exact h1
def rIxD : R2 := fun x y H Q => ∃ d v, x = .ref d ∧ DGet H d y (some v) ∧ Q v H
theorem ix_dict (hu : X.A.units + 1 < cLine) : IxR X rIxD := by
  intro value slice pins s σ H x y v u Q I rx ry q hs
  obtain ⟨d, w, rfl, g, q⟩ := q
  cases rx
  have hT := dict_typeIs I g
  unfold subscriptTail
  refine wpAny_bind ?_
  rw [getitemInPython_of_ne hT.not_modules]
  refine wpAny_bind (wpAny_specialOf hT F.slot_dict_getitem.lookup ?_)
  have fin : wpAny (model X.prog X.w) X.A (subscripted slice false (.ref d) u) (fun r s₃ => wpAny (model X.prog X.w) X.A (letTemporaryGo value (.ref d) r >>= fun _ => pure r) (EP X pins σ Q) X.xe s₃) X.xe s := by
    rw [hs]
    exact wpAny_operating (d_getItem hu I g ry fun w' s' I' r' => wpAny_bind (wpAny_letTemporaryGo (wpAny_pure ⟨w, H, I', r', q⟩)))
  first
    | exact wpAny_pure (wpAny_bind fin)
    | exact wpAny_bind (wpAny_pure (wpAny_bind fin))
    | exact wpAny_bind fin
def OptR (R : V → SV → Prop) : Option V → Option SV → Prop
  | some v, some x => R v x
  | none, none => True
  | _, _ => False
theorem asK_ok {B : Addr → Prop} {H : Hp} {v : V} {d : PyData} {k : Key} (r : Rp H B v d) (e : asK d = some k) : v = kV k := by
  cases r <;> first
    | (cases e; rfl)
    | (simp [asK] at e; done)
theorem asKs_ok {B : Addr → Prop} {H : Hp} : ∀ {vs : List V} {ds : List PyData} {ks : List Key}, RpAll H B vs ds → asKs ds = some ks → vs = ks.map kV
  | _, _, ks, .nil, e => by
    have e : some [] = some ks := e
    cases e; rfl
  | _, _, ks, .cons r t, e => by
    unfold asKs at e
    obtain ⟨k, e1, e2⟩ := Option.bind_eq_some_iff.mp e
    obtain ⟨ks', e3, rfl⟩ := Option.map_eq_some_iff.mp e2
    rw [asK_ok r e1, asKs_ok t e3]; rfl
section
variable {κ : Type} [DecidableEq κ] {f : Nat → Addr} {m : Sto} {H : Hp}
abbrev DPair (A : Ads) (f : Nat → Addr) (m : Sto) (H : Hp) (κ : Type) : List (κ × V) → List (κ × SV) → Prop := Paired (fun (p : κ × V) (q : κ × SV) => p.1 = q.1 ∧ RpS A f m H p.2 q.2)
theorem lk_ok {k : κ} : ∀ {ws : List (κ × V)} {kvs : List (κ × SV)}, DPair A f m H κ ws kvs → OptR (RpS A f m H) (valV ws k) (lkG kvs k)
  | _, _, .nil => True.intro
  | (k1, v) :: ws, (k2, x) :: kvs, .cons r t => by
    obtain ⟨rk, rv⟩ := r
    have rk : k1 = k2 := rk
    subst rk
    have ih := lk_ok (k := k) t
    unfold valV lkG at ih ⊢
    by_cases h : k1 = k
    · rw [List.find?_cons_of_pos (by simpa using h), List.find?_cons_of_pos (by simpa using h)]
      exact rv
    · rw [List.find?_cons_of_neg (by simpa using h), List.find?_cons_of_neg (by simpa using h)]
      exact ih
theorem dpair_any {k : κ} : ∀ {ws : List (κ × V)} {kvs : List (κ × SV)}, DPair A f m H κ ws kvs → (ws.any fun kv => decide (kv.1 = k)) = (kvs.any fun kv => decide (kv.1 = k))
  | _, _, .nil => rfl
  | _, _, .cons r t => by rw [List.any_cons, List.any_cons, dpair_any t, r.1]
theorem dpair_len : ∀ {ws : List (κ × V)} {kvs : List (κ × SV)}, DPair A f m H κ ws kvs → ws.length = kvs.length
  | _, _, .nil => rfl
  | _, _, .cons r t => by rw [List.length_cons, List.length_cons, dpair_len t]
theorem pt_map {k : κ} {v : V} {x : SV} (rv : RpS A f m H v x) : ∀ {ws : List (κ × V)} {kvs : List (κ × SV)}, DPair A f m H κ ws kvs → DPair A f m H κ (ws.map fun kv => if kv.1 = k then (kv.1, v) else kv) (kvs.map fun kv => if kv.1 = k then (kv.1, x) else kv)
  | _, _, .nil => .nil
  | p :: _, q :: _, .cons r t => by
    refine .cons ?_ (pt_map rv t)
    show (if p.1 = k then (p.1, v) else p : κ × V).1 = (if q.1 = k then (q.1, x) else q : κ × SV).1 ∧ RpS A f m H (if p.1 = k then (p.1, v) else p : κ × V).2 (if q.1 = k then (q.1, x) else q : κ × SV).2
    by_cases hk : p.1 = k
    · rw [if_pos hk, if_pos (by rw [← r.1]; exact hk)]
      exact ⟨r.1, rv⟩
    · rw [if_neg hk, if_neg (by rw [← r.1]; exact hk)]
      exact r
theorem pt_end {k : κ} {v : V} {x : SV} (rv : RpS A f m H v x) : ∀ {ws : List (κ × V)} {kvs : List (κ × SV)}, DPair A f m H κ ws kvs → DPair A f m H κ (ws ++ [(k, v)]) (kvs ++ [(k, x)])
  | _, _, .nil => .cons ⟨rfl, rv⟩ .nil
  | _, _, .cons r t => .cons r (pt_end rv t)
theorem pt_ok {k : κ} {v : V} {x : SV} (rv : RpS A f m H v x) {ws : List (κ × V)} {kvs : List (κ × SV)} (h : DPair A f m H κ ws kvs) : DPair A f m H κ (putK ws k v) (ptG kvs k x) := by
  unfold putK ptG
  rw [dpair_any h]
  split
  · exact pt_map rv h
  · exact pt_end rv h
end
theorem dGet_ok {f : Nat → Addr} {m : Sto} {H : Hp} {a : Addr} {o : Ob} {k : PyData} {ox : Option SV} {u : V} (r : RpO A f m H a o) (e : dGet o k = some ox) (rk : Rp H (Box A f m) u k) :
    ∃ ov, DGet H a u ov ∧ OptR (RpS A f m H) ov ox := by
  cases o with
  | dk kvs =>
    obtain ⟨ws, ea, h⟩ := r
    obtain ⟨k', e1, rfl⟩ := Option.map_eq_some_iff.mp e
    rw [asK_ok rk e1]
    exact ⟨_, DGet.k ea, lk_ok h⟩
  | dt kvs =>
    obtain ⟨ws, ea, h⟩ := r
    cases rk with
    | tup et _ rt =>
      obtain ⟨k', e1, rfl⟩ := Option.map_eq_some_iff.mp e
      rw [asKs_ok rt e1] at et
      exact ⟨_, DGet.t ea et, lk_ok h⟩
    | _ => cases e
  | _ => cases e
theorem k_idx {a i : E} {l r : Expr} {p : Pos} (ok : OkX A c X n k W) (ha : PE X l (tE A W C a)) (hi : PE X r (tE A W C i)) (hs : noSlice r = true) : PE X (.Subscript l r p) (tE A W C (.idx a i)) := by
  have ho := (ix_seq (X := X)).or (ix_dict (X := X) (hu_of ok.room))
  rw [ok.K] at ho
  refine (pe_ix ho ha hi (noSlice_is hs)).imp fun σ H Q ⟨f, m, ρ, R, re, h⟩ => ⟨f, m, ρ, R, re, ?_⟩
  refine (Po.bind (Ra := RlV A (freshE a)) rlV_mono h).imp fun v H1 ⟨f1, m1, x, R1, F1, rx, h1⟩ => ⟨f1, m1, ρ, R1, F1.re re, ?_⟩
  refine (Po.bind (Ra := RlV A (freshE i)) rlV_mono h1).imp fun u H2 ⟨f2, m2, y, R2, F2, ry, h2⟩ => ?_
  have hx := F2.rpS rx.1
  have onD : ∀ {l : Nat} {o : Ob} {d1 : PyData}, x = .ref l → y = .d d1 → m2[l]? = some o → Po A W σ (RlV A false) f2 m2 H2 (Out.of ((dGet o d1).bind id) m2) Q → rIxD v u H2 Q := fun {l o d1} ex ey e hp => by
    subst ex ey
    obtain ⟨w, e', q⟩ := hp.of
    obtain ⟨ow, eg, ew⟩ := Option.bind_eq_some_iff.mp e'
    have ew : ow = some w := ew
    subst ew
    obtain ⟨rfl, _⟩ := hx
    obtain ⟨ov, g, rv⟩ := dGet_ok (R2.ob l o e) eg ry.1
    cases ov with
    | none => exact False.elim rv
    | some v' => exact ⟨f2 l, v', rfl, g, q f2 H2 v' R2 Fra.refl ⟨rv, fun z => nomatch z⟩⟩
  have onS : Po A W σ (RlV A false) f2 m2 H2 (Out.of ((dat m2 x).bind fun u => (dat m2 y).bind fun v => (ixD u v).map .d) m2) Q → rIx A.K v u H2 Q := fun h2 => by
    obtain ⟨w, e, q⟩ := h2.of
    obtain ⟨d1, e1, e2⟩ := Option.bind_eq_some_iff.mp e
    obtain ⟨d2, e3, e4⟩ := Option.bind_eq_some_iff.mp e2
    obtain ⟨d3, e5, rfl⟩ := Option.map_eq_some_iff.mp e4
    exact ix_ok R2 (dat_rq R2 hx e1) (dat_rq R2 ry.1 e3) e5 fun v' r' => q f2 H2 v' R2 Fra.refl ⟨r', fun z => nomatch z⟩
  by_cases hxy : ∃ l k', x = .ref l ∧ y = .d (.str k')
  · obtain ⟨l, k', rfl, rfl⟩ := hxy
    cases e : m2[l]? with
    | none => simp only [e] at h2; exact h2.elim
    | some o =>
      simp only [e] at h2
      cases o with
      | rcd fs =>
        obtain ⟨w, e', q⟩ := h2.of
        obtain ⟨kvs, ed, rp⟩ := R2.ob l _ e
        obtain ⟨v', h1, h2⟩ := lookup_paired rp e'
        obtain ⟨rfl, _⟩ := hx
        rw [(Rq.of ry.1).str]
        refine .inr ⟨f2 l, v', rfl, ?_, q f2 H2 v' R2 Fra.refl ⟨h2, fun z => nomatch z⟩⟩
        rw [← h1]
        exact DGet.k (k := Sum.inr k') ed
      | dk fs => exact .inr (onD rfl rfl e h2)
      | dt fs => exact .inr (onD rfl rfl e h2)
      | lst _ => exact h2.elim
      | ins _ _ => exact h2.elim
      | dead => exact h2.elim
  · by_cases hxd : ∃ l k', x = .ref l ∧ y = .d k'
    · obtain ⟨l, k', rfl, rfl⟩ := hxd
      have h2 : Po A W σ (RlV A false) f2 m2 H2 (match isDic m2[l]? with
        | true => Out.of ((m2[l]?).bind fun o => (dGet o k').bind id) m2
        | false => Out.of ((dat m2 (.ref l)).bind fun u => (dat m2 (.d k')).bind fun v => (ixD u v).map .d) m2) Q := by
        cases k' with
        | str z => exact absurd ⟨l, z, rfl, rfl⟩ hxy
        | _ => exact h2
      cases hd : isDic m2[l]? with
      | false => rw [hd] at h2; exact .inl (onS h2)
      | true =>
        rw [hd] at h2
        cases e : m2[l]? with
        | none => rw [e] at hd; cases hd
        | some o =>
          simp only [e] at h2
          exact .inr (onD rfl rfl e h2)
    · have h2 : Po A W σ (RlV A false) f2 m2 H2 (Out.of ((dat m2 x).bind fun u => (dat m2 y).bind fun v => (ixD u v).map .d) m2) Q := by
        split at h2
        · exact absurd ⟨_, _, rfl, rfl⟩ hxy
        · exact absurd ⟨_, _, rfl, rfl⟩ hxd
        · exact h2
      exact .inl (onS h2)
theorem k_onone : PO X none (tO A W C .none) := po_none.imp fun σ H Q ⟨f, m, ρ, R, re, h⟩ => h f H none R Fra.refl rfl
theorem k_osome {e : E} {x : Expr} (h : PE X x (tE A W C e)) : PO X (some x) (tO A W C (.some e)) :=
  (po_some h).imp fun σ H Q ⟨f, m, ρ, R, re, h⟩ => ⟨f, m, ρ, R, re, (Po.bind (Ra := RlV A (freshE e)) rlO_mono h).imp fun v H1 ⟨f1, m1, x, R1, F1, rx, h1⟩ => by
    split at h1
    · exact ⟨_, (Rq.of rx.1).int, h1 f1 H1 _ R1 Fra.refl rfl⟩
    · exact h1.elim⟩
theorem k_slc {a : E} {lo hi : Eo} {l : Expr} {x y : Option Expr} {p p2 : Pos} (ok : OkX A c X n k W) (ha : PE X l (tE A W C a)) (hl : PO X x (tO A W C lo)) (hh : PO X y (tO A W C hi)) : PE X (.Subscript l (.Slice x y none p2) p) (tE A W C (.slc a lo hi)) := by
  have ho := sl_all (X := X)
  rw [ok.K] at ho
  refine (pe_slice ho ha hl hh).imp fun σ H Q ⟨f, m, ρ, R, re, h⟩ => ⟨f, m, ρ, R, re, ?_⟩
  refine (Po.bind (Ra := RlV A (freshE a)) rlV_mono h).imp fun v H1 ⟨f1, m1, x, R1, F1, rx, h1⟩ => ⟨f1, m1, ρ, R1, F1.re re, ?_⟩
  refine (Po.bind (Ra := RlO) rlV_mono h1).imp fun u H2 ⟨f2, m2, y, R2, F2, ry, h2⟩ => ⟨f2, m2, ρ, R2, F2.re (F1.re re), ?_⟩
  refine (Po.bind (Ra := RlO) rlV_mono h2).imp fun w H3 ⟨f3, m3, z, R3, F3, rz, h3⟩ => ?_
  cases ry
  cases rz
  obtain ⟨w', e, q⟩ := h3.ofD
  obtain ⟨d1, e1, e2⟩ := Option.bind_eq_some_iff.mp e
  obtain ⟨d2, e3, rfl⟩ := Option.map_eq_some_iff.mp e2
  exact sl_ok R3 (F3.rpS (F2.rpS rx.1)) e1 e3 (q _ rfl)
/-! ### boxes -/
/-- a new place -/
def atNew (f : Nat → Addr) (n : Nat) (a : Addr) : Nat → Addr := fun l => if l = n then a else f l
theorem atNew_self {f : Nat → Addr} {n : Nat} {a : Addr} : atNew f n a n = a := if_pos rfl
theorem atNew_lt {f : Nat → Addr} {n l : Nat} {a : Addr} (h : l < n) : atNew f n a l = f l := if_neg (by omega)
theorem live_new {f : Nat → Addr} {m : Sto} {a b : Addr} {o : Ob} (h : Live (atNew f m.length a) (m ++ [o]) b) : Live f m b ∨ b = a := by
  obtain ⟨l, ob, e, n, rfl⟩ := h
  by_cases hl : l < m.length
  · rw [List.getElem?_append_left hl] at e
    exact .inl ⟨l, ob, e, n, (atNew_lt hl).symm⟩
  · have h1 := (List.getElem?_eq_some_iff.mp e).1
    rw [List.length_append, List.length_singleton] at h1
    have : l = m.length := by omega
    subst this
    exact .inr atNew_self
/-- an object that nothing else knows gets a place -/
theorem RS.box_new {f f0 : Nat → Addr} {m m0 : Sto} {H H0 : Hp} {a : Addr} {o : Ob} {u : HO} (R : RS A f m H) (F : Fra f0 m0 H0 f m H) (ea : H a = some u) (na : ¬ Box A f m a) (fr : H0 a = none)
    (keep : ∀ l ob, m[l]? = some ob → RpO A (atNew f m.length a) (m ++ [o]) H (atNew f m.length a l) ob) (new : RpO A (atNew f m.length a) (m ++ [o]) H a o) :
    RS A (atNew f m.length a) (m ++ [o]) H ∧ Fra f0 m0 H0 (atNew f m.length a) (m ++ [o]) H := by
  have at_ : ∀ {l : Nat} {ob : Ob}, (m ++ [o])[l]? = some ob → (l < m.length ∧ m[l]? = some ob) ∨ (l = m.length ∧ ob = o) := fun {l ob} e => by
    by_cases hl : l < m.length
    · rw [List.getElem?_append_left hl] at e
      exact .inl ⟨hl, e⟩
    · have h1 := (List.getElem?_eq_some_iff.mp e).1
      rw [List.length_append, List.length_singleton] at h1
      have : l = m.length := by omega
      subst this
      rw [List.getElem?_append_right (Nat.le_refl _), Nat.sub_self] at e
      cases e
      exact .inr ⟨rfl, rfl⟩
  have nl : ¬ Live f m a := fun z => na (.inr z)
  refine ⟨⟨fun l ob e => ?_, fun l l' ob ob' e e' d d' z => ?_, R.zt, fun b zb lb => ?_⟩, ⟨fun l hl => ?_, fun l ob hl e d => ?_, F.keep, ?_, fun l e => ?_, F.mono⟩⟩
  · rcases at_ e with ⟨_, e⟩ | ⟨rfl, rfl⟩
    · exact keep l ob e
    · rw [atNew_self]; exact new
  · rcases at_ e with ⟨h1, e1⟩ | ⟨rfl, rfl⟩ <;> rcases at_ e' with ⟨h2, e2⟩ | ⟨rfl, rfl⟩
    · rw [atNew_lt h1, atNew_lt h2] at z
      exact R.inj l l' ob ob' e1 e2 d d' z
    · rw [atNew_lt h1, atNew_self] at z
      exact absurd ⟨l, ob, e1, d, z⟩ nl
    · rw [atNew_lt h2, atNew_self] at z
      exact absurd ⟨l', ob', e2, d', z.symm⟩ nl
    · rfl
  · rcases live_new lb with lb | rfl
    · exact R.zl b zb lb
    · exact na (.inl zb)
  · rw [atNew_lt (Nat.lt_of_lt_of_le hl F.len)]
    exact F.agree l hl
  · rcases at_ e with ⟨h1, e1⟩ | ⟨rfl, rfl⟩
    · rw [atNew_lt h1]
      exact F.new l ob hl e1 d
    · rw [atNew_self]; exact fr
  · rw [List.length_append, List.length_singleton]
    exact Nat.le_trans F.len (Nat.le_succ _)
  · have := F.dead l e
    rw [List.getElem?_append_left (List.getElem?_eq_some_iff.mp this).1]
    exact this
theorem box_up {f : Nat → Addr} {m : Sto} {a b : Addr} {o : Ob} (h : Box A (atNew f m.length a) (m ++ [o]) b) : Box (A.plus a) f m b := by
  rcases h with z | z
  · exact .inl (.inl z)
  · rcases live_new z with z | z
    · exact .inr z
    · exact .inl (.inr z)
theorem rp_up {f : Nat → Addr} {m : Sto} {H : Hp} {a : Addr} {o : Ob} {v : V} {d : PyData} (r : Rp H (Box (A.plus a) f m) v d) : Rp H (Box A (atNew f m.length a) (m ++ [o])) v d := r.keep (fun _ _ e _ => e) fun _ _ _ n z => n (box_up z)
theorem rpAll_up {f : Nat → Addr} {m : Sto} {H : Hp} {a : Addr} {o : Ob} {v : List V} {d : List PyData} (r : RpAll H (Box (A.plus a) f m) v d) : RpAll H (Box A (atNew f m.length a) (m ++ [o])) v d := r.keep (fun _ _ e _ => e) fun _ _ _ n z => n (box_up z)
theorem rpS_up {f : Nat → Addr} {m : Sto} {H : Hp} {a : Addr} {o : Ob} {v : V} : ∀ {x : SV}, RpS (A.plus a) f m H v x → RpS A (atNew f m.length a) (m ++ [o]) H v x
  | .d _, r => rp_up r
  | .ref l, r => by
    obtain ⟨rfl, h⟩ := r
    exact ⟨by rw [atNew_lt h], by rw [List.length_append]; omega⟩
  | .fn _, r => r
  | .ext _, r => by
    obtain ⟨b, e, r⟩ := r
    rcases r with ⟨n, u, r⟩ | r
    · exact ⟨b, e, .inl ⟨fun z => n (box_up z), u, r⟩⟩
    · exact ⟨b, e, .inr r⟩
theorem rpO_up {f : Nat → Addr} {m : Sto} {H : Hp} {a b : Addr} {o : Ob} : ∀ {x : Ob}, RpO (A.plus a) f m H b x → RpO A (atNew f m.length a) (m ++ [o]) H b x
  | .lst _, r => by obtain ⟨vs, e, r⟩ := r; exact ⟨vs, e, rpAll_up r⟩
  | .dk _, r => by obtain ⟨vs, e, r⟩ := r; exact ⟨vs, e, Paired.mapP r fun p q z => ⟨z.1, rpS_up z.2⟩⟩
  | .dt _, r => by obtain ⟨vs, e, r⟩ := r; exact ⟨vs, e, Paired.mapP r fun p q z => ⟨z.1, rpS_up z.2⟩⟩
  | .rcd _, r => by obtain ⟨vs, e, r⟩ := r; exact ⟨vs, e, Paired.mapP r fun p q z => ⟨z.1, rpS_up z.2⟩⟩
  | .ins _ _, r => r
  | .dead, _ => True.intro
theorem box_read {e : E} {f : Nat → Addr} {m : Sto} {ρ : Rho} {H : Hp} {σ : L2.St} {Q : VK} (h : Po A W σ (RlV A (freshE (.box e))) f m H (ev C (.box e) ρ m) Q) : Po A W σ (RlV A (freshE e)) f m H (ev C e ρ m) Q := by
  have h : Po A W σ (RlV A false) f m H ((ev C e ρ m).bind fun x m1 => boxK (freshE e) x m1) Q := h
  cases r : ev C e ρ m with
  | bad => rw [r] at h; exact h
  | exc x m' => rw [r] at h; exact h
  | ok y m1 =>
    rw [r] at h
    have h1 : Po A W σ (RlV A false) f m H (boxK (freshE e) y m1) Q := h
    intro f1 H1 v R1 F1 rx
    unfold boxK at h1
    split at h1
    · rename_i xs hf
      obtain ⟨a, ws, rfl, ea, ra⟩ := (Rq.of rx.1).list
      have na : ¬ Box A f1 m1 a := by
        cases rx.1 with
        | lst _ n _ => exact n
      obtain ⟨fr, R2, vs, ev, rv⟩ := rx.2 hf a rfl
      obtain ⟨R3, F3⟩ := R1.box_new (o := .lst xs) F1 ea na fr (fun l ob e => by
        have hl := (List.getElem?_eq_some_iff.mp e).1
        rw [atNew_lt hl]
        exact rpO_up (R2.ob l ob e)) ⟨vs, ev, rpAll_up rv⟩
      exact h1 _ H1 _ R3 F3 ⟨⟨by rw [atNew_self], by rw [List.length_append]; exact Nat.lt_succ_self _⟩, fun z => nomatch z⟩
    · exact h1.elim
theorem k_box {e : E} {x : Expr} (h : PE X x (tE A W C e)) : PE X x (tE A W C (.box e)) := h.imp fun σ H Q ⟨f, m, ρ, R, re, h⟩ => ⟨f, m, ρ, R, re, box_read h⟩
end
end Pil

set_option Elab.async false
set_option linter.all false
set_option autoImplicit false
set_option maxRecDepth 100000
set_option maxHeartbeats 4000000
namespace Pil
open PySem PySem.Spec PyProof.Rows L2

/-! ### a tuple turned about -/
section
variable {prog : Program} {w : World} {A : Around} {E : Value → Shared → Prop} {s : Shared}
theorem sliceApplied_rev {sl : Addr} {vl vu vs : Value} {n : Nat} {Q : Int × Int × Nat → Shared → Prop} (hs : s.heap.IsSliceOf sl vl vu vs) (pl : IsPart vl none) (pu : IsPart vu none) (ps : IsPart vs (some (-1)))
    (h : Q ((n : Int) - 1, -1, n) s) : wpAny (model prog w) A (Builtin.Slice.sliceApplied (.ref sl) (pure (n : Int))) Q E s := by
  obtain ⟨os, hos, hcs, hds⟩ := id hs
  unfold Builtin.Slice.sliceApplied Builtin.Slice.sliceFields
  refine wpAny_bind (wpAny_bind (wpAny_field hos hds (x := vl) rfl (wpAny_bind (wpAny_field hos hds (x := vu) rfl (wpAny_bind (wpAny_field hos hds (x := vs) rfl (wpAny_pure ?_)))))))
  refine wpAny_bind (HT.slicePart_ ps ?_)
  show wpAny _ _ (if ((-1 : Int) == 0) = true then _ else _) _ _ s
  rw [if_neg (by decide)]
  refine wpAny_bind (HT.slicePart_ pl (wpAny_bind (HT.slicePart_ pu (wpAny_bind (wpAny_pure ?_)))))
  have e : Builtin.Slice.slicePlaces ((n : Int) - 1) (-1) (-1) = n := by
    unfold Builtin.Slice.slicePlaces
    rw [if_neg (by decide)]
    by_cases hn : (n : Int) - 1 > -1
    · rw [if_pos hn]
      have : ((n : Int) - 1 - -1 - 1) / - -1 + 1 = n := by
        rw [show - -1 = (1 : Int) from rfl, Int.ediv_one]; omega
      rw [this]; omega
    · rw [if_neg hn]; omega
  show wpAny _ _ (pure ((n : Int) - 1, (-1 : Int), Builtin.Slice.slicePlaces ((n : Int) - 1) (-1) (-1))) _ _ s
  rw [e]
  exact wpAny_pure h
theorem fm_congr {α β : Type} {f g : α → Option β} : ∀ {l : List α}, (∀ a ∈ l, f a = g a) → l.filterMap f = l.filterMap g
  | [], _ => rfl
  | a :: l, h => by
    rw [List.filterMap_cons, List.filterMap_cons, h a List.mem_cons_self, fm_congr fun b hb => h b (List.mem_cons_of_mem _ hb)]
theorem pick_rev (xs : Array Value) : ((List.range xs.size).filterMap fun (k : Nat) => xs[((xs.size : Int) - 1 + (k : Int) * -1).toNat]?).toArray = xs.toList.reverse.toArray := by
  have h := PySem.W.krv_pick xs
  rw [← h]
  unfold slicePick
  rw [PySem.W.krv_bounds]
  show _ = ((sliceRange ((xs.size : Int) - 1) (-1) (-1)).filterMap (xs[·]?)).toArray
  rw [PySem.W.krv_sliceRange, List.filterMap_map]
  congr 1
  apply fm_congr
  intro k hk
  have hk' := List.mem_range.mp hk
  show xs[((xs.size : Int) - 1 + (k : Int) * -1).toNat]? = xs[xs.size - 1 - k]?
  congr 1
  omega
theorem getItem_tuple_rev {t sl : Addr} {items : Array Value} {vl vu vs : Value} {Q : Value → Shared → Prop} (ht : IsTup s.heap t items) (hs : s.heap.IsSliceOf sl vl vu vs) (pl : IsPart vl none) (pu : IsPart vu none) (ps : IsPart vs (some (-1)))
    (h : Q (.ref s.heap.objs.size) { s with heap := s.heap.push { cls := .type "tuple", data := .seq items.toList.reverse.toArray } })
    (hsz : items.size ≤ sizeLine) : wpAny (model prog w) A (getItem (.ref t) (.ref sl)) Q E s := by
  have htake : sizeOk (.seq items.toList.reverse.toArray) := by
    show items.toList.reverse.toArray.size ≤ sizeLine
    rw [List.size_toArray, List.length_reverse, Array.length_toList]
    exact hsz
  obtain ⟨os, hos, hcs, hds⟩ := id hs
  have hTs : s.TypeIs (.ref sl) "slice" := ⟨os, hos, hcs⟩
  unfold getItem
  try with_reducible refine wpAny_holding ?_
  first | refine wpAny_bind (wpAny_pure ?_) | skip
  refine wpAny_bind (wpAny_sequenceKey ht.typeIs (by decide) ?_)
  refine wpAny_bind (wpAny_callSpecial?_slot (name := Str.ofString "__getitem__") ht.typeIs PyProof.Rows.slot_tuple_getitem
    (wpAny_call_entry PyProof.Rows.slot_tuple_getitem ht.typeIs entry_tuple_getitem ?_ (args_tuple_getitem _ _)))
  show wpAny _ _ (Builtin.Tuple.tupleItemsOf (.ref t) >>= _) _ _ s
  refine wpAny_bind (tupleItemsOf_ ht ?_)
  refine wpAny_bind (wpAny_typeOf hTs ?_)
  rw [if_pos (by decide)]
  refine wpAny_bind (sliceApplied_rev hs pl pu ps ?_)
  have hno : ¬ ((((items.size : Int) - 1) == 0 && (-1 : Int) == 1 && items.size == items.size) = true) := by
    intro q
    rw [Bool.and_eq_true, Bool.and_eq_true] at q
    exact absurd (eq_of_beq q.1.2) (by decide)
  show wpAny _ _ (if (((items.size : Int) - 1) == 0 && (-1 : Int) == 1 && items.size == items.size) = true then _ else _) _ _ s
  rw [if_neg hno, pick_rev]
  first
    | exact wpAny_bind (m := Builtin.Tuple.tupleExact _) (wpAny_newObj_type (wpAny_pure ⟨_, rfl, wpAny_pure h⟩) htake)
    | exact wpAny_bind (m := Builtin.Tuple.tupleExact _) (wpAny_newObj_type (wpAny_bind (wpAny_pure (wpAny_pure ⟨_, rfl, wpAny_pure h⟩))) htake)
    | exact wpAny_bind (wpAny_bind (m := Builtin.Tuple.tupleExact _) (wpAny_newObj_type (wpAny_pure (wpAny_pure ⟨_, rfl, wpAny_pure h⟩)) htake))
    | exact wpAny_bind (wpAny_bind (m := Builtin.Tuple.tupleExact _) (wpAny_newObj_type (wpAny_pure ⟨_, rfl, wpAny_pure h⟩) htake))
end
section
variable {A : Ads} {c : Ctx} {X : Cx} {n k : Nat} {W : WX} {C : Nat → List SV → Sto → Out SV}
def tRev (K : PySem.W.Frag) (te : TE) : TE := fun σ H Q => te σ H fun x H1 => ∃ a xs, x = .ref a ∧ ((SqL K H1 a xs ∧ ∀ p, H1 p = none → Q (.ref p) (upd H1 p (.lst xs.reverse))) ∨ (SqT K H1 a xs ∧ ∀ p, H1 p = none → Q (.ref p) (upd H1 p (.tup xs.reverse))))
theorem pe_rev {e : Expr} {te : TE} {j : Nat} {p1 p2 p3 pos : Pos} (he : PE X e te) : PE X (.Subscript e (.Slice none none (some (.UnaryOp .USub (.Constant (.int 1) j p1) p2)) p3) pos) (tRev X.K te) := by
  refine ⟨fun pins s σ H Q I h => ?_⟩
  refine Subscript_ (thn (he.run pins s σ H _ I h) fun v s1 ⟨x, H1, I1, r1, q1⟩ => ?_)
  obtain ⟨a, xs, ex, q⟩ := q1
  subst ex
  cases r1
  have hst : PO X (some (.UnaryOp .USub (.Constant (.int 1) j p1) p2)) (tPart (tUn (rU fun i => .int (-i)) (tC (.int 1)))) := po_some (pe_un un_neg pe_int)
  refine wpAny_Slice (thn (po_none.run pins s1 σ H1 (fun o H2 => o = none ∧ H2 = H1) I1 ⟨rfl, rfl⟩) fun vl s2 ⟨l, H2, I2, pl, el, e2⟩ => ?_)
  subst el e2
  refine thn (po_none.run pins s2 σ H2 (fun o H3 => o = none ∧ H3 = H2) I2 ⟨rfl, rfl⟩) fun vu s3 ⟨u, H3, I3, pu, eu, e3⟩ => ?_
  subst eu e3
  refine thn (hst.run pins s3 σ H3 (fun o H4 => o = some (-1) ∧ H4 = H3) I3 ⟨1, rfl, -1, rfl, rfl, rfl⟩) fun vs s4 ⟨o, H4, I4, ps, eo, e4⟩ => ?_
  subst eo e4
  have I5 : Inv X pins σ H4 { s4 with heap := s4.heap.push { cls := .type "slice", data := .fields #[vl, vu, vs] } } := I4.kept (t' := s4.toks) fun b ob q => Heap.get?_push_of_some _ q
  show wpAny (model X.prog X.w) X.A (subscriptTail e (.Slice none none (some (.UnaryOp .USub (.Constant (.int 1) j p1) p2)) p3) (.ref a) (.ref s4.heap.objs.size)) (EP X pins σ Q) X.xe { s4 with heap := s4.heap.push { cls := .type "slice", data := .fields #[vl, vu, vs] } }
  rcases q with ⟨hx, q⟩ | ⟨hx, q⟩
  · obtain ⟨its, r, ht, hz⟩ := I5.list hx
    have hlen := r.length
    refine tail_any (ops := [.ref a, .ref s4.heap.objs.size]) ht.isList.typeIs (PySem.slot_list_getitem.lookup) ?_ (by with_unfolding_all rfl)
    refine wpAny_getItem_list_slice ht.isList (Heap.IsSliceOf.new _ vl vu vs) pl pu ps (by decide) ?_ (by rw [List.size_toArray]; omega)
    rw [PySem.W.krv_pick]
    refine ⟨.ref _, _, I5.laid (t' := s4.toks) (o := .lst xs.reverse) (fun b ob q => Heap.get?_push_of_some _ q) (Nat.le_refl _) ?_, rfl, q _ (I5.hok.fresh (Nat.le_refl _))⟩
    exact ⟨by rw [List.length_reverse]; exact hz, _, 0, r.reverse, Heap.get?_push_size _ rfl⟩
  · obtain ⟨its, r, ht, hz⟩ := I5.tuple hx
    have hlen := r.length
    refine tail_any (ops := [.ref a, .ref s4.heap.objs.size]) ht.typeIs (PyProof.Rows.slot_tuple_getitem.lookup) ?_ (by with_unfolding_all rfl)
    refine getItem_tuple_rev ht (Heap.IsSliceOf.new _ vl vu vs) pl pu ps ?_ (by rw [List.size_toArray]; omega)
    refine ⟨.ref _, _, I5.laid (t' := s4.toks) (o := .tup xs.reverse) (fun b ob q => Heap.get?_push_of_some _ q) (Nat.le_refl _) ?_, rfl, q _ (I5.hok.fresh (Nat.le_refl _))⟩
    exact ⟨by rw [List.length_reverse]; exact hz, _, r.reverse, ⟨_, Heap.get?_push_size _ rfl, rfl, _, rfl⟩⟩
theorem k_rev {e : E} {x : Expr} {st : Option Expr} {p p2 : Pos} (ok : OkX A c X n k W) (h : PE X x (tE A W C e)) (hm : minusOne st = true) : PE X (.Subscript x (.Slice none none st p2) p) (tE A W C (.rev e)) := by
  unfold minusOne at hm
  split at hm
  · refine (pe_rev (X := X) h).imp fun σ H Q ⟨f, m, ρ, R, re, h⟩ => ⟨f, m, ρ, R, re, (Po.bind (Ra := RlV A (freshE e)) rlV_mono h).imp fun v H1 ⟨f1, m1, y, R1, F1, rx, h1⟩ => ?_⟩
    cases ed : dat m1 y with
    | none => simp only [ed] at h1; exact h1.elim
    | some d =>
      simp only [ed] at h1
      have rq := dat_rq R1 rx.1 ed
      cases d with
      | tuple xs =>
        obtain ⟨a, ys, rfl, ea, na, ra⟩ := rq.tuple
        exact ⟨a, ys, rfl, .inr ⟨SqT.of ea, (Po.okD h1).newT R1 ra.reverse⟩⟩
      | list xs =>
        obtain ⟨a, ys, rfl, ea, ra⟩ := rq.list
        exact ⟨a, ys, rfl, .inl ⟨SqL.of ea, (Po.okD h1).newL R1 ra.reverse⟩⟩
      | _ => exact h1.elim
  · cases hm
/-! ### calls -/
theorem k_blt {q : BF} {es : Es} {y : Expr} {xs : List Expr} {x : Str} {p p2 : Pos} (ok : OkX A c X n k W) (hx : (x == Str.ofString (bfN q)) = true) (hg : c.glob x = true) (h : PA X (y :: xs) (tA A W C es)) (hs : ∀ env, starEach (y :: xs) env = (y :: xs).map fun x => (false, eval x env)) :
    PE X (.Call (.Name x p) (y :: xs) [] p2) (tE A W C (.blt q es)) := by
  have ex : x = Str.ofString (bfN q) := eq_of_beq hx
  subst ex
  have he : starEach (y :: xs) X.env = (false, eval y X.env) :: starEach xs X.env := by
    rw [hs]
    have : starEach xs X.env = xs.map fun x => (false, eval x X.env) := by
      have h2 := hs X.env
      cases y <;> first
        | (have h3 : (false, _) :: starEach xs X.env = _ := h2
           exact (List.cons.inj h3).2)
        | (have h3 : (true, _) :: starEach xs X.env = _ := h2
           exact absurd (congrArg Prod.fst (List.cons.inj h3).1) (by intro z; cases z))
    rw [this]
    rfl
  have hpl : (backTo p2 (starEach xs X.env)).any (·.1) = false := by
    have h2 := hs X.env
    rw [he] at h2
    rw [(List.cons.inj h2).2]
    exact plain_any xs
  have hc := cr_F (X := X) ok.calm ok.gd ok.room.units q
  have hb := bf_boot q
  have fin : ∀ {t : TE}, PE X (.Call (.Name (Str.ofString (bfN q)) p) (y :: xs) [] p2) (tCB (rF X.K q) (tA A W C es)) → PE X (.Call (.Name (Str.ofString (bfN q)) p) (y :: xs) [] p2) (tE A W C (.blt q es)) := fun {t} hp => by
    rw [ok.K] at hp
    exact hp.imp fun σ H Q ⟨f, m, ρ, R, re, h⟩ => ⟨f, m, ρ, R, re, (Po.bind (Ra := RlA A) rlV_mono h).imp fun vs H1 ⟨f1, m1, ys, R1, F1, rx, h1⟩ => by
      obtain ⟨w, e, q⟩ := h1.ofD
      obtain ⟨ds, e1, e2⟩ := Option.bind_eq_some_iff.mp e
      obtain ⟨d, e3, rfl⟩ := Option.map_eq_some_iff.mp e2
      exact bfn_ok R1 (datAll_rq R1 rx e1) e3 (q _ rfl)⟩
  unfold bfV at hc hb
  by_cases ht : bfTy q = true
  · rw [if_pos ht] at hc hb
    exact fin (t := tC .non) (pe_callTy hc (ok.glob hg) (ok.bf q) hb h (bf_name q) (bf_debug q) he hpl)
  · rw [if_neg ht] at hc hb
    exact fin (t := tC .non) (pe_callB hc (ok.glob hg) (ok.bf q) hb h (bf_name q) (bf_debug q) he hpl)
theorem k_call {g : Nat} {F : Fn} {es : Es} {y : Expr} {xs : List Expr} {p p2 : Pos} (ok : OkX A c X n k W) (hF : c.G g = some F) (hg : c.glob F.nm = true) (hd : nodbg F.nm = true) (h : PA X (y :: xs) (tA A W (callI c.G n) es)) (he : starEach (y :: xs) X.env = (false, eval y X.env) :: starEach xs X.env) (hpl : (backTo p2 (starEach xs X.env)).any (·.1) = false) :
    PE X (.Call (.Name F.nm p) (y :: xs) [] p2) (tE A W (callI c.G n) (.call g es)) := by
  obtain ⟨f0, fd, hm, hk, hb, hf⟩ := ok.fn g F hF
  refine (pe_callG (E := WE W) hf ok.gd ok.room (ok.glob hg) hm hk hb (fun σ => passAt ok.take σ) h (nodbg_is hd).1 he hpl).imp fun σ H Q ⟨f, m, ρ, R, re, h⟩ => ⟨f, m, ρ, R, re, ?_⟩
  refine (Po.bind (Ra := RlA A) rlV_mono h).imp fun vs H1 ⟨f1, m1, ys, R1, F1, rx, h1⟩ => ⟨A.Z, f1, m1, ys, R1, rx, ?_⟩
  have h1 : Po A W σ (RlV A true) f1 m1 H1 (callI c.G n g ys m1) Q := h1
  cases e : callI c.G n g ys m1 with
  | bad => rw [e] at h1; exact h1
  | ok x m' => rw [e] at h1; exact h1
  | exc x m' => rw [e] at h1; exact h1
end
end Pil

set_option Elab.async false
set_option linter.all false
set_option autoImplicit false
set_option maxRecDepth 100000
set_option maxHeartbeats 4000000
namespace Pil
open PySem PySem.Spec PyProof.Rows L2
section
variable {A : Ads} {c : Ctx} {X : Cx} {n k : Nat} {W : WX} {C : Nat → List SV → Sto → Out SV}
/-! ### isinstance of built-in classes -/
def tyN : PyData → String
  | .none => "NoneType"
  | .bool _ => "bool"
  | .int _ => "int"
  | .str _ => "str"
  | .tuple _ => "tuple"
  | .list _ => "list"
  | .dict _ => "dict"
theorem rq_tyx {K : PySem.W.Frag} {H : Hp} {B : Addr → Prop} {v : V} {d : PyData} (r : Rq H B v d) : TyX K H v (.type (tyN d)) := by
  cases r with
  | of r =>
    cases r with
    | non => exact .base .non
    | bl b => exact .base (.bl b)
    | int i => exact .base (.int i)
    | str x => exact .base (.str x)
    | lst e _ _ => exact .base (.lst e)
    | tup e _ _ => exact .base (.tup e)
  | lst e _ => exact .base (.lst e)
theorem isi_kit (d : PyData) (t : TK) : kitB (tyN d) (tkN t) = some (isiD d t) := by
  cases d <;> cases t <;> simp only [tyN, tkN, isiD] <;> decide +kernel
theorem isi_boot (t : TK) : bootBuiltins (Str.ofString (tkN t)) = some (.type (tkN t)) ∧ Str.ofString (tkN t) ≠ ("__name__" : Str) ∧ (Str.ofString (tkN t) == ("__debug__" : Str)) = false ∧ Str.ofString (tkN t) ∈ bltNames := by
  cases t <;> decide +kernel
theorem k_isi {a : E} {y : Expr} {t : TK} {x z : Str} {p p2 p3 : Pos} (ok : OkX A c X n k W) (h : PE X y (tE A W C a)) (hy : ∀ xs env, starEach (y :: xs) env = (false, eval y env) :: starEach xs env) (hx : (x == ("isinstance" : Str)) = true) (hg : c.glob x = true) (hz : (z == Str.ofString (tkN t)) = true) (hgz : c.glob z = true) :
    PE X (.Call (.Name x p) [y, .Name z p2] [] p3) (tE A W C (.isi a t)) := by
  have ex : x = ("isinstance" : Str) := eq_of_beq hx
  have ez : z = Str.ofString (tkN t) := eq_of_beq hz
  subst ex ez
  obtain ⟨b1, b2, b3, b4⟩ := isi_boot t
  have hp := pe_callB (pos := p3) (p := p) (X := X) call_isi (ok.glob hg) (ok.blt _ (by decide +kernel)) (by decide +kernel) (pa_cons h (pa_cons (pe_bltn (pos := p2) (v := .ty (tkN t)) (ok.glob hgz) (ok.blt _ b4) b1 rfl b2 b3) pa_nil rfl) (hy _ _)) (by decide +kernel) (by decide +kernel) (hy _ _) rfl
  refine hp.imp fun σ H Q ⟨f, m, ρ, R, re, h⟩ => ⟨f, m, ρ, R, re, ?_⟩
  refine (Po.bind (Ra := RlV A (freshE a)) rlV_mono h).imp fun v H1 ⟨f1, m1, y, R1, F1, rx, h1⟩ => ?_
  obtain ⟨w, e, q⟩ := h1.ofD
  obtain ⟨d, e1, rfl⟩ := Option.map_eq_some_iff.mp e
  exact ⟨v, .ty (tkN t), .type (tyN d), .type (tkN t), isiD d t, rfl, .ty (tkN t), rq_tyx (dat_rq R1 rx.1 e1), kit_ty (isi_kit d t), (q _ rfl).bool R1⟩

/-! ### methods -/
theorem recv_ty {q : MF} {m : Sto} {f : Nat → Addr} {H : Hp} {v : V} {x : SV} (R : RS A f m H) (r : RpS A f m H v x) (h : recvOk q m x = true) : tyV X.K (mfT q) v H := by
  have key : recvOk.isL (dat m x) = true → tyV X.K "list" v H := fun e => by
    cases ed : dat m x with
    | none => rw [ed] at e; cases e
    | some d =>
      rw [ed] at e
      cases d with
      | list xs => exact tyV_list (dat_rq R r ed)
      | _ => cases e
  have str : ∀ {z : Str}, RpS A f m H v (.d (.str z)) → tyV X.K "str" v H := fun r => by
    rw [(Rq.of r).str]; rfl
  cases q with
  | append => exact key h
  | pop => exact key h
  | insert => exact key h
  | lindex => exact key h
  | lcount => exact key h
  | sindex =>
    cases x with
    | d y => cases y <;> first | exact str r | cases h
    | _ => cases h
  | join =>
    cases x with
    | d y => cases y <;> first | exact str r | cases h
    | _ => cases h
  | startswith =>
    cases x with
    | d y => cases y <;> first | exact str r | cases h
    | _ => cases h
/-- a method that changes a boxed list -/
theorem mmu_ok {q : MF} {f : Nat → Addr} {m : Sto} {H : Hp} {l : Nat} {xs xs' vs : List PyData} {z : PyData} {ws : List V} {Q : VK} (R : RS A f m H) (e : m[l]? = some (.lst xs)) (r : RpAll H (Box A f m) ws vs) (em : mmu q xs vs = some (xs', z))
    (h : ∀ v' H', RS A f (m.set l (.lst xs')) H' → Fra f m H f (m.set l (.lst xs')) H' → Rp H' (Box A f (m.set l (.lst xs'))) v' z → Q v' H') : rM A.K q (.ref (f l)) ws H Q := by
  obtain ⟨us, eu, ru⟩ := R.ob l _ e
  have put : ∀ {us' : List V} {v' : V}, RpAll H (Box A f m) us' xs' → Rp H (Box A f m) v' z → Q v' (upd H (f l) (.lst us')) := fun {us' v'} r' rz => by
    obtain ⟨hk, hb⟩ := upd_up (o' := .lst xs') (u := .lst us') R e (fun z => nomatch z) (fun z => nomatch z)
    have hB : ∀ b, Box A f (m.set l (.lst xs')) b → Box A f m b := fun b z => z.elim .inl fun z => .inr ((hb b).mp z)
    have keepA : ∀ {vs : List V} {ds : List PyData}, RpAll H (Box A f m) vs ds → RpAll (upd H (f l) (.lst us')) (Box A f (m.set l (.lst xs'))) vs ds := fun r => r.keep (fun b o e n => hk b o e fun z => n (.inr z)) fun b o e n z => n (hB b z)
    obtain ⟨R', F'⟩ := R.put (o' := .lst xs') (u := .lst us') e (fun z => nomatch z) (fun z => nomatch z) ⟨us', upd_same, keepA r'⟩
    exact h v' _ R' F' (F'.rp rz)
  unfold mmu at em
  split at em
  · split at em
    · rename_i hlt
      cases em
      cases r with
      | cons ry rt =>
        cases rt
        exact ⟨f l, us, _, rfl, rfl, eu, by rw [ru.length, sizeLine_eq]; exact of_decide_eq_true hlt, put (ru.append (.cons ry .nil)) .non⟩
    · cases em
  · obtain ⟨y, ey, e2⟩ := Option.map_eq_some_iff.mp em
    cases e2
    cases r
    obtain ⟨v, ev, rv⟩ := ru.get ey
    exact .inl ⟨f l, us, v, rfl, rfl, eu, by rw [ru.length]; exact ev, put ru.dropLast rv⟩
  · split at em
    · rename_i hb
      obtain ⟨j, ej, e2⟩ := Option.bind_eq_some_iff.mp em
      obtain ⟨y, ey, e3⟩ := Option.map_eq_some_iff.mp e2
      cases e3
      cases r with
      | cons ri rt =>
        cases rt
        cases ri
        simp only [Bool.and_eq_true, decide_eq_true_eq] at hb
        obtain ⟨v, ev, rv⟩ := ru.get ey
        exact .inr ⟨f l, us, _, j, v, rfl, rfl, eu, hb.1, hb.2, by rw [ru.length]; exact ej, ev, put (ru.eraseIdx j) rv⟩
    · cases em
  · split at em
    · rename_i hb
      cases em
      cases r with
      | cons ri rt =>
        cases rt with
        | cons ry rt =>
          cases rt
          cases ri
          simp only [Bool.and_eq_true, decide_eq_true_eq] at hb
          obtain ⟨rfl, hlt⟩ := hb
          refine ⟨f l, us, 0, _, rfl, rfl, eu, by rw [ru.length, sizeLine_eq]; exact hlt, Int.le_refl _, by decide, ?_⟩
          exact put (.cons ry ru) .non
    · cases em
  · cases em
theorem k_mth {q : MF} {o : E} {es : Es} {x : Expr} {xs : List Expr} {nm : Str} {p ap : Pos} (ok : OkX A c X n k W) (ho : PE X x (tE A W C o)) (h : PA X xs (tA A W C es)) (hes : mEs c es xs = true) (hnm : (nm == Str.ofString (mfN q)) = true) (hl : (ap.endLine == p.line) = true) (hsu : noSuper x = true) (hlen : xs.length < 20) :
    PE X (.Call (.Attribute x nm ap) xs [] p) (tE A W C (.mth q o es)) := by
  have en : nm = Str.ofString (mfN q) := eq_of_beq hnm
  subst en
  have read : ∀ {σ : L2.St} {H : Hp} {Q : VK}, tE A W C (.mth q o es) σ H Q → tBM X.K (mfT q) (rM A.K q) (tE A W C o) (tA A W C es) σ H Q := fun {σ H Q} ⟨f, m, ρ, R, re, h⟩ => by
    refine ⟨f, m, ρ, R, re, (Po.bind (Ra := RlV A (freshE o)) rlV_mono h).imp fun v H1 ⟨f1, m1, y, R1, F1, rx, h1⟩ => ?_⟩
    by_cases hr : recvOk q m1 y = true
    · refine ⟨recv_ty R1 rx.1 hr, f1, m1, ρ, R1, F1.re re, ?_⟩
      rw [if_pos hr] at h1
      refine (Po.bind (Ra := RlA A) rlV_mono h1).imp fun ws H2 ⟨f2, m2, ys, R2, F2, ry, h2⟩ => ?_
      have hx := F2.rpS rx.1
      cases hq : isMut q with
      | false =>
        simp only [hq] at h2
        obtain ⟨w, e, q'⟩ := h2.ofD
        obtain ⟨d1, e1, e2⟩ := Option.bind_eq_some_iff.mp e
        obtain ⟨ds, e3, e4⟩ := Option.bind_eq_some_iff.mp e2
        obtain ⟨d, e5, rfl⟩ := Option.map_eq_some_iff.mp e4
        exact mfn_ok R2 (dat_rq R2 hx e1) (datAll_rq R2 ry e3) e5 (q' _ rfl)
      | true =>
        simp only [hq] at h2
        cases y with
        | ref l =>
          obtain ⟨rfl, hlt⟩ := hx
          cases e : m2[l]? with
          | none => simp only [e] at h2; exact h2.elim
          | some ob =>
            simp only [e] at h2
            cases ob with
            | lst xs =>
              cases ep : datP ys with
              | none => simp only [ep] at h2; exact h2.elim
              | some vs =>
                simp only [ep] at h2
                cases em : mmu q xs vs with
                | none => simp only [em] at h2; exact h2.elim
                | some r =>
                  obtain ⟨xs', z⟩ := r
                  simp only [em] at h2
                  exact mmu_ok R2 e (datP_rp ry ep) em fun v' H' R' F' rz => h2 f2 H' v' R' F' ⟨rz, fun z => nomatch z⟩
            | _ => exact h2.elim
        | _ => exact h2.elim
    · rw [if_neg hr] at h1
      exact h1.elim
  have hm := mt_M (X := X) ok.room.units q
  rw [ok.K] at hm
  cases xs with
  | nil =>
    have e0 : es = .nil := by
      cases es with
      | nil => rfl
      | cons _ _ => cases hes
    subst e0
    refine (pe_bm0 (mf_pa q) (mf_slot q) (mf_type q) hm ho (noSuper_is hsu _ _ _) hl).imp fun σ H Q hw => ?_
    obtain ⟨f, m, ρ, R, re, h2⟩ := read hw
    exact ⟨f, m, ρ, R, re, h2.imp fun v H1 ⟨ty, f1, m1, ρ1, R1, re1, ht⟩ => ⟨ty, ht f1 H1 [] R1 Fra.refl .nil⟩⟩
  | cons y xs =>
    have st := stars_of hes X.env
    have he : starEach (y :: xs) X.env = (false, eval y X.env) :: starEach xs X.env := by
      cases es with
      | nil => cases hes
      | cons e es =>
        have hes' : (mE c e y && mEs c es xs) = true := hes
        rw [Bool.and_eq_true] at hes'
        exact star_of hes'.1 xs X.env
    have st2 : starEach xs X.env = xs.map fun x => (false, eval x X.env) := by
      rw [he] at st
      exact (List.cons.inj st).2
    refine (pe_bm (mf_pa q) (mf_slot q) (mf_type q) hm ho h (noSuper_is hsu _ _ _) ?_ hl he (by rw [st2]; exact plain_any xs)).imp fun σ H Q hw => read hw
    rw [st, plain_few]
    show decide _ = true
    refine decide_eq_true ?_
    show (y :: xs).length + 0 + 0 < 30
    omega
end
end Pil

set_option Elab.async false
set_option linter.all false
set_option autoImplicit false
set_option maxRecDepth 100000
set_option maxHeartbeats 4000000
namespace Pil
open PySem PySem.Spec PyProof.Rows L2

/-! ### another set of boxes -/
section
variable {A : Ads} {f f' f2 : Nat → Addr} {m m' m2 : Sto} {H H2 : Hp} {l : Nat} {xs : List PyData}
theorem rp_box {B B' : Addr → Prop} {v : V} {d : PyData} (hb : ∀ b, B' b → B b) (r : Rp H B v d) : Rp H B' v d := r.keep (fun _ _ e _ => e) fun b _ _ n z => n (hb b z)
theorem rpAll_box {B B' : Addr → Prop} {v : List V} {d : List PyData} (hb : ∀ b, B' b → B b) (r : RpAll H B v d) : RpAll H B' v d := r.keep (fun _ _ e _ => e) fun b _ _ n z => n (hb b z)
theorem rpS_box {Z' : Addr → Prop} (hb : ∀ b, Box (A.z Z') f m' b → Box A f m b) (hl : m.length ≤ m'.length) {v : V} : ∀ {x : SV}, RpS A f m H v x → RpS (A.z Z') f m' H v x
  | .d _, r => rp_box hb r
  | .ref l, r => ⟨r.1, Nat.lt_of_lt_of_le r.2 hl⟩
  | .fn _, r => r
  | .ext ns, r => by
    obtain ⟨a, e, r⟩ := r
    rcases r with ⟨n, o, r⟩ | r
    · exact ⟨a, e, .inl ⟨fun z => n (hb a z), o, r⟩⟩
    · exact ⟨a, e, .inr r⟩
theorem rpO_box {Z' : Addr → Prop} (hb : ∀ b, Box (A.z Z') f m' b → Box A f m b) (hl : m.length ≤ m'.length) {a : Addr} : ∀ {o : Ob}, RpO A f m H a o → RpO (A.z Z') f m' H a o
  | .lst _, r => by obtain ⟨vs, e, r⟩ := r; exact ⟨vs, e, rpAll_box hb r⟩
  | .dk _, r => by obtain ⟨vs, e, r⟩ := r; exact ⟨vs, e, Paired.mapP r fun p q z => ⟨z.1, rpS_box hb hl z.2⟩⟩
  | .dt _, r => by obtain ⟨vs, e, r⟩ := r; exact ⟨vs, e, Paired.mapP r fun p q z => ⟨z.1, rpS_box hb hl z.2⟩⟩
  | .rcd _, r => by obtain ⟨vs, e, r⟩ := r; exact ⟨vs, e, Paired.mapP r fun p q z => ⟨z.1, rpS_box hb hl z.2⟩⟩
  | .ins _ _, r => r
  | .dead, _ => True.intro
theorem re_box {Z' : Addr → Prop} {σ : L2.St} {ρ : Rho} (hb : ∀ b, Box (A.z Z') f m' b → Box A f m b) (hl : m.length ≤ m'.length) (r : RE A f m H σ ρ) : RE (A.z Z') f m' H σ ρ := ⟨r.len, fun i x e => by
  obtain ⟨v, h1, h2⟩ := r.at_ i x e
  exact ⟨v, h1, rpS_box hb hl h2⟩⟩
theorem exc_z {Z' : Addr → Prop} {cl : Value} {d : Option Addr} {x : Exn} (h : ExcR A H cl d x) : ExcR (A.z Z') H cl d x := h

/-! ### a list that is locked -/
theorem get_lock {l' : Nat} {o u : Ob} (e : (m.set l u)[l']? = some o) : (l' = l ∧ o = u) ∨ (l' ≠ l ∧ m[l']? = some o) := by
  by_cases h : l = l'
  · subst h
    have hl : l < m.length := by
      have := (List.getElem?_eq_some_iff.mp e).1
      rwa [List.length_set] at this
    rw [List.getElem?_set_self hl] at e
    cases e
    exact .inl ⟨rfl, rfl⟩
  · rw [List.getElem?_set_ne h] at e
    exact .inr ⟨fun z => h z.symm, e⟩
theorem live_at (e : m[l]? = some (.lst xs)) : Live f m (f l) := ⟨l, _, e, (fun z => by cases z), rfl⟩
theorem live_lock' {b : Addr} (h : Live f (m.set l .dead) b) : Live f m b := by
  obtain ⟨l', o, e, n, h⟩ := h
  rcases get_lock e with ⟨_, rfl⟩ | ⟨_, e⟩
  · exact absurd rfl n
  · exact ⟨l', o, e, n, h⟩
theorem live_lockM {k : Option Nat} {b : Addr} (h : Live f (lockM k m) b) : Live f m b := by
  cases k with
  | none => exact h
  | some l => exact live_lock' h
theorem live_lock (R : RS A f m H) (e : m[l]? = some (.lst xs)) {b : Addr} : Live f (m.set l .dead) b ↔ Live f m b ∧ b ≠ f l := by
  constructor
  · intro h
    refine ⟨live_lock' h, fun z => ?_⟩
    obtain ⟨l', o, e', n, h⟩ := h
    rcases get_lock e' with ⟨_, rfl⟩ | ⟨n', e'⟩
    · exact n rfl
    · exact n' (R.inj l' l o _ e' e n (fun z => nomatch z) (h.trans z))
  · rintro ⟨⟨l', o, e', n, h⟩, z⟩
    have : l ≠ l' := fun q => z (by rw [← h, q])
    exact ⟨l', o, by rw [List.getElem?_set_ne this]; exact e', n, h⟩
theorem box_lock (R : RS A f m H) (e : m[l]? = some (.lst xs)) {b : Addr} : Box (A.plus (f l)) f (m.set l .dead) b ↔ Box A f m b := by
  constructor
  · rintro ((z | rfl) | z)
    · exact .inl z
    · exact .inr (live_at e)
    · exact .inr (live_lock' z)
  · rintro (z | z)
    · exact .inl (.inl z)
    · by_cases h : b = f l
      · exact .inl (.inr h)
      · exact .inr ((live_lock R e).mpr ⟨z, h⟩)
theorem RS.lock (R : RS A f m H) (e : m[l]? = some (.lst xs)) : RS (A.plus (f l)) f (m.set l .dead) H := by
  have hb : ∀ b, Box (A.plus (f l)) f (m.set l .dead) b → Box A f m b := fun b => (box_lock R e).mp
  have hl : m.length ≤ (m.set l .dead).length := by rw [List.length_set]; exact Nat.le_refl _
  refine ⟨fun l' o e' => ?_, fun l1 l2 o1 o2 e1 e2 n1 n2 z => ?_, fun a z => ?_, fun a z lv => ?_⟩
  · rcases get_lock e' with ⟨_, rfl⟩ | ⟨_, e'⟩
    · exact True.intro
    · exact rpO_box (Z' := (A.plus (f l)).Z) hb hl (R.ob l' o e')
  · rcases get_lock e1 with ⟨_, rfl⟩ | ⟨_, e1⟩
    · exact absurd rfl n1
    · rcases get_lock e2 with ⟨_, rfl⟩ | ⟨_, e2⟩
      · exact absurd rfl n2
      · exact R.inj _ _ _ _ e1 e2 n1 n2 z
  · rcases z with z | rfl
    · exact R.zt a z
    · obtain ⟨vs, q, _⟩ := R.ob l _ e
      exact ⟨_, q, True.intro⟩
  · rcases z with z | rfl
    · exact R.zl a z (live_lock' lv)
    · exact ((live_lock R e).mp lv).2 rfl
theorem Fra.lock (e : m[l]? = some (.lst xs)) : Fra f m H f (m.set l .dead) H := ⟨fun _ _ => rfl, fun l' o h e' n => by
    have := (List.getElem?_eq_some_iff.mp e').1
    rw [List.length_set] at this
    omega, fun _ _ e _ => e, by rw [List.length_set]; exact Nat.le_refl _, fun l' e' => by
    by_cases h : l = l'
    · subst h
      rw [List.getElem?_set_self (List.getElem?_eq_some_iff.mp e).1]
    · rw [List.getElem?_set_ne h]; exact e', fun _ e => e⟩
theorem RS.unlock {Z2 : Addr → Prop} (R : RS A f m H) (e : m[l]? = some (.lst xs)) (F : Fra f (m.set l .dead) H f2 m2 H2) (hz2 : ∀ b o, H b = some o → Z2 b → A.Z b) (R2 : RS ((A.z Z2).plus (f l)) f2 m2 H2) :
    RS (A.z Z2) f2 (m2.set l (.lst xs)) H2 ∧ Fra f m H f2 (m2.set l (.lst xs)) H2 ∧ ∀ b, Box (A.z Z2) f2 (m2.set l (.lst xs)) b → Box ((A.z Z2).plus (f l)) f2 m2 b := by
  have hl : l < m.length := (List.getElem?_eq_some_iff.mp e).1
  have hl1 : l < (m.set l Ob.dead).length := by rw [List.length_set]; exact hl
  have hl2 : l < m2.length := Nat.lt_of_lt_of_le hl1 F.len
  have fl : f2 l = f l := F.agree l hl1
  have dead : m2[l]? = some .dead := F.dead l (List.getElem?_set_self hl)
  obtain ⟨vs, ev, rv⟩ := R.ob l _ e
  have nl : ¬ Live f (m.set l .dead) (f l) := fun z => ((live_lock R e).mp z).2 rfl
  have ev2 : H2 (f l) = some (.lst vs) := F.keep _ _ ev nl
  have liv : ∀ b, Live f2 (m2.set l (.lst xs)) b → Live f2 m2 b ∨ b = f l := fun b ⟨l', o, e', n, h⟩ => by
    rcases get_lock e' with ⟨rfl, rfl⟩ | ⟨_, e'⟩
    · exact .inr (by rw [← h, fl])
    · exact .inl ⟨l', o, e', n, h⟩
  have hb : ∀ b, Box (A.z Z2) f2 (m2.set l (.lst xs)) b → Box ((A.z Z2).plus (f l)) f2 m2 b := fun b z => by
    rcases z with z | z
    · exact .inl (.inl z)
    · rcases liv b z with z | z
      · exact .inr z
      · exact .inl (.inr z)
  have hlen : m2.length ≤ (m2.set l (.lst xs)).length := by rw [List.length_set]; exact Nat.le_refl _
  have rv2 : RpAll H2 (Box (A.z Z2) f2 (m2.set l (.lst xs))) vs xs := rv.keep (fun b o eb nb => F.keep b o eb fun z => nb (.inr (live_lock' z))) fun b o eb nb z => by
    rcases z with z | z
    · exact nb (.inl (hz2 b o eb z))
    · rcases liv b z with z | rfl
      · exact F.live eb (fun z => nb (.inr (live_lock' z))) z
      · exact nb (.inr (live_at e))
  refine ⟨⟨fun l' o e' => ?_, fun l1 l2 o1 o2 e1 e2 n1 n2 z => ?_, fun a z => R2.zt a (.inl z), fun a z lv => ?_⟩, ⟨fun l' h => F.agree l' (by rw [List.length_set]; exact h), fun l' o h e' n => ?_, fun b o eb nb => F.keep b o eb fun z => nb (live_lock' z), ?_, fun l' e' => ?_, F.mono⟩, hb⟩
  · rcases get_lock e' with ⟨rfl, rfl⟩ | ⟨_, e'⟩
    · exact ⟨vs, by rw [fl]; exact ev2, rv2⟩
    · exact rpO_box (A := (A.z Z2).plus (f l)) (Z' := Z2) hb hlen (R2.ob l' o e')
  · have no : ∀ {l' : Nat} {o : Ob}, m2[l']? = some o → o ≠ .dead → l' ≠ l → f2 l' ≠ f l := fun {l' o} e' n h z => by
      exact R2.zl (f l) (.inr rfl) ⟨l', o, e', n, z⟩
    rcases get_lock e1 with ⟨q1, _⟩ | ⟨h1, d1⟩
    · rcases get_lock e2 with ⟨q2, _⟩ | ⟨h2, d2⟩
      · rw [q1, q2]
      · rw [q1] at z
        exact absurd (z.symm.trans fl) (no d2 n2 h2)
    · rcases get_lock e2 with ⟨q2, _⟩ | ⟨h2, d2⟩
      · rw [q2] at z
        exact absurd (z.trans fl) (no d1 n1 h1)
      · exact R2.inj _ _ _ _ d1 d2 n1 n2 z
  · rcases liv a lv with lv | rfl
    · exact R2.zl a (.inl z) lv
    · exact R.zl _ (hz2 _ _ ev z) (live_at e)
  · rcases get_lock e' with ⟨rfl, rfl⟩ | ⟨_, e'⟩
    · omega
    · exact F.new l' o (by rw [List.length_set]; exact h) e' n
  · have := F.len
    rw [List.length_set] at this
    rw [List.length_set]
    exact this
  · have hne : l ≠ l' := fun z => by subst z; rw [e] at e'; cases e'
    rw [List.getElem?_set_ne hne]
    exact F.dead l' (by rw [List.getElem?_set_ne hne]; exact e')
/-- nobody needs to know that a place is set aside -/
theorem RS.drop {a : Addr} (R : RS (A.plus a) f m H) : RS A f m H := by
  have hb : ∀ b, Box A f m b → Box (A.plus a) f m b := fun b z => plus_box (.inl z)
  exact ⟨fun l o e => rpO_box (A := A.plus a) (Z' := A.Z) hb (Nat.le_refl _) (R.ob l o e), R.inj, fun b z => R.zt b (.inl z), fun b z => R.zl b (.inl z)⟩

/-! ### what is walked -/
def lockA (A : Ads) (f : Nat → Addr) : Option Nat → Ads
  | none => A
  | some l => A.plus (f l)
structure Yld (A : Ads) (f : Nat → Addr) (m : Sto) (H : Hp) (J : L2.It) (xs : List PyData) : Prop where
  go : ∀ i, i < xs.length → J.go i H
  stop : J.stop xs.length H
  yld : ∀ i x v H', xs[i]? = some x → J.yld i H v H' → Up H H' ∧ Rp H' (Box A f m) v x
structure GoodIt (A : Ads) (f : Nat → Addr) (m : Sto) (H : Hp) (J : L2.It) (q : Items) : Prop where
  lk : ∀ l, q.2 = some l → m[l]? = some (.lst q.1)
  on : ∀ Z2 f2 m2 H2, RS (A.z Z2) f2 m2 H2 → (∀ b o, H b = some o → ¬ Live f (lockM q.2 m) b → H2 b = some o) → (∀ b o, H b = some o → ¬ Box A f m b → ¬ Box (A.z Z2) f2 m2 b) → Yld (A.z Z2) f2 m2 H2 J q.1
theorem good_list {K : PySem.W.Frag} {a : Addr} {vs : List V} {k : Option Nat} (e : H a = some (.lst vs)) (n : ¬ Live f (lockM k m) a) (r : RpAll H (Box A f m) vs xs) (hk : ∀ l, k = some l → m[l]? = some (.lst xs)) : GoodIt A f m H (Itl K a) (xs, k) :=
  ⟨hk, fun Z2 f2 m2 H2 R k1 k2 => by
    have e2 := k1 a _ e n
    have r2 : RpAll H2 (Box (A.z Z2) f2 m2) vs xs := r.keep (fun b o e nb => k1 b o e fun lv => nb (.inr (live_lockM lv))) k2
    refine ⟨fun i hi => ?_, ⟨vs, SqL.of e2, by rw [r2.length]; exact Nat.le_refl _⟩, fun i x v H' hx hy => ?_⟩
    · have hi : i < xs.length := hi
      rw [← r2.length] at hi
      exact ⟨vs, vs[i], SqL.of e2, List.getElem?_eq_getElem hi⟩
    · obtain ⟨rfl, hy⟩ := hy
      obtain ⟨d, h1, h2⟩ := r2.get' (hy vs (SqL.of e2))
      have hx : xs[i]? = some x := hx
      rw [hx] at h1; cases h1
      exact ⟨fun _ _ e => e, h2⟩⟩
theorem good_tup {K : PySem.W.Frag} {a : Addr} {vs : List V} (e : H a = some (.tup vs)) (n : ¬ Live f m a) (r : RpAll H (Box A f m) vs xs) : GoodIt A f m H (Itt K a) (xs, none) :=
  ⟨(fun l z => by cases z), fun Z2 f2 m2 H2 R k1 k2 => by
    have e2 := k1 a _ e n
    have r2 : RpAll H2 (Box (A.z Z2) f2 m2) vs xs := r.keep (fun b o e nb => k1 b o e fun lv => nb (.inr lv)) k2
    refine ⟨fun i hi => ?_, ⟨vs, SqT.of e2, by rw [r2.length]; exact Nat.le_refl _⟩, fun i x v H' hx hy => ?_⟩
    · have hi : i < xs.length := hi
      rw [← r2.length] at hi
      exact ⟨vs, vs[i], SqT.of e2, List.getElem?_eq_getElem hi⟩
    · obtain ⟨rfl, hy⟩ := hy
      obtain ⟨d, h1, h2⟩ := r2.get' (hy vs (SqT.of e2))
      have hx : xs[i]? = some x := hx
      rw [hx] at h1; cases h1
      exact ⟨fun _ _ e => e, h2⟩⟩
theorem good_rng {a b : Int} : GoodIt A f m H (Itr a (b - a).toNat) (rngD a b, none) :=
  ⟨(fun l z => by cases z), fun Z2 f2 m2 H2 R k1 k2 => by
    have hlen : (rngD a b).length = (b - a).toNat := by unfold rngD; rw [List.length_map, List.length_range]
    refine ⟨fun i hi => ?_, ?_, fun i x v H' hx hy => ?_⟩
    · have hi : i < (rngD a b).length := hi
      rw [hlen] at hi; exact hi
    · show (b - a).toNat ≤ (rngD a b).length
      rw [hlen]; exact Nat.le_refl _
    · obtain ⟨rfl, rfl⟩ := hy
      have hx : (rngD a b)[i]? = some x := hx
      unfold rngD at hx
      rw [List.getElem?_map] at hx
      obtain ⟨j, h1, rfl⟩ := Option.map_eq_some_iff.mp hx
      obtain ⟨h2, h3⟩ := List.getElem?_eq_some_iff.mp h1
      rw [List.getElem_range] at h3
      subst h3
      exact ⟨fun _ _ e => e, .int _⟩⟩
theorem good_zip {K : PySem.W.Frag} {a b : Addr} {vs us : List V} {ys : List PyData} {T : Bool} (ea : H a = some (if T then .tup vs else .lst vs)) (na : ¬ Live f m a) (ra : RpAll H (Box A f m) vs xs) (eb : H b = some (if T then .tup us else .lst us)) (nb : ¬ Live f m b) (rb : RpAll H (Box A f m) us ys) :
    GoodIt A f m H (if T then RZ.ItzT K a b else Itz K a b) ((xs.zip ys).map fun p => .tuple [p.1, p.2], none) :=
  ⟨(fun l z => by cases z), fun Z2 f2 m2 H2 R k1 k2 => by
    have ea2 := k1 a _ ea na
    have eb2 := k1 b _ eb nb
    have ra2 : RpAll H2 (Box (A.z Z2) f2 m2) vs xs := ra.keep (fun b o e nb => k1 b o e fun lv => nb (.inr lv)) k2
    have rb2 : RpAll H2 (Box (A.z Z2) f2 m2) us ys := rb.keep (fun b o e nb => k1 b o e fun lv => nb (.inr lv)) k2
    have la := ra2.length
    have lb := rb2.length
    have key : ∀ {i : Nat} {x : PyData} {v u : V} {T : Addr}, ((xs.zip ys).map fun p => PyData.tuple [p.1, p.2])[i]? = some x → vs[i]? = some v → us[i]? = some u → H2 T = none → Up H2 (upd H2 T (.tup [v, u])) ∧ Rp (upd H2 T (.tup [v, u])) (Box (A.z Z2) f2 m2) (.ref T) x := fun {i x v u T} hx hv hu hT => by
      rw [List.getElem?_map] at hx
      obtain ⟨p, h1, rfl⟩ := Option.map_eq_some_iff.mp hx
      obtain ⟨h2, h3⟩ := List.getElem?_zip_eq_some.mp h1
      obtain ⟨d1, q1, r1⟩ := ra2.get' hv
      obtain ⟨d2, q2, r2⟩ := rb2.get' hu
      rw [h2] at q1; cases q1
      rw [h3] at q2; cases q2
      exact ⟨up_new hT, .tup upd_same (R.nobox hT) (.cons ((up_new hT).rp r1) (.cons ((up_new hT).rp r2) .nil))⟩
    cases T with
    | false =>
      refine ⟨fun i hi => ?_, ?_, fun i x v H' hx hy => ?_⟩
      · have hi : i < ((xs.zip ys).map fun p => PyData.tuple [p.1, p.2]).length := hi
        rw [List.length_map, List.length_zip] at hi
        exact ⟨vs, us, vs[i], us[i], SqL.of ea2, SqL.of eb2, List.getElem?_eq_getElem _, List.getElem?_eq_getElem _⟩
      · refine ⟨vs, us, SqL.of ea2, SqL.of eb2, ?_⟩
        show _ ≤ ((xs.zip ys).map fun p => PyData.tuple [p.1, p.2]).length ∨ _ ≤ ((xs.zip ys).map fun p => PyData.tuple [p.1, p.2]).length
        rw [List.length_map, List.length_zip]
        omega
      · obtain ⟨T, v1, v2, rfl, hT, rfl, h1, h2⟩ := hy
        exact key hx (h1 _ (SqL.of ea2)) (h2 _ (SqL.of eb2)) hT
    | true =>
      refine ⟨fun i hi => ?_, ?_, fun i x v H' hx hy => ?_⟩
      · have hi : i < ((xs.zip ys).map fun p => PyData.tuple [p.1, p.2]).length := hi
        rw [List.length_map, List.length_zip] at hi
        exact ⟨vs, us, vs[i], us[i], SqT.of ea2, SqT.of eb2, List.getElem?_eq_getElem _, List.getElem?_eq_getElem _⟩
      · refine ⟨vs, us, SqT.of ea2, SqT.of eb2, ?_⟩
        show _ ≤ ((xs.zip ys).map fun p => PyData.tuple [p.1, p.2]).length ∨ _ ≤ ((xs.zip ys).map fun p => PyData.tuple [p.1, p.2]).length
        rw [List.length_map, List.length_zip]
        omega
      · obtain ⟨T, v1, v2, rfl, hT, rfl, h1, h2⟩ := hy
        exact key hx (h1 _ (SqT.of ea2)) (h2 _ (SqT.of eb2)) hT⟩
theorem good_enm {K : PySem.W.Frag} {a : Addr} {vs : List V} (ea : H a = some (.lst vs)) (na : ¬ Live f m a) (ra : RpAll H (Box A f m) vs xs) : GoodIt A f m H (Ite K a) (xs.mapIdx fun i y => .tuple [.int i, y], none) :=
  ⟨(fun l z => by cases z), fun Z2 f2 m2 H2 R k1 k2 => by
    have e2 := k1 a _ ea na
    have r2 : RpAll H2 (Box (A.z Z2) f2 m2) vs xs := ra.keep (fun b o e nb => k1 b o e fun lv => nb (.inr lv)) k2
    have la := r2.length
    refine ⟨fun i hi => ?_, ?_, fun i x v H' hx hy => ?_⟩
    · have hi : i < (xs.mapIdx fun i y => PyData.tuple [.int i, y]).length := hi
      rw [List.length_mapIdx, ← la] at hi
      exact ⟨vs, vs[i], SqL.of e2, List.getElem?_eq_getElem hi⟩
    · refine ⟨vs, SqL.of e2, ?_⟩
      show _ ≤ (xs.mapIdx fun i y => PyData.tuple [.int i, y]).length
      rw [List.length_mapIdx, la]
      exact Nat.le_refl _
    · obtain ⟨T, v1, rfl, hT, rfl, h1⟩ := hy
      have hx : (xs.mapIdx fun i y => PyData.tuple [.int i, y])[i]? = some x := hx
      rw [List.getElem?_mapIdx] at hx
      obtain ⟨p, h2, rfl⟩ := Option.map_eq_some_iff.mp hx
      obtain ⟨d1, q1, r1⟩ := r2.get' (h1 _ (SqL.of e2))
      rw [h2] at q1; cases q1
      exact ⟨up_new hT, .tup upd_same (R.nobox hT) (.cons (.int _) (.cons ((up_new hT).rp r1) .nil))⟩⟩
end
def RlI (A : Ads) : Rel Items L2.It := fun _ f m H' J q => GoodIt A f m H' J q
theorem rlI_mono {A : Ads} : ∀ H H1 f' m' H' v x, (∀ b, H1 b = none → H b = none) → RlI A H1 f' m' H' v x → RlI A H f' m' H' v x := fun _ _ _ _ _ _ _ _ h => h
def tI (A : Ads) (W : WX) (C : Nat → List SV → Sto → Out SV) (it : It) : TI := fun σ H R => ∃ f m ρ, RS A f m H ∧ RE A f m H σ ρ ∧ Po A W σ (RlI A) f m H (evI C it ρ m) R
section
variable {A : Ads} {c : Ctx} {X : Cx} {n k : Nat} {W : WX} {C : Nat → List SV → Sto → Out SV} {tg : Expr}
theorem _root_.L2.PI.imp {e : Expr} {t t' : TI} (h : PI X tg e t) (k : ∀ σ H Q, t' σ H Q → t σ H Q) : PI X tg e t' := ⟨fun pins s σ H Q I q => h.run pins s σ H Q I (k _ _ _ q)⟩
def iSeq (K : PySem.W.Frag) (tl : TE) : TI := fun σ H R => tl σ H fun x H1 => ∃ a, x = .ref a ∧ (((∃ xs, SqL K H1 a xs) ∧ R (Itl K a) H1) ∨ ((∃ xs, SqT K H1 a xs) ∧ R (Itt K a) H1))
theorem pi_seq {l : Expr} {tl : TE} (hl : PE X l tl) : PI X tg l (iSeq X.K tl) := by
  refine ⟨fun pins s σ H R I h => ?_⟩
  refine thn (hl.run pins s σ H _ I h) fun v s1 ⟨x, H1, I1, r1, q1⟩ => ?_
  obtain ⟨a, e, q1⟩ := q1
  subst e
  cases r1
  have one : ∀ b ∈ [s1.heap.objs.size], FpOk X pins H1 b := fun b hb => by
    have e : b = s1.heap.objs.size := by simpa using hb
    subst e
    exact I1.fpOk (Nat.le_refl _) (I1.hok.fresh (Nat.le_refl _))
  rcases q1 with ⟨⟨xs, hq⟩, q⟩ | ⟨⟨xs, hq⟩, q⟩
  · obtain ⟨its, rv, p, hz⟩ := I1.list hq
    refine wpAny_pyIter_list p.isList ?_
    exact ⟨_, _, _, _, H1, rfl, I1.kept (t' := s1.toks) fun b o e => Heap.get?_push_of_some _ e, turn_list a _, ⟨_, Heap.get?_push_size _ rfl, rfl, rfl⟩, one, q⟩
  · obtain ⟨its, rv, p, hz⟩ := I1.tuple hq
    refine wpAny_pyIter_tuple (show s1.heap.IsTuple a its.toArray from p) ?_
    exact ⟨_, _, _, _, H1, rfl, I1.kept (t' := s1.toks) fun b o e => Heap.get?_push_of_some _ e, turn_tuple a _, ⟨_, Heap.get?_push_size _ rfl, rfl, rfl⟩, one, q⟩
theorem k_seq {e : E} {x : Expr} (h : PE X x (tE A W C e)) : PI X tg x (tI A W C (.seq e)) :=
  (pi_seq h).imp fun σ H Q ⟨f, m, ρ, R, re, h⟩ => ⟨f, m, ρ, R, re, (Po.bind (Ra := RlV A (freshE e)) rlI_mono h).imp fun v H1 ⟨f1, m1, y, R1, F1, rx, h1⟩ => by
    obtain ⟨q, e, q'⟩ := h1.of
    have rx := rx.1
    unfold seqI at e
    split at e
    · cases e
      cases rx with
      | lst ea na ra => exact ⟨_, rfl, .inl ⟨⟨_, SqL.of ea⟩, q' f1 H1 _ R1 Fra.refl (good_list ea (fun z => na (.inr z)) ra (fun l z => by cases z))⟩⟩
    · cases e
      cases rx with
      | tup ea na ra => exact ⟨_, rfl, .inr ⟨⟨_, SqT.of ea⟩, q' f1 H1 _ R1 Fra.refl (good_tup ea (fun z => na (.inr z)) ra)⟩⟩
    · split at e
      · rename_i xs hm
        cases e
        obtain ⟨rfl, hlt⟩ := rx
        obtain ⟨vs, ea, ra⟩ := R1.ob _ _ hm
        exact ⟨_, rfl, .inl ⟨⟨_, SqL.of ea⟩, q' f1 H1 _ R1 Fra.refl (good_list ea (fun z => ((live_lock R1 hm).mp z).2 rfl) ra fun l' z => by cases z; exact hm)⟩⟩
      · cases e
    · cases e⟩
theorem k_rng1 {e : E} {y : Expr} {x : Str} {p p2 : Pos} (ok : OkX A c X n k W) (hx : (x == ("range" : Str)) = true) (hg : c.glob x = true) (h : PE X y (tE A W C e)) (hy : ∀ xs env, starEach (y :: xs) env = (false, eval y env) :: starEach xs env) : PI X tg (.Call (.Name x p) [y] [] p2) (tI A W C (.rng1 e)) := by
  have ex : x = ("range" : Str) := eq_of_beq hx
  subst ex
  refine (pi_range1 (ok.glob hg) (ok.blt _ (by decide +kernel)) (pa_cons h pa_nil (hy _ _)) (hy _ _)).imp fun σ H Q ⟨f, m, ρ, R, re, h⟩ => ⟨f, m, ρ, R, re, (Po.bind (Ra := RlV A (freshE e)) rlI_mono h).imp fun v H1 ⟨f1, m1, y, R1, F1, rx, h1⟩ => ?_⟩
  split at h1
  · rename_i j
    split at h1
    · rename_i hs
      unfold small62 at hs
      simp only [Bool.and_eq_true, decide_eq_true_eq] at hs
      refine ⟨j, by rw [(Rq.of rx.1).int], hs.1, hs.2, h1 f1 H1 _ R1 Fra.refl ?_⟩
      have := good_rng (A := A) (f := f1) (m := m1) (H := H1) (a := 0) (b := j)
      rw [Int.sub_zero] at this
      exact this
    · exact h1.elim
  · exact h1.elim
theorem k_rng2 {a b : E} {y z : Expr} {x : Str} {p p2 : Pos} (ok : OkX A c X n k W) (hx : (x == ("range" : Str)) = true) (hg : c.glob x = true) (ha : PE X y (tE A W C a)) (hb : PE X z (tE A W C b)) (hy : ∀ xs env, starEach (y :: xs) env = (false, eval y env) :: starEach xs env) (hz : ∀ xs env, starEach (z :: xs) env = (false, eval z env) :: starEach xs env) : PI X tg (.Call (.Name x p) [y, z] [] p2) (tI A W C (.rng2 a b)) := by
  have ex : x = ("range" : Str) := eq_of_beq hx
  subst ex
  refine (pi_range2 (ok.glob hg) (ok.blt _ (by decide +kernel)) (pa_cons ha (pa_cons hb pa_nil (hz _ _)) (hy _ _)) ((hy _ _).trans (congrArg _ (hz _ _))) (hz _ _)).imp fun σ H Q ⟨f, m, ρ, R, re, h⟩ => ⟨f, m, ρ, R, re, (Po.bind (Ra := RlV A (freshE a)) rlI_mono h).imp fun v H1 ⟨f1, m1, y, R1, F1, rx, h1⟩ => ⟨f1, m1, ρ, R1, F1.re re, ?_⟩⟩
  refine (Po.bind (Ra := RlV A (freshE b)) rlI_mono h1).imp fun u H2 ⟨f2, m2, z, R2, F2, ry, h2⟩ => ?_
  replace rx := F2.rpS rx.1
  clear h1
  split at h2
  · split at h2
    · rename_i hs
      unfold small62 at hs
      simp only [Bool.and_eq_true, decide_eq_true_eq] at hs
      exact ⟨_, _, by rw [(Rq.of rx).int, (Rq.of ry.1).int], ⟨hs.1.1, hs.1.2, hs.2.1, hs.2.2⟩, h2 f2 H2 _ R2 Fra.refl good_rng⟩
    · exact h2.elim
  · exact h2.elim
theorem k_zip {a b : E} {y z : Expr} {elts : List Expr} {kk : Nat} {tpos : Pos} {x : Str} {p p2 : Pos} (ok : OkX A c X n k W) (hx : (x == ("zip" : Str)) = true) (hg : c.glob x = true) (ha : PE X y (tE A W C a)) (hb : PE X z (tE A W C b)) (hy : ∀ xs env, starEach (y :: xs) env = (false, eval y env) :: starEach xs env) (hz : ∀ xs env, starEach (z :: xs) env = (false, eval z env) :: starEach xs env) : PI X (.Tuple elts kk tpos) (.Call (.Name x p) [y, z] [] p2) (tI A W C (.zip a b)) := by
  have ex : x = ("zip" : Str) := eq_of_beq hx
  subst ex
  refine (RZ.pi_zipA (ok.glob hg) (ok.blt _ (by decide +kernel)) (pa_cons ha (pa_cons hb pa_nil (hz _ _)) (hy _ _)) (hy _ _) (by rw [hz]; rfl)).imp fun σ H Q ⟨f, m, ρ, R, re, h⟩ => ⟨f, m, ρ, R, re, (Po.bind (Ra := RlV A (freshE a)) rlI_mono h).imp fun v H1 ⟨f1, m1, y, R1, F1, rx, h1⟩ => ⟨f1, m1, ρ, R1, F1.re re, ?_⟩⟩
  refine (Po.bind (Ra := RlV A (freshE b)) rlI_mono h1).imp fun u H2 ⟨f2, m2, z, R2, F2, ry, h2⟩ => ?_
  have rx := F2.rpS rx.1
  have ry := ry.1
  split at h2
  · cases rx with
    | lst ea na ra => cases ry with
      | lst eb nb rb => exact ⟨_, _, _, _, rfl, .inl ⟨SqL.of ea, SqL.of eb, h2 f2 H2 _ R2 Fra.refl (good_zip (T := false) ea (fun z => na (.inr z)) ra eb (fun z => nb (.inr z)) rb)⟩⟩
  · cases rx with
    | tup ea na ra => cases ry with
      | tup eb nb rb => exact ⟨_, _, _, _, rfl, .inr ⟨SqT.of ea, SqT.of eb, h2 f2 H2 _ R2 Fra.refl (good_zip (T := true) ea (fun z => na (.inr z)) ra eb (fun z => nb (.inr z)) rb)⟩⟩
  · exact h2.elim
theorem k_enm {a : E} {y : Expr} {elts : List Expr} {kk : Nat} {tpos : Pos} {x : Str} {p p2 : Pos} (ok : OkX A c X n k W) (hx : (x == ("enumerate" : Str)) = true) (hg : c.glob x = true) (ha : PE X y (tE A W C a)) (hy : ∀ xs env, starEach (y :: xs) env = (false, eval y env) :: starEach xs env) : PI X (.Tuple elts kk tpos) (.Call (.Name x p) [y] [] p2) (tI A W C (.enm a)) := by
  have ex : x = ("enumerate" : Str) := eq_of_beq hx
  subst ex
  refine (pi_enum (ok.glob hg) (ok.blt _ (by decide +kernel)) (pa_cons ha pa_nil (hy _ _)) (hy _ _)).imp fun σ H Q ⟨f, m, ρ, R, re, h⟩ => ⟨f, m, ρ, R, re, (Po.bind (Ra := RlV A (freshE a)) rlI_mono h).imp fun v H1 ⟨f1, m1, y, R1, F1, rx, h1⟩ => ?_⟩
  have rx := rx.1
  split at h1
  · cases rx with
    | lst ea na ra => exact ⟨_, _, rfl, SqL.of ea, h1 f1 H1 _ R1 Fra.refl (good_enm ea (fun z => na (.inr z)) ra)⟩
  · exact h1.elim
end
end Pil

set_option Elab.async false
set_option linter.all false
set_option autoImplicit false
set_option maxRecDepth 100000
set_option maxHeartbeats 4000000
namespace Pil
open PySem PySem.Spec PyProof.Rows L2

/-! ### slots that change -/
section
variable {A : Ads} {f : Nat → Addr} {m : Sto} {H : Hp} {σ σ' : L2.St} {ρ ρ' : Rho}
theorem RE.set {v : V} {x : SV} (i : Nat) (r : RE A f m H σ ρ) (rx : RpS A f m H v x) : RE A f m H (σ.set i (some v)) (ρ.set i (some x)) := ⟨by rw [List.length_set, List.length_set, r.len], fun j y e => by
  rw [List.getElem?_set] at e ⊢
  split at e
  · rename_i h
    subst h
    rw [if_pos rfl]
    split at e
    · cases e
      rename_i h
      rw [if_pos (by rw [r.len]; exact h)]
      exact ⟨v, rfl, rx⟩
    · cases e
  · rename_i h
    rw [if_neg h]
    exact r.at_ j y e⟩
theorem killR_get {j : Nat} {x : SV} : ∀ {ks : List Nat} {r : Rho}, (killR ks r)[j]? = some (some x) → r[j]? = some (some x) ∧ j ∉ ks
  | [], r, h => ⟨h, by simp⟩
  | k :: ks, r, h => by
    obtain ⟨h1, h2⟩ := killR_get (ks := ks) (r := r.set k none) h
    rw [List.getElem?_set] at h1
    split at h1
    · split at h1 <;> cases h1
    · rename_i hk
      exact ⟨h1, by simp only [List.mem_cons, not_or]; exact ⟨fun z => hk z.symm, h2⟩⟩
theorem killR_length : ∀ {ks : List Nat} {r : Rho}, (killR ks r).length = r.length
  | [], r => rfl
  | k :: ks, r => by
    have := killR_length (ks := ks) (r := r.set k none)
    rw [List.length_set] at this
    exact this
theorem RE.kill (ks : List Nat) (r : RE A f m H σ ρ) : RE A f m H σ (killR ks ρ) := ⟨by rw [killR_length]; exact r.len, fun i x e => r.at_ i x (killR_get e).1⟩
theorem wipe_get (j : Nat) : ∀ vs : List Nat, (wipe σ vs)[j]? = if j ∈ vs then (if j < σ.length then some none else none) else σ[j]?
  | [] => by simp [wipe]
  | v :: vs => by
    unfold wipe
    rw [List.getElem?_set, wipe_length, wipe_get j vs]
    by_cases h : v = j
    · subst h
      simp
    · have h' : ¬ j = v := fun z => h z.symm
      simp [h, h']
theorem wipe_set {i : Nat} {y : Option V} {vs : List Nat} (h : i ∈ vs) : wipe (σ.set i y) vs = wipe σ vs := by
  apply List.ext_getElem?
  intro j
  rw [wipe_get, wipe_get, List.length_set]
  by_cases hj : j ∈ vs
  · rw [if_pos hj, if_pos hj]
  · rw [if_neg hj, if_neg hj, List.getElem?_set_ne (fun z => hj (by rw [← z]; exact h))]
theorem RE.wipe (ks : List Nat) (r : RE A f m H σ ρ) : RE A f m H (wipe σ ks) (killR ks ρ) := ⟨by rw [killR_length, wipe_length]; exact r.len, fun i x e => by
  obtain ⟨h1, h2⟩ := killR_get e
  obtain ⟨v, h3, h4⟩ := r.at_ i x h1
  exact ⟨v, by rw [wipe_get, if_neg h2]; exact h3, h4⟩⟩

/-! ### targets -/
def tLen : Tgs → Nat
  | .nil => 0
  | .cons _ ts => tLen ts + 1
mutual
def gOf (K : PySem.W.Frag) : Tg → TG
  | .nm i => gName i
  | .tp ts => fun v σ H Q => gTup K (tLen ts) (gsOf K ts) v σ H Q ∨ gLst K (tLen ts) (gsOf K ts) v σ H Q
def gsOf (K : PySem.W.Frag) : Tgs → TGs
  | .nil => gNil
  | .cons t ts => gCons (gOf K t) (gsOf K ts)
end
theorem asgTs_len : ∀ {ts : Tgs} {xs : List PyData} {r r' : Rho}, asgTs ts xs r = some r' → xs.length = tLen ts
  | .nil, [], _, _, _ => rfl
  | .nil, _ :: _, _, _, h => by cases h
  | .cons _ _, [], _, _, h => by cases h
  | .cons t ts, x :: xs, r, r', h => by
    obtain ⟨r1, _, h⟩ := Option.bind_eq_some_iff.mp (show (asgT t x r).bind (fun r' => asgTs ts xs r') = some r' from h)
    rw [List.length_cons, asgTs_len h]
    rfl
mutual
theorem asg_ok {K : PySem.W.Frag} : ∀ {t : Tg} {x : PyData} {σ : L2.St} {ρ ρ' : Rho} {v : V} {Q : L2.St → Hp → Prop}, asgT t x ρ = some ρ' → Rp H (Box A f m) v x → RE A f m H σ ρ → (∀ σ', RE A f m H σ' ρ' → (∀ own, tgIn own t = true → wipe σ' own = wipe σ own) → Q σ' H) → gOf K t v σ H Q
  | .nm i, x, σ, ρ, ρ', v, Q, e, rv, re, q => by
    unfold asgT at e
    split at e
    · cases e
      exact q _ (re.set i (x := .d x) rv) fun own h => wipe_set (by
        have h' : own.contains i = true := h
        exact List.contains_iff_mem.mp h')
    · cases e
  | .tp ts, .tuple xs, σ, ρ, ρ', v, Q, e, rv, re, q => by
    have e : asgTs ts xs ρ = some ρ' := e
    cases rv with
    | tup ea na ra => exact .inl ⟨_, _, rfl, SqT.of ea, by rw [ra.length]; exact asgTs_len e, asgs_ok e ra re q⟩
  | .tp _, .none, _, _, _, _, _, e, _, _, _ => by cases e
  | .tp _, .bool _, _, _, _, _, _, e, _, _, _ => by cases e
  | .tp _, .int _, _, _, _, _, _, e, _, _, _ => by cases e
  | .tp _, .str _, _, _, _, _, _, e, _, _, _ => by cases e
  | .tp ts, .list xs, σ, ρ, ρ', v, Q, e, rv, re, q => by
    have e : asgTs ts xs ρ = some ρ' := e
    cases rv with
    | lst ea na ra => exact .inr ⟨_, _, rfl, SqL.of ea, by rw [ra.length]; exact asgTs_len e, asgs_ok e ra re q⟩
  | .tp _, .dict _, _, _, _, _, _, e, _, _, _ => by cases e
theorem asgs_ok {K : PySem.W.Frag} : ∀ {ts : Tgs} {xs : List PyData} {σ : L2.St} {ρ ρ' : Rho} {vs : List V} {Q : L2.St → Hp → Prop}, asgTs ts xs ρ = some ρ' → RpAll H (Box A f m) vs xs → RE A f m H σ ρ → (∀ σ', RE A f m H σ' ρ' → (∀ own, tgsIn own ts = true → wipe σ' own = wipe σ own) → Q σ' H) → gsOf K ts vs σ H Q
  | .nil, [], σ, ρ, ρ', vs, Q, e, rv, re, q => by
    cases e
    cases rv
    exact ⟨rfl, q σ re fun _ _ => rfl⟩
  | .nil, _ :: _, _, _, _, _, _, e, _, _, _ => by cases e
  | .cons _ _, [], _, _, _, _, _, e, _, _, _ => by cases e
  | .cons t ts, x :: xs, σ, ρ, ρ', vs, Q, e, rv, re, q => by
    obtain ⟨r1, e1, e2⟩ := Option.bind_eq_some_iff.mp (show (asgT t x ρ).bind (fun r' => asgTs ts xs r') = some ρ' from e)
    cases rv with
    | cons r rr =>
      refine ⟨_, _, rfl, asg_ok e1 r re fun σ1 re1 w1 => asgs_ok e2 rr re1 fun σ2 re2 w2 => q σ2 re2 fun own h => ?_⟩
      have h' : (tgIn own t && tgsIn own ts) = true := h
      rw [Bool.and_eq_true] at h'
      exact (w2 own h'.2).trans (w1 own h'.1)
end
end
section
variable {A : Ads} {c : Ctx} {X : Cx} {n k : Nat} {W : WX} {C : Nat → List SV → Sto → Out SV}
theorem tgt_star {c : Ctx} {t : Tg} {e : Expr} (h : mTg c t e = true) (es : List Expr) (env : Env) : assignEach (e :: es) env = (false, assign e env) :: assignEach es env := by
  cases t <;> cases e <;> first
    | rfl
    | cases h
mutual
theorem pg_of (ok : OkX A c X n k W) : ∀ {t : Tg} {e : Expr}, mTg c t e = true → PG X e (gOf X.K t)
  | .nm i, .Name x p, h => by
    have h' : (c.N[i]? == some x && c.loc x) = true := h
    rw [Bool.and_eq_true] at h'
    obtain ⟨h1, h2⟩ := ok.st x h'.2
    exact pg_name (by rw [ok.N]; exact ok.nd) (by rw [ok.N]; exact eq_of_beq h'.1) h1 h2
  | .tp ts, .Tuple es k p, h => by
    obtain ⟨h1, h2, h3⟩ := pgs_of ok (ts := ts) (es := es) h
    exact ⟨fun pins s σ H v u Q I r q => q.elim (fun q => (pg_tup ok.calm h1 h2 h3).run pins s σ H v u Q I r q) fun q => (pg_lst ok.calm h1 h2 h3).run pins s σ H v u Q I r q⟩
  | .nm i, .BoolOp .., h => by cases h
  | .nm i, .NamedExpr .., h => by cases h
  | .nm i, .BinOp .., h => by cases h
  | .nm i, .UnaryOp .., h => by cases h
  | .nm i, .Lambda .., h => by cases h
  | .nm i, .IfExp .., h => by cases h
  | .nm i, .Dict .., h => by cases h
  | .nm i, .Set .., h => by cases h
  | .nm i, .ListComp .., h => by cases h
  | .nm i, .SetComp .., h => by cases h
  | .nm i, .DictComp .., h => by cases h
  | .nm i, .GeneratorExp .., h => by cases h
  | .nm i, .Compare .., h => by cases h
  | .nm i, .Call .., h => by cases h
  | .nm i, .Constant .., h => by cases h
  | .nm i, .Attribute .., h => by cases h
  | .nm i, .Subscript .., h => by cases h
  | .nm i, .Starred .., h => by cases h
  | .nm i, .List .., h => by cases h
  | .nm i, .Tuple .., h => by cases h
  | .nm i, .Slice .., h => by cases h
  | .tp i, .Name .., h => by cases h
theorem pgs_of (ok : OkX A c X n k W) : ∀ {ts : Tgs} {es : List Expr}, mTgs c ts es = true → PGs X es (gsOf X.K ts) ∧ (assignEach es X.env).length = tLen ts ∧ (assignEach es X.env).findIdx? (·.1) = none
  | .nil, [], _ => ⟨pgs_nil, rfl, rfl⟩
  | .nil, _ :: _, h => by cases h
  | .cons _ _, [], h => by cases h
  | .cons t ts, e :: es, h => by
    have h' : (mTg c t e && mTgs c ts es) = true := h
    rw [Bool.and_eq_true] at h'
    obtain ⟨h1, h2, h3⟩ := pgs_of ok h'.2
    have hs := tgt_star h'.1 es X.env
    refine ⟨pgs_cons (pg_of ok h'.1) h1 (by rw [hs]; rfl), ?_, ?_⟩
    · rw [hs, List.length_cons, h2]; rfl
    · rw [hs, List.findIdx?_cons, h3]; rfl
end
end
end Pil

set_option Elab.async false
set_option linter.all false
set_option autoImplicit false
set_option maxRecDepth 100000
set_option maxHeartbeats 4000000
namespace Pil
open PySem PySem.Spec PyProof.Rows L2

section
variable {A : Ads} {f f' f2 : Nat → Addr} {m m' m2 : Sto} {H H' H2 : Hp} {xs : List PyData}
theorem rpS_keep {Z' : Addr → Prop} (hk : ∀ b o, H b = some o → ¬ Box A f m b → H' b = some o) (hb : ∀ b o, H b = some o → ¬ Box A f m b → ¬ Box (A.z Z') f' m' b) (hl : m.length ≤ m'.length) (hf : ∀ l, l < m.length → f' l = f l) {v : V} : ∀ {x : SV}, RpS A f m H v x → RpS (A.z Z') f' m' H' v x
  | .d _, r => r.keep hk hb
  | .ref l, r => ⟨by rw [hf l r.2]; exact r.1, Nat.lt_of_lt_of_le r.2 hl⟩
  | .fn _, r => r
  | .ext ns, r => by
    obtain ⟨a, e, r⟩ := r
    rcases r with ⟨n, o, r⟩ | r
    · exact ⟨a, e, .inl ⟨hb _ _ r n, o, hk _ _ r n⟩⟩
    · exact ⟨a, e, .inr r⟩
theorem re_keep {Z' : Addr → Prop} {σ : L2.St} {ρ : Rho} (hk : ∀ b o, H b = some o → ¬ Box A f m b → H' b = some o) (hb : ∀ b o, H b = some o → ¬ Box A f m b → ¬ Box (A.z Z') f' m' b) (hl : m.length ≤ m'.length) (hf : ∀ l, l < m.length → f' l = f l) (r : RE A f m H σ ρ) : RE (A.z Z') f' m' H' σ ρ := ⟨r.len, fun i x e => by
  obtain ⟨v, h1, h2⟩ := r.at_ i x e
  exact ⟨v, h1, rpS_keep hk hb hl hf h2⟩⟩
/-- the place of the list that is locked -/
def lockZ (Z : Addr → Prop) (f : Nat → Addr) (k : Option Nat) : Addr → Prop := fun b => Z b ∨ ∃ l, k = some l ∧ b = f l
theorem lockZ_none {Z : Addr → Prop} : lockZ Z f none = Z := funext fun b => propext ⟨fun h => h.elim id (fun ⟨_, e, _⟩ => by cases e), .inl⟩
theorem lockZ_some {Z : Addr → Prop} {l : Nat} : lockZ Z f (some l) = fun b => Z b ∨ b = f l := funext fun b => propext ⟨fun h => h.elim .inl fun ⟨_, e, h⟩ => by cases e; exact .inr h, fun h => h.elim .inl fun h => .inr ⟨l, rfl, h⟩⟩
theorem lockM_length {k : Option Nat} : (lockM k m).length = m.length := by
  cases k with
  | none => rfl
  | some l => exact List.length_set
theorem openM_length {k : Option Nat} : (openM k xs m).length = m.length := by
  cases k with
  | none => rfl
  | some l => exact List.length_set
theorem lock_all {k : Option Nat} (R : RS A f m H) (hk : ∀ l, k = some l → m[l]? = some (.lst xs)) : RS (A.z (lockZ A.Z f k)) f (lockM k m) H ∧ Fra f m H f (lockM k m) H ∧ ∀ b, Box (A.z (lockZ A.Z f k)) f (lockM k m) b ↔ Box A f m b := by
  cases k with
  | none =>
    rw [lockZ_none]
    exact ⟨R, Fra.refl, fun _ => Iff.rfl⟩
  | some l =>
    rw [lockZ_some]
    exact ⟨R.lock (hk l rfl), Fra.lock (hk l rfl), fun b => box_lock R (hk l rfl)⟩
theorem unlock_all {k : Option Nat} {Z2 : Addr → Prop} (R : RS A f m H) (hk : ∀ l, k = some l → m[l]? = some (.lst xs)) (F : Fra f (lockM k m) H f2 m2 H2) (hz2 : ∀ b o, H b = some o → Z2 b → A.Z b) (R2 : RS (A.z (lockZ Z2 f k)) f2 m2 H2) :
    RS (A.z Z2) f2 (openM k xs m2) H2 ∧ Fra f m H f2 (openM k xs m2) H2 ∧ ∀ b, Box (A.z Z2) f2 (openM k xs m2) b → Box (A.z (lockZ Z2 f k)) f2 m2 b := by
  cases k with
  | none =>
    rw [lockZ_none] at *
    exact ⟨R2, F, fun _ h => h⟩
  | some l =>
    rw [lockZ_some] at *
    exact R.unlock (hk l rfl) F hz2 R2
/-- what is set aside changes -/
theorem RS.updZ {a : Addr} {u : HO} (R : RS A f m H) (z : A.Z a) (hn : NT u := by exact True.intro) : RS A f m (upd H a u) := by
  have hk : ∀ b o, H b = some o → ¬ Box A f m b → upd H a u b = some o := fun b o e n => by
    rw [upd_ne (fun q => n (.inl (by rw [q]; exact z)))]; exact e
  have hS : ∀ {v : V} {x : SV}, RpS A f m H v x → RpS A f m (upd H a u) v x := fun r => rpS_keep (Z' := A.Z) hk (fun _ _ _ n => n) (Nat.le_refl _) (fun _ _ => rfl) r
  refine ⟨fun l o e => ?_, R.inj, fun b zb => ?_, R.zl⟩
  · have r := R.ob l o e
    by_cases hd : o = .dead
    · subst hd; exact True.intro
    · have hne : f l ≠ a := fun q => R.zl a z ⟨l, o, e, hd, q⟩
      cases o with
      | lst xs => obtain ⟨vs, ev, rv⟩ := r; exact ⟨vs, by rw [upd_ne hne]; exact ev, rv.keep hk fun _ _ _ n => n⟩
      | dk fs => obtain ⟨kvs, ev, rv⟩ := r; exact ⟨kvs, by rw [upd_ne hne]; exact ev, Paired.mapP rv fun p q z => ⟨z.1, hS z.2⟩⟩
      | dt fs => obtain ⟨kvs, ev, rv⟩ := r; exact ⟨kvs, by rw [upd_ne hne]; exact ev, Paired.mapP rv fun p q z => ⟨z.1, hS z.2⟩⟩
      | rcd fs => obtain ⟨kvs, ev, rv⟩ := r; exact ⟨kvs, by rw [upd_ne hne]; exact ev, Paired.mapP rv fun p q z => ⟨z.1, hS z.2⟩⟩
      | ins _ _ => exact r.elim
      | dead => exact True.intro
  · by_cases h : b = a
    · subst h; exact ⟨u, upd_same, hn⟩
    · obtain ⟨o, e, no⟩ := R.zt b zb
      exact ⟨o, by rw [upd_ne h]; exact e, no⟩
theorem Fra.updNew {a : Addr} {u : HO} (h : H a = none) (F : Fra f m H f' m' H') : Fra f m H f' m' (upd H' a u) := ⟨F.agree, F.new, fun b o e n => by rw [upd_ne (ne_of_none e h)]; exact F.keep b o e n, F.len, F.dead, fun b e => by
  by_cases q : b = a
  · subst q; exact h
  · rw [upd_ne q] at e; exact F.mono b e⟩
theorem wipe_idem {σ : L2.St} {vs : List Nat} : wipe (wipe σ vs) vs = wipe σ vs := by
  apply List.ext_getElem?
  intro j
  rw [wipe_get, wipe_get, wipe_length]
  split <;> rfl
end
abbrev W0 : WX := fun _ _ _ _ => False
theorem nox_ok {α : Type} {r : Out α} {x : α} {m : Sto} (h : r.nox = .ok x m) : r = .ok x m := by
  cases r with
  | bad => cases h
  | ok y m' => exact h
  | exc y m' => cases h
theorem nox_exc {α : Type} {r : Out α} {x : Exn} {m : Sto} (h : r.nox = .exc x m) : False := by
  cases r <;> cases h
theorem bind_exc {α β : Type} {r : Out α} {k : α → Sto → Out β} {y : Exn} {m' : Sto} (h : r.bind k = .exc y m') : r = .exc y m' ∨ ∃ x m1, r = .ok x m1 ∧ k x m1 = .exc y m' := by
  cases r with
  | bad => cases h
  | exc _ _ => cases h; exact .inl rfl
  | ok x m1 => exact .inr ⟨x, m1, rfl, h⟩
theorem compL_noexc {tst : PyData → Sto → Out Bool} {elt : PyData → Sto → Out PyData} (ht : ∀ x m y m', tst x m ≠ .exc y m') (he : ∀ x m y m', elt x m ≠ .exc y m') : ∀ {xs : List PyData} {m m' : Sto} {y : Exn}, compL tst elt xs m ≠ .exc y m'
  | [], _, _, _, h => by cases h
  | x :: xs, m, m', y, h => by
    rcases bind_exc (show (tst x m).bind _ = _ from h) with h | ⟨b, m1, _, h⟩
    · exact ht _ _ _ _ h
    · cases b with
      | true =>
        rcases bind_exc (show (elt x m1).bind _ = _ from h) with h | ⟨b, m1, _, h⟩
        · exact he _ _ _ _ h
        · rcases bind_exc (show (compL tst elt xs m1).bind _ = _ from h) with h | ⟨b, m1, _, h⟩
          · exact compL_noexc ht he h
          · cases h
      | false => exact compL_noexc ht he (show compL tst elt xs m1 = .exc y m' from h)
section
variable {A : Ads} {c : Ctx} {X : Cx} {n k : Nat} {W : WX} {C : Nat → List SV → Sto → Out SV}
theorem OkX.inner (ok : OkX A c X n k W) (scope : Scope) (s : Shared) (H : Hp) (cl : List (Str × Addr)) (D : Addr) (fp : List Addr) : OkX A (blkCtx c scope) (X.blk s H scope (compEnvC scope cl D X.env) fp) n k W0 where
  N := ok.N
  sc := by
    show relS scope X.env.scope = relS scope c.sc
    rw [ok.sc]
  nd := ok.nd
  calm := ok.calm
  K := ok.K
  room := ok.room
  gd := ok.gd
  take := takes0
  po := PassesOwn.never
  st := fun x h => by
    unfold Ctx.loc at h
    have h : (match scope.names.lookup x with | some .local => true | some .cell => true | _ => false) = true := h
    split at h
    · rename_i e
      have e2 : (relS scope X.env.scope).names.lookup x = some .local := lookup_relS_keep (fun z => by cases z) e
      exact ⟨.inl e2, .inr e2⟩
    · rename_i e
      have e2 : (relS scope X.env.scope).names.lookup x = some .cell := lookup_relS_keep (fun z => by cases z) e
      refine ⟨.inr e2, .inl ?_⟩
      show (scope.names.lookup x == some .cell) = true
      rw [e]; rfl
    · cases h
  blt := ok.blt
  gc := ok.gc
  fn := ok.fn
theorem _root_.L2.PTs.imp {e : List Expr} {t t' : TT} (h : PTs X e t) (k : ∀ σ H Q, t' σ H Q → t σ H Q) : PTs X e t' := ⟨fun pins s σ H Q I q => h.run pins s σ H Q I (k _ _ _ q)⟩
def tTo (A : Ads) (W : WX) (C : Nat → List SV → Sto → Out SV) (d : Eo) : TT := fun σ H Q => ∃ f m ρ, RS A f m H ∧ RE A f m H σ ρ ∧ Po A W σ RlB f m H (evT C d ρ m) Q
theorem k_tnone : PTs X [] (tTo A W C .none) := pts_nil.imp fun σ H Q ⟨f, m, ρ, R, re, h⟩ => h f H true R Fra.refl rfl
theorem k_tsome {e : E} {x : Expr} (h : PT X x (tT A W C e)) : PTs X [x] (tTo A W C (.some e)) := pts_one h
theorem comp_read {K : PySem.W.Frag} {own : List Nat} {t : Tg} {it : It} {d : Eo} {e : E} (htg : tgIn own t = true) : ∀ σ H Q, tE A W C (.comp own t it d e) σ H Q → tLc (tI A W C it) (gOf K t) (fun σ H Q => ∃ Z, tTo (A.z Z) W0 C d σ H Q) (fun σ H Q => ∃ Z, tE (A.z Z) W0 C e σ H Q) own σ H Q := fun σ H Q ⟨f, m, ρ, R, re, h⟩ => by
  refine ⟨f, m, ρ, R, re, (Po.bind (Ra := RlI A) rlV_mono h).imp fun J H1 ⟨f1, m1, q, R1, F1, gi, h1⟩ D hD => ?_⟩
  have re1 := F1.re re
  generalize htst : (fun (x : PyData) (m : Sto) => match asgT t x (killR own ρ) with
          | some r1 => (evT C d r1 m).nox
          | none => (.bad : Out Bool)) = tst at h1
  generalize helt : (fun (x : PyData) (m : Sto) => match asgT t x (killR own ρ) with
          | some r1 => ((ev C e r1 m).bind fun y m' => match y with
            | .d z => .ok z m'
            | _ => .bad).nox
          | none => (.bad : Out PyData)) = el at h1
  obtain ⟨RL, FL, BL⟩ := lock_all (k := q.2) R1 gi.lk
  cases hc : compL tst el q.1 (lockM q.2 m1) with
  | bad => rw [hc] at h1; exact h1.elim
  | exc y m' =>
    refine absurd hc (compL_noexc (fun x m y m' z => ?_) fun x m y m' z => ?_)
    · subst htst
      dsimp only at z
      split at z
      · exact nox_exc z
      · cases z
    · subst helt
      dsimp only at z
      split at z
      · exact nox_exc z
      · cases z
  | ok ys mE =>
    rw [hc] at h1
    have h1 : Po A W σ (RlV A true) f1 m1 H1 (if fitsN ys.length then .ok (.d (.list ys)) (openM q.2 q.1 mE) else .bad) Q := h1
    split at h1
    case isFalse => exact h1.elim
    rename_i hfit
    have hfit := fits_le hfit
    have h1 : ∀ f' H' v, RS A f' (openM q.2 q.1 mE) H' → Fra f1 m1 H1 f' (openM q.2 q.1 mE) H' → RlV A true H1 f' (openM q.2 q.1 mE) H' v (.d (.list ys)) → Q v H' := h1
    generalize hZ2 : (fun b => lockZ A.Z f1 q.2 b ∨ b = D) = Z2
    have zD : Z2 D := by rw [← hZ2]; exact .inr rfl
    have K2 : ∀ {f2 : Nat → Addr} {m2 : Sto} {H2 : Hp}, Fra f1 (lockM q.2 m1) H1 f2 m2 H2 → ∀ b o, H1 b = some o → ¬ Box A f1 m1 b → ¬ Box (A.z Z2) f2 m2 b := fun {f2 m2 H2} F b o eb nb z => by
      rcases z with z | z
      · have z : Z2 b := z
        rw [← hZ2] at z
        rcases z with z | rfl
        · exact nb ((BL b).mp (.inl z))
        · rw [hD] at eb; cases eb
      · exact F.live eb (fun z => nb ((BL b).mp (.inr z))) z
    have K1 : ∀ {f2 : Nat → Addr} {m2 : Sto} {H2 : Hp}, Fra f1 (lockM q.2 m1) H1 f2 m2 H2 → ∀ b o, H1 b = some o → ¬ Box A f1 m1 b → H2 b = some o := fun {f2 m2 H2} F b o eb nb => F.keep b o eb fun z => nb ((BL b).mp (.inr z))
    have len1 : ∀ {f2 : Nat → Addr} {m2 : Sto} {H2 : Hp}, Fra f1 (lockM q.2 m1) H1 f2 m2 H2 → m1.length ≤ m2.length ∧ ∀ l, l < m1.length → f2 l = f1 l := fun {f2 m2 H2} F => ⟨by have := F.len; rwa [lockM_length] at this, fun l h => F.agree l (by rw [lockM_length]; exact h)⟩
    have R0 : RS (A.z Z2) f1 (lockM q.2 m1) (upd H1 D (.lst [])) := by rw [← hZ2]; exact RL.plus hD
    refine ⟨fun i mm H => mm = q.1.length - i ∧ i ≤ q.1.length ∧ ∃ f2 m2 acc done rest, RS (A.z Z2) f2 m2 H ∧ Fra f1 (lockM q.2 m1) H1 f2 m2 H ∧ H D = some (.lst acc) ∧ RpAll H (Box (A.z Z2) f2 m2) acc done ∧ compL tst el (q.1.drop i) m2 = .ok rest mE ∧ done ++ rest = ys,
      ⟨q.1.length, rfl, Nat.zero_le _, f1, lockM q.2 m1, [], [], ys, R0, (Fra.refl).updNew hD, upd_same, .nil, hc, rfl⟩, ?_⟩
    rintro i mm H2 ⟨rfl, hi, f2, m2, acc, done, rest, R2, F2, eD, ra, hcl, hys⟩
    have yl := gi.on Z2 f2 m2 H2 R2 (F2.keep) (K2 F2)
    by_cases hlt : i < q.1.length
    · refine .inr ⟨yl.go i hlt, fun H' => ∃ f2 m2 acc done rest, RS (A.z Z2) f2 m2 H' ∧ Fra f1 (lockM q.2 m1) H1 f2 m2 H' ∧ H' D = some (.lst acc) ∧ RpAll H' (Box (A.z Z2) f2 m2) acc done ∧ compL tst el (q.1.drop (i + 1)) m2 = .ok rest mE ∧ done ++ rest = ys, fun H' p => ⟨q.1.length - (i + 1), by omega, rfl, hlt, p⟩, fun v H' hy => ?_⟩
      have hx : q.1[i]? = some q.1[i] := List.getElem?_eq_getElem hlt
      obtain ⟨up, rv⟩ := yl.yld i _ v H' hx hy
      generalize q.1[i] = x at hx rv
      rw [List.drop_eq_getElem_cons hlt] at hcl
      have hx' : q.1[i] = x := by rw [List.getElem?_eq_getElem hlt] at hx; exact Option.some.inj hx
      rw [hx'] at hcl
      obtain ⟨b, m3, ht1, hcl⟩ := bind_ok (show (tst x m2).bind _ = _ from hcl)
      have R2' := up.rs R2
      have F2' := F2.trans up.fra
      obtain ⟨l1, l2⟩ := len1 F2'
      have re2 : RE (A.z Z2) f2 m2 H' (wipe σ own) (killR own ρ) := (re_keep (K1 F2') (K2 F2') l1 l2 re1).wipe own
      have ht1' := ht1
      rw [← htst] at ht1'
      dsimp only at ht1'
      split at ht1'
      case h_2 => cases ht1'
      rename_i r1 ha
      have et := nox_ok ht1'
      refine asg_ok (A := A.z Z2) ha rv re2 fun σ3 re3 w3 => ⟨(w3 own htg).trans wipe_idem, Z2, f2, m2, r1, R2', re3, ?_⟩
      rw [et]
      intro f3 H3 v3 R3 F3 hv3
      have hv3 : v3 = b := hv3
      subst hv3
      have nD : ∀ {f m H}, RS (A.z Z2) f m H → ¬ Live f m D := fun R => R.zl D zD
      have eD3 : H3 D = some (.lst acc) := F3.keep _ _ (up _ _ eD) (nD R2')
      have ra3 := F3.rpAll (up.rpAll ra)
      cases v3 with
      | true =>
        rw [if_pos rfl]
        obtain ⟨y, m4, he1, hcl⟩ := bind_ok (show (el x m3).bind _ = _ from hcl)
        obtain ⟨ys', m5, hcl, h5⟩ := bind_ok (show (compL tst el (q.1.drop (i + 1)) m4).bind _ = _ from hcl)
        cases h5
        rw [← helt] at he1
        dsimp only at he1
        rw [ha] at he1
        obtain ⟨z, m4', e4, h6⟩ := bind_ok (nox_ok (show ((ev C e r1 m3).bind _).nox = _ from he1))
        refine ⟨Z2, f3, m3, r1, R3, F3.re re3, ?_⟩
        rw [e4]
        split at h6
        case h_2 => cases h6
        cases h6
        intro f4 H4 v4 R4 F4 rv4
        have eD4 : H4 D = some (.lst acc) := F4.keep _ _ eD3 (nD R3)
        have ra4 := F4.rpAll ra3
        refine ⟨acc, eD4, ?_, f4, m4, acc ++ [v4], done ++ [y], ys', R4.updZ zD, ((F2'.trans F3).trans F4).updNew hD, upd_same, ?_, hcl, by rw [← hys, List.append_assoc]; rfl⟩
        · rw [ra.length]
          rw [← hys, List.length_append, List.length_cons] at hfit
          omega
        · have hk : ∀ b o, H4 b = some o → ¬ Box (A.z Z2) f4 m4 b → upd H4 D (.lst (acc ++ [v4])) b = some o := fun b o eb nb => by
            rw [upd_ne (fun z => nb (.inl (by rw [z]; exact zD)))]; exact eb
          exact (ra4.append (.cons rv4.1 .nil)).keep hk fun _ _ _ n => n
      | false =>
        rw [if_neg Bool.false_ne_true]
        exact ⟨f3, m3, acc, done, rest, R3, F2'.trans F3, eD3, ra3, hcl, hys⟩
    · have hi' : i = q.1.length := by omega
      subst hi'
      refine .inl ⟨yl.stop, ?_⟩
      rw [List.drop_length] at hcl
      cases hcl
      rw [List.append_nil] at hys
      subst hys
      have ez : lockZ (fun b => A.Z b ∨ b = D) f1 q.2 = Z2 := by
        rw [← hZ2]
        exact funext fun b => propext or_right_comm
      obtain ⟨R3, F3, B3⟩ := unlock_all (Z2 := fun b => A.Z b ∨ b = D) R1 gi.lk F2 (fun b o eb z => z.elim id fun z => by rw [z, hD] at eb; cases eb) (by rw [ez]; exact R2)
      rw [ez] at B3
      have nB : ¬ Box A f2 (openM q.2 q.1 mE) D := fun z => by
        rcases z with z | z
        · obtain ⟨o, eo, _⟩ := R1.zt D z
          rw [hD] at eo; cases eo
        · exact R3.zl D (.inr rfl) z
      have ra3 : RpAll H2 (Box (A.plus D) f2 (openM q.2 q.1 mE)) acc done := rpAll_box B3 ra
      refine h1 f2 H2 (.ref D) (RS.drop (a := D) R3) F3 ⟨.lst eD nB (rpAll_box (fun b z => plus_box (.inl z)) ra3), fun _ a ea => ?_⟩
      cases ea
      exact ⟨hD, R3, acc, eD, ra3⟩
theorem k_comp {own : List Nat} {t : Tg} {it : It} {d : Eo} {e : E} {elt tg iter : Expr} {ifs : List Expr} {scope : Scope} {pos : Pos} (ok : OkX A c X n k W) (hown : (ownL c.N own).map (·.2) = own) (hblk : blkC c.N c.sc scope (ownL c.N own) = true) (htg : tgIn own t = true)
    (hm : mTg (blkCtx c scope) t tg = true) (hi : PI X tg iter (tI A W C it)) (hs : ∀ x, foldedSetIterable iter X.env x = pure x)
    (ht : ∀ X', OkX A (blkCtx c scope) X' n k W0 → ∀ Z, PTs X' ifs (tTo (A.z Z) W0 C d)) (he : ∀ X', OkX A (blkCtx c scope) X' n k W0 → ∀ Z, PE X' elt (tE (A.z Z) W0 C e)) :
    PE X (.ListComp elt [⟨tg, iter, ifs, 0⟩] scope pos) (tE A W C (.comp own t it d e)) := by
  have hp := pe_lc (pos := pos) (tt := fun σ H Q => ∃ Z, tTo (A.z Z) W0 C d σ H Q) (te := fun σ H Q => ∃ Z, tE (A.z Z) W0 C e σ H Q) (g := gOf X.K t) ok.calm (by rw [ok.N]; exact ok.nd) hi (by rw [ok.N, ok.sc]; exact blkOk_by hblk)
    (fun s H D cl fp => pg_of (ok.inner scope s H cl D fp) hm)
    (fun s H D cl fp => ⟨fun pins s' σ H Q I ⟨Z, h⟩ => (ht _ (ok.inner scope s _ cl D fp) Z).run pins s' σ H Q I h⟩)
    (fun s H D cl fp => ⟨fun pins s' σ H Q I ⟨Z, h⟩ => (he _ (ok.inner scope s _ cl D fp) Z).run pins s' σ H Q I h⟩) hs
  rw [hown] at hp
  exact hp.imp (comp_read htg)
theorem k_compL {own : List Nat} {t : Tg} {it : It} {d : Eo} {e : E} {elt tg iter : Expr} {ifs : List Expr} {scope : Scope} {pos : Pos} (ok : OkX A c X n k W) (hown : (ownL c.N own).map (·.2) = own) (hblk : blkC c.N c.sc scope (ownL c.N own) = true) (htg : tgIn own t = true)
    (hm : mTg (blkCtx c scope) t tg = true) (hi : PI X tg iter (tI A W C it)) (hs : ∀ x, foldedSetIterable iter X.env x = pure x)
    (ht : ∀ X', OkX A (blkCtx c scope) X' n k W0 → ∀ Z, PTs X' ifs (tTo (A.z Z) W0 C d)) (he : ∀ X', OkX A (blkCtx c scope) X' n k W0 → ∀ Z, PE X' elt (tE (A.z Z) W0 C e))
    {i : Nat} {y : Str} {py spos : Pos} (hy : X.N[i]? = some y) (hyl : X.env.scope.names.lookup y = some .local) (hsw : swapsWith (.ListComp elt [⟨tg, iter, ifs, 0⟩] scope pos) (some (.Name y py)) spos.line X.env = pure true) :
    PS X (.Assign [.Name y py] (.ListComp elt [⟨tg, iter, ifs, 0⟩] scope pos) spos) (tAsg (tE A W C (.comp own t it d e)) (gName i)) := by
  have hp := ps_setLc (pos := pos) (spos := spos) (py := py) (tt := fun σ H Q => ∃ Z, tTo (A.z Z) W0 C d σ H Q) (te := fun σ H Q => ∃ Z, tE (A.z Z) W0 C e σ H Q) (g := gOf X.K t) ok.calm (by rw [ok.N]; exact ok.nd) hy hyl hsw hi (by rw [ok.N, ok.sc]; exact blkOk_by hblk)
    (fun s H D cl fp => pg_of (ok.inner scope s H cl D fp) hm)
    (fun s H D cl fp => ⟨fun pins s' σ H Q I ⟨Z, h⟩ => (ht _ (ok.inner scope s _ cl D fp) Z).run pins s' σ H Q I h⟩)
    (fun s H D cl fp => ⟨fun pins s' σ H Q I ⟨Z, h⟩ => (he _ (ok.inner scope s _ cl D fp) Z).run pins s' σ H Q I h⟩) hs
  rw [hown] at hp
  exact hp.imp fun D σ H q => comp_read htg σ H _ q
end
end Pil

set_option Elab.async false
set_option linter.all false
set_option autoImplicit false
set_option maxRecDepth 100000
set_option maxHeartbeats 4000000
namespace Pil
open PySem PySem.Spec PyProof.Rows L2

/-! ### a record -/
theorem valV_none {kvs : List (Key × V)} {k : Key} (h : k ∉ kvs.map (·.1)) : valV kvs k = none := by
  induction kvs with
  | nil => rfl
  | cons p r ih =>
    rw [List.map_cons, List.mem_cons, not_or] at h
    rw [valV_neg (fun z => h.1 z.symm)]
    exact ih h.2
theorem mergeK_new : ∀ {more acc : List (Key × V)}, ((acc ++ more).map (·.1)).Nodup → mergeK acc more = acc ++ more
  | [], acc, _ => (List.append_nil acc).symm
  | p :: r, acc, h => by
    have hp : p.1 ∉ acc.map (·.1) := fun z => by
      rw [List.map_append, List.nodup_append] at h
      exact h.2.2 _ z _ (by simp) rfl
    show mergeK (putK acc p.1 p.2) r = _
    rw [putK_new _ (valV_none hp), mergeK_new (by rw [List.append_assoc]; exact h), List.append_assoc]
    rfl
section
variable {A : Ads} {c : Ctx} {X : Cx} {n k : Nat} {W : WX} {C : Nat → List SV → Sto → Out SV}
def tEz (A : Ads) (W : WX) (C : Nat → List SV → Sto → Out SV) (e : E) : TE := fun σ H Q => ∃ Z, tE (A.z Z) W C e σ H Q
def trsOf (A : Ads) (W : WX) (C : Nat → List SV → Sto → Out SV) : List Str → Es → List (TE × TE)
  | k :: ks, .cons e es => (tC (.str k), tEz A W C e) :: trsOf A W C ks es
  | _, _ => []
def esLen : Es → Nat
  | .nil => 0
  | .cons _ es => esLen es + 1
theorem pairs_ok {σ : L2.St} {ρ : Rho} {Z : Addr → Prop} : ∀ {es : Es} {ks : List Str} {f : Nat → Addr} {m : Sto} {H : Hp} {K : List V → Hp → Prop} {Q : List (V × V) → Hp → Prop}, ks.length = esLen es → RS (A.z Z) f m H → RE (A.z Z) f m H σ ρ → Po (A.z Z) W σ (RlA (A.z Z)) f m H (evs C es ρ m) K → (∀ vs H2, vs.length = ks.length → K vs H2 → Q ((ks.map V.str).zip vs) H2) → tPairs (trsOf A W C ks es) σ H Q
  | .nil, [], f, m, H, K, Q, _, R, re, h, q => q [] H rfl (h f H [] R Fra.refl .nil)
  | .nil, _ :: _, _, _, _, _, _, hl, _, _, _, _ => by cases hl
  | .cons _ _, [], _, _, _, _, _, hl, _, _, _, _ => by cases hl
  | .cons e es, k :: ks, f, m, H, K, Q, hl, R, re, h, q => by
    refine ⟨Z, f, m, ρ, R, re, ?_⟩
    refine (Po.bind (Ra := RlV (A.z Z) (freshE e)) rlA_mono (show Po (A.z Z) W σ (RlA (A.z Z)) f m H ((ev C e ρ m).bind fun x m1 => (evs C es ρ m1).bind fun xs m2 => .ok (x :: xs) m2) K from h)).imp fun v H1 ⟨f1, m1, y, R1, F1, rx, h1⟩ => ?_
    refine pairs_ok (es := es) (ks := ks) (Nat.succ.inj hl) R1 (F1.re re) (Po.bind (Ra := RlA (A.z Z)) rlA_mono h1) fun vs H2 hlen ⟨f2, m2, ys, R2, F2, ry, h2⟩ => ?_
    exact q (v :: vs) H2 (by rw [List.length_cons, hlen]; rfl) (h2 f2 H2 (v :: vs) R2 Fra.refl (.cons (F2.rpS rx.1) ry))
theorem paired_zip {R : V → SV → Prop} {P : Key × V → Str × SV → Prop} (hP : ∀ k v x, R v x → P (Sum.inr k, v) (k, x)) : ∀ {ks : List Str} {vs : List V} {xs : List SV}, Paired R vs xs → Paired P ((ks.zip vs).map fun p => ((Sum.inr p.1 : Key), p.2)) (ks.zip xs)
  | [], _, _, _ => .nil
  | _ :: _, _, _, .nil => .nil
  | k :: ks, _, _, .cons r t => .cons (hP k _ _ r) (paired_zip hP t)
theorem zip_keys {ks : List Str} {vs : List V} (h : vs.length = ks.length) : ((ks.zip vs).map fun p => ((Sum.inr p.1 : Key), p.2)).map (·.1) = ks.map Sum.inr := by
  rw [List.map_map]
  induction ks generalizing vs with
  | nil => rfl
  | cons k ks ih =>
    cases vs with
    | nil => cases h
    | cons v vs =>
      rw [List.zip_cons_cons, List.map_cons, List.map_cons, ih (Nat.succ.inj h)]
      rfl
theorem zip_kV : ∀ {ks : List Str} {vs : List V}, (ks.map V.str).zip vs = ((ks.zip vs).map fun p => ((Sum.inr p.1 : Key), p.2)).map fun kv => (kV kv.1, kv.2)
  | [], _ => rfl
  | _ :: _, [] => rfl
  | k :: ks, v :: vs => by
    rw [List.map_cons, List.zip_cons_cons, List.zip_cons_cons, List.map_cons, List.map_cons, zip_kV]
    rfl
theorem nodup_inr {ks : List Str} (h : ks.Nodup) : (ks.map (Sum.inr : Str → Key)).Nodup := by
  induction ks with
  | nil => exact List.nodup_nil
  | cons k ks ih =>
    rw [List.nodup_cons] at h
    rw [List.map_cons, List.nodup_cons]
    refine ⟨fun z => ?_, ih h.2⟩
    obtain ⟨j, hj, e⟩ := List.mem_map.mp z
    cases e
    exact h.1 hj
theorem k_rcd {ks : List Str} {es : Es} {keys : List (Option Expr)} {vals : List Expr} {pos : Pos} (h : PPs X pos keys vals (trsOf A W C ks es)) (hall : keys.all (·.isSome) = true) (hl : keys.length = vals.length) (h0 : keys ≠ []) (hk : ks.length = keys.length) (he : esLen es = vals.length) (hn : ks.Nodup) (h15 : ks.length ≤ 15) :
    PE X (.Dict keys vals pos) (tE A W C (.rcd ks es)) :=
  (pe_disp h hall hl h0 (by rw [← hk]; exact h15)).imp fun σ H Q ⟨f, m, ρ, R, re, h⟩ p hp => by
    have R0 := R.plus (o := .dK []) hp
    have re0 : RE (A.plus p) f m (upd H p (.dK [])) σ ρ := ⟨re.len, fun i x e => by
      obtain ⟨v, h1, h2⟩ := re.at_ i x e
      exact ⟨v, h1, rpS_plus hp h2⟩⟩
    have F0 : Fra f m H f m (upd H p (.dK [])) := (up_new hp).fra
    have base : Po (A.plus p) W σ (RlA (A.plus p)) f m (upd H p (.dK [])) (evs C es ρ m) fun vs H2 => vs.length = ks.length → H2 p = some (.dK []) ∧ ∃ kvs : List (Key × V), (ks.map V.str).zip vs = kvs.map (fun kv => (kV kv.1, kv.2)) ∧ kvs.length ≤ 15 ∧ Q (.ref p) (upd H2 p (.dK (mergeK [] kvs))) := by
      have h : Po A W σ (RlV A false) f m H ((evs C es ρ m).bind fun xs m1 => if ks.length = xs.length then .ok (.ref m1.length) (m1 ++ [.rcd (ks.zip xs)]) else .bad) Q := h
      cases r : evs C es ρ m with
      | bad => rw [r] at h; exact h
      | exc x m' =>
        rw [r] at h
        exact fun f' H' cl d R1 F1 ex => h f' H' cl d R1.drop (F0.trans F1) ex
      | ok xs m1 =>
        rw [r] at h
        have h : Po A W σ (RlV A false) f m H (if ks.length = xs.length then .ok (.ref m1.length) (m1 ++ [.rcd (ks.zip xs)]) else .bad) Q := h
        split at h
        case isFalse => exact h.elim
        rename_i hlx
        intro f1 H1 vs R1 F1 rv hlen
        have eD : H1 p = some (.dK []) := F1.keep _ _ upd_same (R0.zl p (.inr rfl))
        refine ⟨eD, (ks.zip vs).map fun p => ((Sum.inr p.1 : Key), p.2), ?_, ?_, ?_⟩
        · exact zip_kV
        · rw [List.length_map, List.length_zip]; omega
        · rw [mergeK_new (by rw [List.nil_append, zip_keys hlen]; exact nodup_inr hn), List.nil_append]
          generalize hkvs : (ks.zip vs).map (fun p => ((Sum.inr p.1 : Key), p.2)) = kvs
          have R2 := R1.updZ (u := .dK kvs) (.inr rfl)
          have hS : ∀ {v : V} {x : SV}, RpS (A.plus p) f1 m1 H1 v x → RpS (A.plus p) f1 m1 (upd H1 p (.dK kvs)) v x := fun r => rpS_keep (A := A.plus p) (Z' := (A.plus p).Z) (fun b o e n => by
            rw [upd_ne (fun q => n (.inl (.inr q)))]; exact e) (fun _ _ _ n => n) (Nat.le_refl _) (fun _ _ => rfl) r
          have nB : ¬ Box A f1 m1 p := fun z => by
            rcases z with z | z
            · obtain ⟨o, eo, _⟩ := R.zt p z
              rw [hp] at eo; cases eo
            · exact R1.zl p (.inr rfl) z
          obtain ⟨R3, F3⟩ := (R2.drop).box_new (o := .rcd (ks.zip xs)) ((F0.trans F1).updNew hp) upd_same nB hp (fun l ob e => by
            have hl := (List.getElem?_eq_some_iff.mp e).1
            rw [atNew_lt hl]
            exact rpO_up (R2.ob l ob e)) ⟨kvs, upd_same, by
              rw [← hkvs] at hS ⊢
              exact paired_zip (R := RpS (A.plus p) f1 m1 H1) (fun k v x r => ⟨rfl, rpS_up (hS r)⟩) rv⟩
          exact h _ _ _ R3 F3 ⟨⟨by rw [atNew_self], by rw [List.length_append]; exact Nat.lt_succ_self _⟩, fun z => nomatch z⟩
    exact pairs_ok (A := A) (Z := (A.plus p).Z) (es := es) (ks := ks) (by rw [hk, he, hl]) R0 re0 base fun vs H2 hlen q => q hlen
end
end Pil

set_option Elab.async false
set_option linter.all false
set_option autoImplicit false
set_option maxRecDepth 100000
set_option maxHeartbeats 4000000
namespace Pil
open PySem PySem.Spec PyProof.Rows L2
section
variable {A : Ads} {c : Ctx} {X : Cx} {n k : Nat} {W : WX} {C : Nat → List SV → Sto → Out SV}
/-! ### a list is extended -/
theorem few_args {es : Es} {xs : List Expr} (hes : mEs c es xs = true) (pos : Pos) (hlen : xs.length < 20) : ((backTo pos (starEach xs X.env)).all (fun x => !x.1) && (backToKw pos (keywordEach [] X.env)).all (fun x => x.1.isSome)
    && decide (xs.length + ([] : List Keyword).length + (if ([] : List Keyword).isEmpty then 0 else 1) < 30)) = true := by
  rw [stars_of hes X.env, plain_few]
  show decide _ = true
  refine decide_eq_true ?_
  show xs.length + 0 + 0 < 30
  omega
theorem k_ext {o e : E} {x y : Expr} {nm : Str} {p ap : Pos} (ok : OkX A c X n k W) (ho : PE X x (tE A W C o)) (he : PE X y (tE A W C e)) (hy : mE c e y = true) (hnm : (nm == ("extend" : Str)) = true) (hl : (ap.endLine == p.line) = true) (hsu : noSuper x = true) : PE X (.Call (.Attribute x nm ap) [y] [] p) (tE A W C (.ext o e)) := by
  have en := eq_of_beq hnm
  subst en
  have st : starEach [y] X.env = (false, eval y X.env) :: starEach [] X.env := star_of hy [] X.env
  have hp := pe_bm F.plainAttrs_list F.slot_list_extend F.type_list_extend (mt_ext2 (X := X)) ho (pa_cons he pa_nil st) (noSuper_is hsu _ _ _) (few_args (es := .cons e .nil) (by show (mE c e y && true) = true; rw [hy]; rfl) p (by show 1 < 20; decide)) hl st rfl
  rw [ok.K] at hp
  refine hp.imp fun σ H Q ⟨f, m, ρ, R, re, h⟩ => ⟨f, m, ρ, R, re, (Po.bind (Ra := RlV A (freshE o)) rlV_mono h).imp fun v H1 ⟨f1, m1, x1, R1, F1, rx, h1⟩ => ?_⟩
  by_cases hr : recvOk .append m1 x1 = true
  · have ty := recv_ty (X := X) R1 rx.1 hr
    rw [ok.K] at ty
    refine ⟨ty, f1, m1, ρ, R1, F1.re re, ?_⟩
    rw [if_pos hr] at h1
    refine (Po.bind (Ra := RlV A (freshE e)) rlV_mono h1).imp fun w H2 ⟨f2, m2, y1, R2, F2, ry, h2⟩ => ?_
    have hx := F2.rpS rx.1
    cases x1 with
    | ref l =>
      obtain ⟨rfl, hlt⟩ := hx
      cases em : m2[l]? with
      | none => simp only [em] at h2; exact h2.elim
      | some ob =>
        simp only [em] at h2
        cases ob with
        | lst xs =>
          cases ed : dat m2 y1 with
          | none => simp only [ed] at h2; exact h2.elim
          | some d =>
            simp only [ed] at h2
            cases es : seqD d with
            | none => simp only [Option.bind_some, es] at h2; exact h2.elim
            | some ys =>
              simp only [Option.bind_some, es] at h2
              split at h2
              case isFalse => exact h2.elim
              rename_i hf
              have rd := dat_rq R2 ry.1 ed
              obtain ⟨us, eu, ru⟩ := R2.ob l _ em
              have put : ∀ {zs : List V}, RpAll H2 (Box A f2 m2) zs ys → Q .non (upd H2 (f2 l) (.lst (us ++ zs))) := fun {zs} rz => by
                obtain ⟨hk, hb⟩ := upd_up (o' := .lst (xs ++ ys)) (u := .lst (us ++ zs)) R2 em (fun z => nomatch z) (fun z => nomatch z)
                have hB : ∀ b, Box A f2 (m2.set l (.lst (xs ++ ys))) b → Box A f2 m2 b := fun b z => z.elim .inl fun z => .inr ((hb b).mp z)
                have rz' : RpAll (upd H2 (f2 l) (.lst (us ++ zs))) (Box A f2 (m2.set l (.lst (xs ++ ys)))) (us ++ zs) (xs ++ ys) := (ru.append rz).keep (fun b o e n => hk b o e fun z => n (.inr z)) fun b o e n z => n (hB b z)
                obtain ⟨R', F'⟩ := R2.put (o' := .lst (xs ++ ys)) (u := .lst (us ++ zs)) em (fun z => nomatch z) (fun z => nomatch z) ⟨us ++ zs, upd_same, rz'⟩
                exact h2 f2 _ .non R' F' ⟨.non, fun z => nomatch z⟩
              have hsz : ∀ {zs : List V}, RpAll H2 (Box A f2 m2) zs ys → us.length + zs.length ≤ sizeLine := fun {zs} rz => by
                rw [ru.length, rz.length]; exact fits_le hf
              cases d with
              | list zs =>
                cases es
                obtain ⟨a, ws, rfl, ea, ra⟩ := rd.list
                exact .inl ⟨f2 l, a, us, ws, rfl, rfl, eu, ea, hsz ra, put ra⟩
              | tuple zs =>
                cases es
                obtain ⟨a, ws, rfl, ea, _, ra⟩ := rd.tuple
                exact .inr ⟨f2 l, a, us, ws, rfl, rfl, eu, SqT.of ea, hsz ra, put ra⟩
              | _ => cases es
        | _ => exact h2.elim
    | _ => exact h2.elim
  · rw [if_neg hr] at h1
    exact h1.elim
/-! ### dicts -/
theorem k_dnw {t : Bool} {p : Pos} : PE X (.Dict [] [] p) (tE A W C (.dnw t)) := by
  have fin : ∀ {f : Nat → Addr} {m : Sto} {ρ : Rho} {H : Hp} {σ : L2.St} {Q : VK} {o : Ob} {u : HO}, RS A f m H → Po A W σ (RlV A false) f m H (.ok (.ref m.length) (m ++ [o])) Q → (∀ {f' : Nat → Addr} {m' : Sto} {H' : Hp} {a : Addr}, H' a = some u → RpO A f' m' H' a o) → NT u → ∀ a, H a = none → Q (.ref a) (upd H a u) := by
    intro f m ρ H σ Q o u R h ho hnu a ha
    have R0 := R.plus (o := u) ha
    obtain ⟨R3, F3⟩ := (R0.drop).box_new (o := o) (u := u) ((up_new ha).fra) upd_same (R.nobox ha) ha (fun l ob e => by
      have hl := (List.getElem?_eq_some_iff.mp e).1
      rw [atNew_lt hl]
      exact rpO_up (R0.ob l ob e)) (ho upd_same)
    exact h _ _ (.ref a) R3 F3 ⟨⟨by rw [atNew_self], by rw [List.length_append]; exact Nat.lt_succ_self _⟩, fun z => nomatch z⟩
  cases t with
  | true => exact pe_dnewT.imp fun σ H Q ⟨f, m, ρ, R, re, h⟩ => fin (ρ := ρ) (o := .dt []) R h (fun e => ⟨[], e, .nil⟩) True.intro
  | false => exact pe_dnewK.imp fun σ H Q ⟨f, m, ρ, R, re, h⟩ => fin (ρ := ρ) (o := .dk []) R h (fun e => ⟨[], e, .nil⟩) True.intro
theorem isDic_ok {f : Nat → Addr} {m : Sto} {H : Hp} {l : Nat} (R : RS A f m H) (h : isDic m[l]? = true) : IsD H (f l) := by
  cases e : m[l]? with
  | none => rw [e] at h; cases h
  | some o =>
    rw [e] at h
    have r := R.ob l o e
    cases o with
    | dk kvs => obtain ⟨ws, ea, _⟩ := r; exact .inl ⟨ws, .inl ea⟩
    | dt kvs => obtain ⟨ws, ea, _⟩ := r; exact .inr ⟨ws, .inl ea⟩
    | _ => cases h
theorem optR_getD {R : V → SV → Prop} {ov : Option V} {ox : Option SV} {v : V} {x : SV} (h : OptR R ov ox) (r : R v x) : R (ov.getD v) (ox.getD x) := by
  cases ov <;> cases ox <;> first | exact r | exact h | exact h.elim
theorem k_dget {d kk e : E} {x y z : Expr} {nm : Str} {p ap : Pos} (ok : OkX A c X n k W) (hd : PE X x (tE A W C d)) (hk : PE X y (tE A W C kk)) (he : PE X z (tE A W C e)) (hy : mE c kk y = true) (hz : mE c e z = true) (hnm : (nm == ("get" : Str)) = true) (hl : (ap.endLine == p.line) = true) (hsu : noSuper x = true) :
    PE X (.Call (.Attribute x nm ap) [y, z] [] p) (tE A W C (.dget d kk e)) := by
  have en := eq_of_beq hnm
  subst en
  have hes : mEs c (.cons kk (.cons e .nil)) [y, z] = true := by show (mE c kk y && (mE c e z && true)) = true; rw [hy, hz]; rfl
  have m2 : M2 X x "get" ap y z p := ⟨noSuper_is hsu _ _ _, few_args hes p (by show 2 < 20; decide), hl, by rw [stars_of hes]; rfl⟩
  refine (pe_dget2 (hu_of ok.room) hd hk he m2).imp fun σ H Q ⟨f, m, ρ, R, re, h⟩ => ⟨f, m, ρ, R, re, (Po.bind (Ra := RlV A (freshE d)) rlV_mono h).imp fun v H1 ⟨f1, m1, x1, R1, F1, rx, h1⟩ => ?_⟩
  cases x1 with
  | ref l =>
    obtain ⟨rfl, hlt⟩ := rx.1
    have h1 : Po A W σ (RlV A false) f1 m1 H1 (if isDic m1[l]? then (ev C kk ρ m1).bind fun y m2 => (ev C e ρ m2).bind fun z m3 => match y with
      | .d kk => Out.of ((m3[l]?).bind fun o => (dGet o kk).map fun o => o.getD z) m3
      | _ => .bad
      else .bad) Q := h1
    split at h1
    case isFalse => exact h1.elim
    rename_i hdic
    refine ⟨f1 l, rfl, isDic_ok R1 hdic, f1, m1, ρ, R1, F1.re re, ?_⟩
    refine (Po.bind (Ra := RlV A (freshE kk)) rlV_mono h1).imp fun w H2 ⟨f2, m2, y1, R2, F2, ry, h2⟩ => ⟨f2, m2, ρ, R2, F2.re (F1.re re), ?_⟩
    refine (Po.bind (Ra := RlV A (freshE e)) rlV_mono h2).imp fun w2 H3 ⟨f3, m3, z1, R3, F3, rz, h3⟩ => ?_
    cases y1 with
    | d k1 =>
      obtain ⟨w', e', q⟩ := h3.of
      obtain ⟨o, eo, e2⟩ := Option.bind_eq_some_iff.mp e'
      obtain ⟨ox, eg, rfl⟩ := Option.map_eq_some_iff.mp e2
      obtain ⟨ov, g, rv⟩ := dGet_ok (R3.ob l o eo) eg (F3.rpS ry.1)
      have hfl : f3 l = f1 l := by rw [F3.agree l (Nat.lt_of_lt_of_le hlt F2.len), F2.agree l hlt]
      rw [hfl] at g
      exact ⟨ov, g, q f3 H3 _ R3 Fra.refl ⟨optR_getD rv rz.1, fun z => nomatch z⟩⟩
    | _ => exact h3.elim
  | _ => exact h1.elim
theorem din_read {neg : Bool} {kk d : E} {Q : VK} {f : Nat → Addr} {m : Sto} {ρ : Rho} {H : Hp} {σ : L2.St} (R : RS A f m H) (re : RE A f m H σ ρ) (h : Po A W σ (RlV A false) f m H (ev C (.din neg kk d) ρ m) Q) :
    tE A W C kk σ H fun y H1 => tE A W C d σ H1 fun x H2 => ∃ a o, x = .ref a ∧ DGet H2 a y o ∧ Q (.bl (neg != o.isSome)) H2 := by
  refine ⟨f, m, ρ, R, re, (Po.bind (Ra := RlV A (freshE kk)) rlV_mono h).imp fun v H1 ⟨f1, m1, y1, R1, F1, ry, h1⟩ => ⟨f1, m1, ρ, R1, F1.re re, ?_⟩⟩
  refine (Po.bind (Ra := RlV A (freshE d)) rlV_mono h1).imp fun w H2 ⟨f2, m2, x1, R2, F2, rx, h2⟩ => ?_
  have hy := F2.rpS ry.1
  cases x1 with
  | ref l =>
    cases y1 with
    | d k1 =>
      obtain ⟨w', e', q⟩ := h2.ofD
      obtain ⟨o, eo, e2⟩ := Option.bind_eq_some_iff.mp e'
      obtain ⟨ox, eg, rfl⟩ := Option.map_eq_some_iff.mp e2
      obtain ⟨ov, g, rv⟩ := dGet_ok (R2.ob l o eo) eg hy
      obtain ⟨rfl, _⟩ := rx.1
      refine ⟨f2 l, ov, rfl, g, ?_⟩
      have es : ov.isSome = ox.isSome := by cases ov <;> cases ox <;> first | rfl | exact rv.elim
      rw [es]
      exact (q _ rfl).bool R2
    | _ => exact h2.elim
  | _ => exact h2.elim
theorem din_bool {neg : Bool} {a b : E} {ρ : Rho} {m m' : Sto} {x : SV} (h : ev C (.din neg a b) ρ m = .ok x m') : ∃ k, x = .d (.bool k) := by
  obtain ⟨y, m1, _, h⟩ := bind_ok h
  obtain ⟨z, m2, _, h⟩ := bind_ok h
  split at h
  · obtain ⟨e, _⟩ := of_ok h
    obtain ⟨_, _, e⟩ := Option.bind_eq_some_iff.mp e
    obtain ⟨k, _, rfl⟩ := Option.map_eq_some_iff.mp e
    exact ⟨_, rfl⟩
  · cases h
theorem pc_d {neg : Bool} {l r : Expr} {tk td : TE} (hu : X.A.units + 1 < cLine) (hk : PE X l tk) (hd : PE X r td) : PC X (if neg then CmpOp.NotIn else CmpOp.In) l r fun σ H Q => tk σ H fun y H1 => td σ H1 fun x H2 => ∃ a o, x = .ref a ∧ DGet H2 a y o ∧ Q (.bl (neg != o.isSome)) H2 := by
  have e : ∀ b : Bool, (false != b) = b := fun b => by cases b <;> rfl
  have e2 : ∀ b : Bool, (true != b) = !b := fun b => by cases b <;> rfl
  cases neg with
  | false => simp only [e]; exact pc_din hu hk hd
  | true => simp only [e2]; exact pc_dnotin hu hk hd
theorem k_din {neg : Bool} {kk d : E} {l r : Expr} {p : Pos} (ok : OkX A c X n k W) (hk : PE X l (tE A W C kk)) (hd : PE X r (tE A W C d)) (hr : noSet r = true) : PE X (.Compare l [if neg then CmpOp.NotIn else CmpOp.In] [r] p) (tE A W C (.din neg kk d)) :=
  (pe_cmp (pc_d (hu_of ok.room) hk hd) (noSet_mark hr _)).imp fun σ H Q ⟨f, m, ρ, R, re, h⟩ => din_read R re h
theorem k_dinT {neg : Bool} {kk d : E} {l r : Expr} {p : Pos} (ok : OkX A c X n k W) (hk : PE X l (tE A W C kk)) (hd : PE X r (tE A W C d)) (hr : noSet r = true) : PT X (.Compare l [if neg then CmpOp.NotIn else CmpOp.In] [r] p) (tT A W C (.din neg kk d)) :=
  (pt_cmp (pc_d (hu_of ok.room) hk hd) (noSet_mark hr _)).imp fun σ H Q ⟨f, m, ρ, R, re, h⟩ => din_read R re (Po.test (fun _ _ e => din_bool e) h)
end
end Pil

set_option Elab.async false
set_option linter.all false
set_option autoImplicit false
set_option maxRecDepth 100000
set_option maxHeartbeats 4000000
namespace Pil
open PySem PySem.Spec PyProof.Rows L2

/-! ### sorted(d): a dict's keys -/
theorem paired_at {α β : Type} {R : α → β → Prop} : ∀ {xs : List α} {ys : List β} {i : Nat} {a : α} {b : β}, Paired R xs ys → xs[i]? = some a → ys[i]? = some b → R a b
  | _, _, _, _, _, .nil, e, _ => by simp at e
  | _, _, 0, _, _, .cons r _, e, e2 => by cases e; cases e2; exact r
  | _, _, i + 1, _, _, .cons _ t, e, e2 => paired_at (i := i) t e e2
theorem each_of {α β : Type} {R : α → β → Prop} : ∀ {as : List α} {bs : List β}, as.length = bs.length → (∀ (j : Nat) (a : α) (b : β), as[j]? = some a → bs[j]? = some b → R a b) → PySem.W.EachIs R as bs
  | [], [], _, _ => .nil
  | [], _ :: _, h, _ => by cases h
  | _ :: _, [], h, _ => by cases h
  | a :: as, b :: bs, h, k => .cons (k 0 a b rfl rfl) (each_of (Nat.succ.inj h) fun j x y e1 e2 => k (j + 1) x y e1 e2)
section
variable {X : Cx} {pins : List (Addr × Obj)} {σ : L2.St} {H : Hp} {s : Shared} {Q : VK}
theorem srt_collect {T : String} {r d : Addr} {n : Nat} {P : Nat → Value → Prop} {OK : Heap → Prop} {bs : List (V × PyData)} (K : PySem.W.KdlSrc X.prog X.w T r d n P OK) (hh : X.A.handled = none) (hok : OK s.heap) (hn : n ≤ sizeLine) (hu : X.A.units + 64 < cLine) (I : Inv X pins σ H s) (hb : bs.length = n)
    (items : ∀ (j : Nat) (v : Value), P j v → ∃ b, bs[j]? = some b ∧ RelV b.1 v ∧ ∀ h' : Heap, (∀ b o, s.heap.get? b = some o → h'.get? b = some o) → Reads h' v b.2 [])
    (hal : PySem.W.AllAlike (bs.map (·.2))) (hk : PySem.W.Sortable (bs.map (·.2))) (hdp : ∀ d ∈ bs.map (·.2), d.depth ≤ 40)
    (q : ∀ zs : List (V × PyData), zs.Perm bs → zs.map (·.2) = (bs.map (·.2)).mergeSort (PySem.W.dataLe false id) → ∀ p, H p = none → Q (.ref p) (upd H p (.lst (zs.map (·.1))))) :
    wpAny (model X.prog X.w) X.A (call (.builtin "sorted") [.ref r]) (EP X pins σ Q) X.xe s := by
  refine Calls.call_function_entry kind_sorted plain_sorted entry_sorted (args_sorted1 _) ?_
  unfold Builtin.«sorted»
  refine wpAny_bind (m := checkCount "sorted" 1 1 _) (wpAny_pure ?_)
  refine wpAny_bind (PySem.W.kdu_collect (A := X.A.in1) K hh hok hn fun h' tk acc hkeep hacc => ?_)
  have hal' : acc.toList.length = bs.length := by rw [Array.length_toList, hacc.1, hb]
  have at_ : ∀ (j : Nat) (v : Value) (b : V × PyData), acc.toList[j]? = some v → bs[j]? = some b → RelV b.1 v ∧ ∀ h2 : Heap, (∀ b o, s.heap.get? b = some o → h2.get? b = some o) → Reads h2 v b.2 [] := fun j v b e1 e2 => by
    obtain ⟨b', q1, q2, q3⟩ := items j v (hacc.2 j v (by rw [← Array.getElem?_toList]; exact e1))
    rw [e2] at q1
    cases q1
    exact ⟨q2, q3⟩
  have I1 : Inv X pins σ H { s with heap := h', toks := tk } := I.kept hkeep
  refine wpAny_bind (wpAny_newList ?_ (by omega))
  have hoL : (h'.push (seqObj "list" acc.toList.toArray 0)).get? h'.objs.size = some (seqObj "list" acc.toList.toArray 0) := Heap.get?_push_size _ rfl
  show wpAny _ _ _ _ _ { s with heap := h'.push (seqObj "list" acc.toList.toArray 0), toks := tk }
  have keep2 : ∀ b o, s.heap.get? b = some o → (h'.push (seqObj "list" acc.toList.toArray 0)).get? b = some o := fun b o e => Heap.get?_push_of_some _ (hkeep b o e)
  refine wpAny_bind (wpAny_holding (PySem.W.list_sort_data (s := { s with heap := h'.push (seqObj "list" acc.toList.toArray 0), toks := tk }) (bs := bs) (enc := (·.2)) (R := fun (u : Value) (b : V × PyData) => RelV b.1 u) hoL (each_of hal' fun j a b e1 e2 => (at_ j a b e1 e2).1)
    (each_of hal' fun j a b e1 e2 => ⟨[], (at_ j a b e1 e2).2 _ keep2, by simp⟩) hal hk (by omega) (fun b hb' => ?_) fun out ho he => ?_))
  · have := hdp b.2 (List.mem_map.mpr ⟨b, hb', rfl⟩)
    show X.A.units + 1 + 1 + _ < _
    omega
  · obtain ⟨e', he'⟩ := sortedHeap_at (vs := acc.toList) (out := out.toArray) hoL
    have hv := each_vals he
    have hp : H h'.objs.size = none := I1.hok.fresh (Nat.le_refl _)
    have hq := q _ (List.mergeSort_perm bs (PySem.W.dataLe false (·.2))) (sort_snd rfl) _ hp
    have okO : ObjOk X.prog X.w (upd H h'.objs.size (.lst ((bs.mergeSort (PySem.W.dataLe false (·.2))).map (·.1)))) (sortedHeap (h'.push (seqObj "list" acc.toList.toArray 0)) h'.objs.size acc.toList out.toArray) h'.objs.size (.lst ((bs.mergeSort (PySem.W.dataLe false (·.2))).map (·.1))) :=
      ⟨by rw [List.length_map, List.length_mergeSort]; omega, out, e', hv, he'⟩
    refine wpAny_pure ⟨_, rfl, .ref h'.objs.size, _, I1.laid (t' := tk) (fun b u e => ?_) (Nat.le_refl _) okO, rfl, hq⟩
    have hb' : b < h'.objs.size := Heap.lt_size e
    rw [sortedHeap_old (Nat.ne_of_lt hb') (by rw [size_push']; exact Nat.lt_succ_of_lt hb')]
    exact Heap.get?_push_of_some _ e
def rSrtK : List V → Hp → VK → Prop := fun xs H Q => ∃ (a : Addr) (kvs : List (Key × V)), xs = [.ref a] ∧ H a = some (.dK kvs) ∧ PySem.W.AllAlike (kvs.map fun p => keyD p.1) ∧ PySem.W.Sortable (kvs.map fun p => keyD p.1) ∧
  ∀ zs : List (V × PyData), zs.Perm (kvs.map fun p => (kV p.1, keyD p.1)) → zs.map (·.2) = (kvs.map fun p => keyD p.1).mergeSort (PySem.W.dataLe false id) → ∀ p, H p = none → Q (.ref p) (upd H p (.lst (zs.map (·.1))))
def rSrtT : List V → Hp → VK → Prop := fun xs H Q => ∃ (a : Addr) (kvs : List (List Key × V)), xs = [.ref a] ∧ H a = some (.dT kvs) ∧ PySem.W.AllAlike (kvs.map fun p => .tuple (p.1.map keyD)) ∧ PySem.W.Sortable (kvs.map fun p => .tuple (p.1.map keyD)) ∧
  ∀ bs : List Addr, IsKeys H kvs bs → ∀ zs : List (V × PyData), zs.Perm ((bs.map V.ref).zip (kvs.map fun p => .tuple (p.1.map keyD))) → zs.map (·.2) = (kvs.map fun p => .tuple (p.1.map keyD)).mergeSort (PySem.W.dataLe false id) → ∀ p, H p = none → Q (.ref p) (upd H p (.lst (zs.map (·.1))))
theorem key_reads {k : Key} {v : Value} (h : keyIs k v = true) : RelV (kV k) v ∧ ∀ h' : Heap, Reads h' v (keyD k) [] := by
  rcases keyIs_shape h with ⟨i, t, rfl, rfl⟩ | ⟨x, t, rfl, rfl⟩
  · exact ⟨⟨t, rfl⟩, fun h' => Reads.int i t⟩
  · exact ⟨⟨t, rfl⟩, fun h' => Reads.str x t⟩
theorem keyD_depth (k : Key) : (keyD k).depth = 0 := by cases k <;> simp [keyD, PyData.depth]
theorem keys_reads {h' : Heap} : ∀ {ks : List Key} {us : List Value}, Vals (ks.map kV) us → ReadsAll h' us (ks.map keyD) []
  | [], _, .nil => .nil
  | .inl i :: ks, _, .cons r t => by
    obtain ⟨t', rfl⟩ := r
    exact ReadsAll.cons (as := []) (bs := []) (Reads.int i t') (keys_reads t)
  | .inr x :: ks, _, .cons r t => by
    obtain ⟨t', rfl⟩ := r
    exact ReadsAll.cons (as := []) (bs := []) (Reads.str x t') (keys_reads t)
theorem cr_srtK (hc : X.calm = true) (hu : X.A.units + 64 < cLine) : CallR X (.builtin "sorted") rSrtK := by
  intro pins s σ H xs us Q I r h
  obtain ⟨a, kvs, rfl, hd, h1, h2, q⟩ := h
  obtain ⟨u, rfl, rx⟩ := r.one
  cases rx
  obtain ⟨z, lo, vs, rel, dd⟩ := dk_rd I.hok (Rd.of hd)
  obtain ⟨ep, hat⟩ := dd.dictAt
  have hl : kvs.length = vs.length := rel.length
  have e2 : (kvs.map fun p => (kV p.1, keyD p.1)).map (·.2) = kvs.map fun p => keyD p.1 := by rw [List.map_map]; rfl
  refine srt_collect (bs := kvs.map fun p => (kV p.1, keyD p.1)) (PySem.W.kdl_dict (knd := mixKind X.prog X.w) (kvs := vs) (ep := ep) lo) (I.ok.hd hc) hat (by omega) hu I (by rw [List.length_map]; exact hl) (fun j v hp => ?_) (by rw [e2]; exact h1) (by rw [e2]; exact h2) (fun d hd' => ?_) (by rw [e2]; exact q)
  · obtain ⟨k, x, e1, hk⟩ := hp
    have ek : (kvs.map (·.1))[j]? = some k := by rw [rel.keys, List.getElem?_map, e1]; rfl
    rw [List.getElem?_map] at ek
    obtain ⟨p, hp1, rfl⟩ := Option.map_eq_some_iff.mp ek
    obtain ⟨q1, q2⟩ := key_reads (k := p.1) (v := v) hk
    exact ⟨(kV p.1, keyD p.1), by rw [List.getElem?_map, hp1]; rfl, q1, fun h' _ => q2 h'⟩
  · rw [e2] at hd'
    obtain ⟨p, _, rfl⟩ := List.mem_map.mp hd'
    rw [keyD_depth]; exact Nat.zero_le _
theorem keysT_depth (ks : List Key) : (PyData.tuple (ks.map keyD)).depth ≤ 40 := by
  have : PyData.depthAll (ks.map keyD) ≤ 0 := by
    induction ks with
    | nil => simp [PyData.depthAll]
    | cons k ks ih =>
      rw [List.map_cons]
      simp only [PyData.depthAll, keyD_depth]
      omega
  simp only [PyData.depth]
  omega
theorem cr_srtT (hc : X.calm = true) (hu : X.A.units + 64 < cLine) : CallR X (.builtin "sorted") rSrtT := by
  intro pins s σ H xs us Q I r h
  obtain ⟨a, kvs, rfl, hd, h1, h2, q⟩ := h
  obtain ⟨u, rfl, rx⟩ := r.one
  cases rx
  obtain ⟨z, hs, ks, pr, o, es, ep, ho, hx, hdt, he, hn⟩ := (show ObjOk X.prog X.w H s.heap a (.dT kvs) from (Rd.of hd).ok I.hok)
  have l1 : es.size = ks.length := size_of_entries he
  have l2 : kvs.length = ks.length := Paired.length pr
  have hK := isKeys_of pr
  have bl : (((ks.map fun x => x.2.1).map V.ref).zip (kvs.map fun p => PyData.tuple (p.1.map keyD))).length = es.size := by
    rw [List.length_zip, List.length_map, List.length_map, List.length_map]; omega
  have e2 : (((ks.map fun x => x.2.1).map V.ref).zip (kvs.map fun p => PyData.tuple (p.1.map keyD))).map (·.2) = kvs.map fun p => .tuple (p.1.map keyD) := List.map_snd_zip (by rw [List.length_map, List.length_map, List.length_map]; omega)
  refine srt_collect (bs := ((ks.map fun x => x.2.1).map V.ref).zip (kvs.map fun p => PyData.tuple (p.1.map keyD))) (kdl_raw hs hx hdt) (I.ok.hd hc) ho (by omega) hu I bl (fun j v hp => ?_) (by rw [e2]; exact h1) (by rw [e2]; exact h2) (fun d hd' => ?_) (fun zs z1 z2 => q _ hK zs z1 (by rw [e2] at z2; exact z2))
  · obtain ⟨en, hen, hv⟩ := hp
    have hj : j < es.size := (Array.getElem?_eq_some_iff.mp hen).1
    have hjk : j < ks.length := by omega
    have hjv : j < kvs.length := by omega
    have qe := entry_at he j
    rw [hen, List.getElem?_eq_getElem hjk] at qe
    have ek : v = Value.ref ks[j].2.1 := by
      have q1 := Option.some.inj qe
      rw [hv, q1]; rfl
    have hkj : H ks[j].2.1 = some (.tup ((kvs[j].1).map kV)) := by
      have := paired_at hK (i := j) (a := kvs[j]) (b := ks[j].2.1) (List.getElem?_eq_getElem hjv) (by rw [List.getElem?_map, List.getElem?_eq_getElem hjk]; rfl)
      exact this
    refine ⟨(V.ref ks[j].2.1, .tuple ((kvs[j].1).map keyD)), ?_, ek, fun h' hk => ?_⟩
    · rw [List.getElem?_zip_eq_some]
      exact ⟨by rw [List.getElem?_map, List.getElem?_map, List.getElem?_eq_getElem hjk]; rfl, by rw [List.getElem?_map, List.getElem?_eq_getElem hjv]; rfl⟩
    · obtain ⟨its, rv, ⟨ob, hob, hcl, nn, hdd⟩, _⟩ := I.tuple (SqT.of hkj)
      rw [ek]
      exact Reads.tuple (hk _ _ hob) hcl hdd (keys_reads rv)
  · rw [e2] at hd'
    obtain ⟨p, _, rfl⟩ := List.mem_map.mp hd'
    exact keysT_depth _
end
section
variable {A : Ads} {c : Ctx} {X : Cx} {n k : Nat} {W : WX} {C : Nat → List SV → Sto → Out SV}
theorem key_rp {H : Hp} {B : Addr → Prop} (k : Key) : Rp H B (kV k) (keyD k) := by cases k <;> first | exact .int _ | exact .str _
theorem keys_rp {H : Hp} {B : Addr → Prop} : ∀ ks : List Key, RpAll H B (ks.map kV) (ks.map keyD)
  | [] => .nil
  | k :: ks => .cons (key_rp k) (keys_rp ks)
theorem dpair_keys {κ : Type} [DecidableEq κ] {f : Nat → Addr} {m : Sto} {H : Hp} : ∀ {ws : List (κ × V)} {kvs : List (κ × SV)}, DPair A f m H κ ws kvs → ws.map (·.1) = kvs.map (·.1)
  | _, _, .nil => rfl
  | _, _, .cons r t => by rw [List.map_cons, List.map_cons, dpair_keys t, r.1]
theorem k_skd {e : E} {y : Expr} {x : Str} {p p2 : Pos} (ok : OkX A c X n k W) (hx : (x == ("sorted" : Str)) = true) (hg : c.glob x = true) (h : PE X y (tE A W C e)) (hy : mE c e y = true) : PE X (.Call (.Name x p) [y] [] p2) (tE A W C (.skd e)) := by
  have ex := eq_of_beq hx
  subst ex
  have st : starEach [y] X.env = (false, eval y X.env) :: starEach [] X.env := star_of hy [] X.env
  have hp := pe_callB (pos := p2) (p := p) ((cr_srtK (X := X) ok.calm ok.room.units).or (cr_srtT ok.calm ok.room.units)) (ok.glob hg) (ok.blt _ (by decide +kernel)) (by decide +kernel) (pa_cons h pa_nil st) (by decide +kernel) (by decide +kernel) st rfl
  refine hp.imp fun σ H Q ⟨f, m, ρ, R, re, h⟩ => ⟨f, m, ρ, R, re, ?_⟩
  have h : Po A W σ (RlV A true) f m H ((ev C e ρ m).bind fun x m1 => match x with
    | .ref l => Out.of ((m1[l]?).bind fun o => (keysD o).bind fun ks => (sortD ks).map fun ys => .d (.list ys)) m1
    | _ => .bad) Q := h
  refine (Po.bind (Ra := RlV A (freshE e)) rlV_mono h).imp fun v H1 ⟨f1, m1, x1, R1, F1, rx, h1⟩ => ?_
  cases x1 with
  | ref l =>
    obtain ⟨w, e', q⟩ := h1.ofD
    obtain ⟨o, eo, e2⟩ := Option.bind_eq_some_iff.mp e'
    obtain ⟨ks, ek, e3⟩ := Option.bind_eq_some_iff.mp e2
    obtain ⟨ys, es, rfl⟩ := Option.map_eq_some_iff.mp e3
    obtain ⟨c1, c2, c3, c4, rfl⟩ := sortD_is es
    have hd := q _ rfl
    obtain ⟨rfl, _⟩ := rx.1
    have ro := R1.ob l o eo
    cases o with
    | dk kvs =>
      obtain ⟨ws, ea, hw⟩ := ro
      cases ek
      have ekk : (kvs.map fun p => keyD p.1) = ws.map fun p => keyD p.1 := by
        have := congrArg (List.map keyD) (dpair_keys hw)
        rw [List.map_map, List.map_map] at this
        exact this.symm
      rw [ekk] at c1 c2 hd
      refine .inl ⟨f1 l, ws, rfl, ea, c1, c2, fun zs hz e p hn => ?_⟩
      have rz := rp_unzip (H := H1) (B := Box A f1 m1) (zs := zs) fun z hzm => by
        obtain ⟨p, _, rfl⟩ := List.mem_map.mp (hz.mem_iff.mp hzm)
        exact key_rp p.1
      rw [e] at rz
      exact hd.newL R1 rz p hn
    | dt kvs =>
      obtain ⟨ws, ea, hw⟩ := ro
      cases ek
      have ekk : (kvs.map fun p => PyData.tuple (p.1.map keyD)) = ws.map fun p => PyData.tuple (p.1.map keyD) := by
        have := congrArg (List.map fun k : List Key => PyData.tuple (k.map keyD)) (dpair_keys hw)
        rw [List.map_map, List.map_map] at this
        exact this.symm
      rw [ekk] at c1 c2 hd
      refine .inr ⟨f1 l, ws, rfl, ea, c1, c2, fun bs hbs zs hz e p hn => ?_⟩
      have rz := rp_unzip (H := H1) (B := Box A f1 m1) (zs := zs) fun z hzm => by
        have hm := hz.mem_iff.mp hzm
        obtain ⟨j, hj⟩ := List.getElem?_of_mem hm
        rw [List.getElem?_zip_eq_some] at hj
        obtain ⟨j1, j2⟩ := hj
        rw [List.getElem?_map] at j1 j2
        obtain ⟨b, jb, eb⟩ := Option.map_eq_some_iff.mp j1
        obtain ⟨wp, jw, ew⟩ := Option.map_eq_some_iff.mp j2
        have hb := paired_at hbs jw jb
        obtain ⟨z1, z2⟩ := z
        cases eb
        cases ew
        exact .tup hb (R1.notup hb) (keys_rp _)
      rw [e] at rz
      exact hd.newL R1 rz p hn
    | _ => cases ek
  | _ => exact h1.elim
end
end Pil

set_option Elab.async false
set_option linter.all false
set_option autoImplicit false
set_option maxRecDepth 100000
set_option maxHeartbeats 4000000
namespace Pil
open PySem PySem.Spec PyProof.Rows L2
section
variable {A : Ads} {c : Ctx} {X : Cx} {n k : Nat} {W : WX} {C : Nat → List SV → Sto → Out SV}
/-! ### d.pop(key, other): tuple keys -/
theorem drop_ok {κ : Type} [DecidableEq κ] {f : Nat → Addr} {m : Sto} {H : Hp} {k : κ} : ∀ {ws : List (κ × V)} {kvs : List (κ × SV)}, DPair A f m H κ ws kvs → DPair A f m H κ (dropK ws k) (drG kvs k)
  | _, _, .nil => .nil
  | p :: ws, q :: kvs, .cons r t => by
    have ih := drop_ok (k := k) t
    unfold dropK drG at ih ⊢
    by_cases h : p.1 = k
    · have h2 : q.1 = k := by rw [← r.1]; exact h
      rw [List.filter_cons_of_neg (by simpa using h), List.filter_cons_of_neg (by simpa using h2)]
      exact ih
    · have h2 : ¬ q.1 = k := by rw [← r.1]; exact h
      rw [List.filter_cons_of_pos (by simpa using h), List.filter_cons_of_pos (by simpa using h2)]
      exact .cons r ih
theorem k_dpop {d kk e : E} {x y z : Expr} {nm : Str} {p ap : Pos} (ok : OkX A c X n k W) (hd : PE X x (tE A W C d)) (hk : PE X y (tE A W C kk)) (he : PE X z (tE A W C e)) (hy : mE c kk y = true) (hz : mE c e z = true) (hnm : (nm == ("pop" : Str)) = true) (hl : (ap.endLine == p.line) = true) (hsu : noSuper x = true) :
    PE X (.Call (.Attribute x nm ap) [y, z] [] p) (tE A W C (.dpop d kk e)) := by
  have en := eq_of_beq hnm
  subst en
  have hes : mEs c (.cons kk (.cons e .nil)) [y, z] = true := by show (mE c kk y && (mE c e z && true)) = true; rw [hy, hz]; rfl
  have st1 : starEach [z] X.env = (false, eval z X.env) :: starEach [] X.env := star_of hz [] X.env
  have st : starEach [y, z] X.env = (false, eval y X.env) :: starEach [z] X.env := star_of hy [z] X.env
  have hp := pe_bm F.plainAttrs_dict F.slot_dict_pop F.type_dict_pop (L2.DX.mt_popT (X := X) (hu_of ok.room)) hd (pa_cons hk (pa_cons he pa_nil st1) st) (noSuper_is hsu _ _ _) (few_args hes p (by show 2 < 20; decide)) hl st (by rw [st1]; rfl)
  rw [ok.K] at hp
  refine hp.imp fun σ H Q ⟨f, m, ρ, R, re, h⟩ => ⟨f, m, ρ, R, re, (Po.bind (Ra := RlV A (freshE d)) rlV_mono h).imp fun v H1 ⟨f1, m1, x1, R1, F1, rx, h1⟩ => ?_⟩
  cases x1 with
  | ref l =>
    obtain ⟨rfl, hlt⟩ := rx.1
    have h1 : Po A W σ (RlV A false) f1 m1 H1 (if isDic m1[l]? then (ev C kk ρ m1).bind fun y m2 => (ev C e ρ m2).bind fun z m3 => match y with
      | .d (.tuple ks0) => match m3[l]? with
        | some (.dt kvs) => match asKs ks0 with
          | some ks => match lkG kvs ks with
            | some v => .ok v (m3.set l (.dt (drG kvs ks)))
            | none => .ok z m3
          | none => .bad
        | _ => .bad
      | _ => .bad
      else .bad) Q := h1
    split at h1
    case isFalse => exact h1.elim
    rename_i hdic
    refine ⟨?_, f1, m1, ρ, R1, F1.re re, ?_⟩
    · cases e0 : m1[l]? with
      | none => rw [e0] at hdic; cases hdic
      | some o =>
        rw [e0] at hdic
        have r := R1.ob l o e0
        cases o with
        | dk kvs => obtain ⟨ws, ea, _⟩ := r; exact .inr (.inr (.inl ⟨rfl, .inl ⟨ws, ea⟩⟩))
        | dt kvs => obtain ⟨ws, ea, _⟩ := r; exact .inr (.inr (.inl ⟨rfl, .inr ⟨ws, ea⟩⟩))
        | _ => cases hdic
    refine (Po.bind (Ra := RlV A (freshE kk)) rlV_mono h1).imp fun w H2 ⟨f2, m2, y1, R2, F2, ry, h2⟩ => ⟨f2, m2, ρ, R2, F2.re (F1.re re), ?_⟩
    refine (Po.bind (Ra := RlV A (freshE e)) rlV_mono h2).imp fun w2 H3 ⟨f3, m3, z1, R3, F3, rz, h3⟩ => ?_
    have hfl : f3 l = f1 l := by rw [F3.agree l (Nat.lt_of_lt_of_le hlt F2.len), F2.agree l hlt]
    have keepS : ∀ {o o' : Ob} {u : HO}, m3[l]? = some o → o ≠ .dead → o' ≠ .dead → ∀ {v : V} {x : SV}, RpS A f3 m3 H3 v x → RpS A f3 (m3.set l o') (upd H3 (f3 l) u) v x := fun {o o' u} e n n' {v x} r => by
      obtain ⟨hk, hb⟩ := upd_up (o' := o') (u := u) R3 e n n'
      exact rpS_keep (Z' := A.Z) (fun b o e n => hk b o e fun z => n (.inr z)) (fun b o e n z => n (z.elim .inl fun z => .inr ((hb b).mp z))) (by rw [List.length_set]; exact Nat.le_refl _) (fun _ _ => rfl) r
    cases y1 with
    | d k1 =>
      cases k1 with
      | tuple ks0 =>
        cases e3 : m3[l]? with
        | none => simp only [e3] at h3; exact h3.elim
        | some o =>
          simp only [e3] at h3
          cases o with
          | dt kvs =>
            simp only at h3
            cases ek : asKs ks0 with
            | none => simp only [ek] at h3; exact h3.elim
            | some ks =>
              simp only [ek] at h3
              obtain ⟨ws, ea, rk⟩ := R3.ob l _ e3
              obtain ⟨b, vs0, rfl, et, _, rt⟩ := (Rq.of (F3.rpS ry.1)).tuple
              rw [asKs_ok rt ek] at et
              have lk := lk_ok (k := ks) rk
              rw [hfl] at ea
              refine ⟨f1 l, ws, ks, b, w2, rfl, rfl, ea, et, fun v hv => ?_, fun hv => ?_⟩
              · rw [hv] at lk
                cases el : lkG kvs ks with
                | none => rw [el] at lk; exact lk.elim
                | some xv =>
                  rw [el] at lk
                  have lk : RpS A f3 m3 H3 v xv := lk
                  simp only [el] at h3
                  obtain ⟨R', F'⟩ := R3.put (o' := .dt (drG kvs ks)) (u := .dT (dropK ws ks)) e3 (fun z => nomatch z) (fun z => nomatch z) ⟨_, upd_same, Paired.mapP (drop_ok (k := ks) rk) fun p q h => ⟨h.1, keepS (o' := .dt (drG kvs ks)) (u := .dT (dropK ws ks)) e3 (fun z => nomatch z) (fun z => nomatch z) h.2⟩⟩
                  have kv := keepS (o' := .dt (drG kvs ks)) (u := .dT (dropK ws ks)) e3 (fun z => nomatch z) (fun z => nomatch z) lk
                  rw [hfl] at R' F' kv
                  exact h3 f3 _ v R' F' ⟨kv, fun z => nomatch z⟩
              · rw [hv] at lk
                cases el : lkG kvs ks with
                | some xv => rw [el] at lk; exact lk.elim
                | none =>
                  simp only [el] at h3
                  exact h3 f3 _ w2 R3 Fra.refl ⟨rz.1, fun z => nomatch z⟩
          | _ => exact h3.elim
      | _ => exact h3.elim
    | _ => exact h3.elim
  | _ => exact h1.elim
end
end Pil

set_option Elab.async false
set_option linter.all false
set_option autoImplicit false
set_option maxRecDepth 100000
set_option maxHeartbeats 4000000
namespace Pil
open PySem PySem.Spec PyProof.Rows L2
section
variable {X : Cx}
/-! ### dict(xs) of a list of pairs (tuple key, value), the keys unlike -/
structure PrT where
  p : Addr
  b : Addr
  k : List Key
  v : V
theorem prs_of {pins : List (Addr × Obj)} {σ : L2.St} {H : Hp} {s : Shared} (I : Inv X pins σ H s) : ∀ {rs : List PrT}, (∀ r ∈ rs, SqT X.K H r.p [.ref r.b, r.v] ∧ H r.b = some (.tup (r.k.map kV))) →
    ∃ ys : List Value, Vals (rs.map (·.v)) ys ∧ ∀ (j : Nat) (r : PrT) (y : Value), rs[j]? = some r → ys[j]? = some y → IsTup s.heap r.p #[.ref r.b, y]
  | [], _ => ⟨[], .nil, fun j r y e => by simp at e⟩
  | r :: rs, h => by
    obtain ⟨ys, rv, hp⟩ := prs_of I (rs := rs) fun x hx => h x (List.mem_cons_of_mem _ hx)
    obtain ⟨its, rt, ht, _⟩ := I.tuple (h r List.mem_cons_self).1
    obtain ⟨u, y, ei, ru, ry⟩ := vals2 rt
    subst ei
    cases ru
    refine ⟨y :: ys, .cons ry rv, fun j r' y' e1 e2 => ?_⟩
    cases j with
    | zero =>
      cases Option.some.inj e1
      cases Option.some.inj e2
      exact ht
    | succ j => exact hp j r' y' (by simpa using e1) (by simpa using e2)
theorem zip_at {α β : Type} : ∀ {xs : List α} {ys : List β} {j : Nat} {q : α × β}, (xs.zip ys)[j]? = some q → xs[j]? = some q.1 ∧ ys[j]? = some q.2
  | [], _, j, q, h => by simp at h
  | _ :: _, [], j, q, h => by simp at h
  | x :: xs, y :: ys, 0, q, h => by cases Option.some.inj h; exact ⟨rfl, rfl⟩
  | x :: xs, y :: ys, j + 1, q, h => by simpa using zip_at (xs := xs) (ys := ys) (j := j) (q := q) (by simpa using h)
theorem paired_of {α β : Type} {R : α → β → Prop} : ∀ {as : List α} {bs : List β}, as.length = bs.length → (∀ (j : Nat) (a : α) (b : β), as[j]? = some a → bs[j]? = some b → R a b) → Paired R as bs
  | [], [], _, _ => .nil
  | [], _ :: _, h, _ => by cases h
  | _ :: _, [], h, _ => by cases h
  | a :: as, b :: bs, h, k => .cons (k 0 a b rfl rfl) (paired_of (Nat.succ.inj h) fun j x y e1 e2 => k (j + 1) x y e1 e2)
theorem vals_at : ∀ {vs : List V} {us : List Value} {j : Nat} {v : V} {u : Value}, Vals vs us → vs[j]? = some v → us[j]? = some u → RelV v u
  | _, _, j, _, _, .nil, e, _ => by simp at e
  | _, _, 0, _, _, .cons r _, e1, e2 => by cases Option.some.inj e1; cases Option.some.inj e2; exact r
  | _, _, j + 1, _, _, .cons _ t, e1, e2 => vals_at (j := j) t (by simpa using e1) (by simpa using e2)
theorem call_dictT (hcalm : X.calm = true) (hu : X.A.units + 8 < cLine) : CallR X (.type "dict") (fun xs H Q => ∃ (a : Addr) (rs : List PrT), xs = [.ref a] ∧ SqL X.K H a (rs.map fun r => V.ref r.p) ∧ (∀ r ∈ rs, SqT X.K H r.p [.ref r.b, r.v] ∧ H r.b = some (.tup (r.k.map kV))) ∧ (rs.map (·.k)).Nodup ∧
    ∀ p, H p = none → Q (.ref p) (upd H p (.dT (rs.map fun r => (r.k, r.v))))) := by
  intro pins s σ H xs us Q I r q
  obtain ⟨a, rs, ex, hq, hp, hn, q⟩ := q
  subst ex
  obtain ⟨u, eu, rx⟩ := vals1 r
  subst eu
  cases rx
  obtain ⟨its, rv, pl, hz⟩ := I.list hq
  have ei : its = (rs.map (·.p)).map Value.ref := refs_at (ps := rs.map (·.p)) (by rw [List.map_map]; exact rv)
  subst ei
  rw [List.length_map] at hz
  obtain ⟨ys, ry, ht⟩ := prs_of I hp
  have hly : ys.length = rs.length := by have := ry.length; rw [List.length_map] at this; exact this.symm
  have hfresh : H s.heap.objs.size = none := I.hok.fresh (Nat.le_refl _)
  let prs : List (List Key × Addr × Value) := (rs.zip ys).map fun q => (q.1.k, q.1.b, q.2)
  have hlp : prs.length = rs.length := by show (List.map _ _).length = _; rw [List.length_map, List.length_zip]; omega
  have hat : ∀ (j : Nat) (x : List Key × Addr × Value), prs[j]? = some x → ∃ (r : PrT) (y : Value), rs[j]? = some r ∧ ys[j]? = some y ∧ x = (r.k, r.b, y) := fun j x e => by
    have e : ((rs.zip ys).map fun q => (q.1.k, q.1.b, q.2))[j]? = some x := e
    rw [List.getElem?_map] at e
    obtain ⟨q, eq_, rfl⟩ := Option.map_eq_some_iff.mp e
    obtain ⟨e1, e2⟩ := zip_at eq_
    exact ⟨q.1, q.2, e1, e2, rfl⟩
  have hkeys : prs.map (·.1) = rs.map (·.k) := by
    show ((rs.zip ys).map fun q => (q.1.k, q.1.b, q.2)).map (·.1) = _
    rw [List.map_map]
    show (rs.zip ys).map (fun q => q.1.k) = _
    have : (rs.zip ys).map Prod.fst = rs := List.map_fst_zip (by omega)
    conv => rhs; rw [← this]
    rw [List.map_map]; rfl
  have hne : ∀ r ∈ rs, r.b ≠ s.heap.objs.size := fun r hr z => by
    have := (hp r hr).2
    rw [z, hfresh] at this
    cases this
  have hTs : ∀ (j : Nat) (r : PrT), rs[j]? = some r → (rs.map (·.p)).getD j 0 = r.p := fun j r e => by
    rw [List.getD_eq_getElem?_getD, List.getElem?_map, e]; rfl
  have hok : PySem.PlainSeq "list" s.heap a ((rs.map (·.p)).map Value.ref).toArray ∧ PySem.PairItems s.heap ((rs.map (·.p)).map Value.ref).toArray (fun j => (rs.map (·.p)).getD j 0) (prs.map fun q => (Value.ref q.2.1, q.2.2)) := by
    refine ⟨?_, ?_, fun j k v e => ?_⟩
    · obtain ⟨o, n, ho, hc, hd, hdat⟩ := pl
      exact ⟨o, n, ho, hc, hd, hdat⟩
    · rw [List.size_toArray, List.length_map, List.length_map, List.length_map, hlp]
    · rw [List.getElem?_map] at e
      obtain ⟨x, ex, e2⟩ := Option.map_eq_some_iff.mp e
      obtain ⟨r, y, e3, e4, rfl⟩ := hat j x ex
      cases e2
      refine ⟨?_, .inl ?_⟩
      · show _ = some (Value.ref ((rs.map (·.p)).getD j 0))
        rw [hTs j r e3]
        simp [e3]
      · show s.heap.IsTuple ((rs.map (·.p)).getD j 0) _
        rw [hTs j r e3]
        obtain ⟨o, ho, hc, n, hd⟩ := ht j r y e3 e4
        exact ⟨o, ho, hc, n, hd⟩
  refine PySem.call_dict_pairsH (knd := tupleKind (mixKind X.prog X.w)) (ps := prs) (PySem.PairArg.list a _ _ _) (I.ok.hd hcalm) (by show X.A.units + 1 + 1 < cLine; omega) hok ⟨(by simp : prs.length = (prs.map fun q => (Value.ref q.2.1, q.2.2)).length), fun i key v e => ?_⟩ (fun h' hk x hx => ?_) (by rw [List.length_map, hlp]; exact hz) fun h' tk hd' k => ?_
  · have e : (prs.map fun q => (Value.ref q.2.1, q.2.2))[i]? = some (key, v) := e
    rw [List.getElem?_map] at e
    obtain ⟨x, ex, e2⟩ := Option.map_eq_some_iff.mp e
    cases e2
    exact ⟨x.1, x.2.1, ex, rfl⟩
  · obtain ⟨j, hj⟩ := List.getElem?_of_mem hx
    obtain ⟨r, y, e3, e4, rfl⟩ := hat j x hj
    have hr : r ∈ rs := List.mem_of_getElem? e3
    obtain ⟨o, items, n, ho, hc, hd, hi⟩ := (show IsTupleKey (mixKind X.prog X.w) s.heap r.k r.b from key_of I.hok (hp r hr).2)
    exact ⟨o, items, n, hk r.b o (hne r hr) (by simp) ho, hc, hd, hi⟩
  · rw [PySem.storedAllH_nil_of_nodup prs (by rw [hkeys]; exact hn)] at hd'
    obtain ⟨o, es, ep, ho, hx, hdat, he, _, hnd⟩ := hd'
    have hm : (s.heap.objs.size == sysModules) = false := beq_eq_false_iff_ne.mpr (Nat.ne_of_gt I.big)
    refine ⟨.ref s.heap.objs.size, _, I.laid (t' := tk) (fun b u e => k b u (by simp) e) (Nat.le_refl _) (show ObjOk X.prog X.w _ _ _ (.dT (rs.map fun r => (r.k, r.v))) from ⟨by rw [List.length_map]; exact hz, hm, prs, paired_of (by rw [List.length_map, hlp]) fun j p q e1 e2 => ?_, o, es, ep, ho, hx, hdat, he, hnd⟩), rfl, q _ hfresh⟩
    obtain ⟨r, y, e3, e4, rfl⟩ := hat j q e2
    rw [List.getElem?_map, e3] at e1
    cases e1
    have hr : r ∈ rs := List.mem_of_getElem? e3
    refine ⟨rfl, ?_, vals_at (j := j) ry (by rw [List.getElem?_map, e3]; rfl) e4⟩
    rw [upd_ne (hne r hr)]
    exact (hp r hr).2
end
end Pil

set_option Elab.async false
set_option linter.all false
set_option autoImplicit false
set_option maxRecDepth 100000
set_option maxHeartbeats 4000000
namespace Pil
open PySem PySem.Spec PyProof.Rows L2
section
variable {A : Ads} {c : Ctx} {X : Cx} {n k : Nat} {W : WX} {C : Nat → List SV → Sto → Out SV}
theorem prT_of {K : PySem.W.Frag} {f : Nat → Addr} {m : Sto} {H : Hp} : ∀ {xs : List V} {ds : List PyData} {kvs : List (List Key × SV)}, RpAll H (Box A f m) xs ds → dictT ds = some kvs →
    ∃ rs : List PrT, xs = rs.map (fun r => V.ref r.p) ∧ (∀ r ∈ rs, SqT K H r.p [.ref r.b, r.v] ∧ H r.b = some (.tup (r.k.map kV))) ∧ Paired (fun (r : PrT) (q : List Key × SV) => r.k = q.1 ∧ RpS A f m H r.v q.2) rs kvs
  | _, _, _, .nil, e => by
    cases (Option.some.inj (show some [] = some _ from e))
    exact ⟨[], rfl, (fun r hr => by cases hr), .nil⟩
  | _, _, kvs, .cons (d := d) r t, e => by
    unfold dictT at e
    split at e
    · rename_i h; cases h
    · rename_i ks v r' h
      cases h
      obtain ⟨k, e1, e2⟩ := Option.bind_eq_some_iff.mp e
      obtain ⟨kvs', e3, rfl⟩ := Option.map_eq_some_iff.mp e2
      obtain ⟨rs, rfl, h1, h2⟩ := prT_of (K := K) t e3
      obtain ⟨p, vs, rfl, ep, _, rp⟩ := (Rq.of r).tuple
      cases rp with
      | cons ra rt =>
        cases rt with
        | cons rb rn =>
          cases rn
          obtain ⟨b, us, rfl, eb, _, rb'⟩ := (Rq.of ra).tuple
          rw [asKs_ok rb' e1] at eb
          refine ⟨⟨p, b, k, _⟩ :: rs, rfl, fun r hr => ?_, .cons ⟨rfl, rb⟩ h2⟩
          rcases List.mem_cons.mp hr with rfl | hr
          · exact ⟨SqT.of ep, eb⟩
          · exact h1 r hr
    · cases e
theorem k_dof {e : E} {y : Expr} {x : Str} {p p2 : Pos} (ok : OkX A c X n k W) (hx : (x == ("dict" : Str)) = true) (hg : c.glob x = true) (h : PE X y (tE A W C e)) (hy : mE c e y = true) : PE X (.Call (.Name x p) [y] [] p2) (tE A W C (.dof true e)) := by
  have ex := eq_of_beq hx
  subst ex
  have st : starEach [y] X.env = (false, eval y X.env) :: starEach [] X.env := star_of hy [] X.env
  have hp := pe_callTy (pos := p2) (p := p) (call_dictT (X := X) ok.calm (by have := ok.room.units; omega)) (ok.glob hg) (ok.blt _ (by decide +kernel)) (by decide +kernel) (pa_cons h pa_nil st) (by decide +kernel) (by decide +kernel) st rfl
  refine hp.imp fun σ H Q ⟨f, m, ρ, R, re, h⟩ => ⟨f, m, ρ, R, re, ?_⟩
  refine (Po.bind (Ra := RlV A (freshE e)) rlV_mono h).imp fun v H1 ⟨f1, m1, x1, R1, F1, rx, h1⟩ => ?_
  cases ed : dat m1 x1 with
  | none => simp only [ed] at h1; exact h1.elim
  | some d =>
    simp only [ed] at h1
    cases d with
    | list ds =>
      simp only at h1
      cases ek : dictT ds with
      | none => simp only [ek] at h1; exact h1.elim
      | some kvs =>
        simp only [ek] at h1
        split at h1
        case isFalse => exact h1.elim
        rename_i hc
        simp only [Bool.and_eq_true, decide_eq_true_eq] at hc
        obtain ⟨a, xs, rfl, ea, ra⟩ := (dat_rq R1 rx.1 ed).list
        obtain ⟨rs, rfl, h2, h3⟩ := prT_of (K := X.K) ra ek
        have hks : rs.map (·.k) = kvs.map (·.1) := by
          clear h2 ra ea hc h1 ek
          induction h3 with
          | nil => rfl
          | cons r _ ih => rw [List.map_cons, List.map_cons, r.1, ih]
        refine ⟨a, rs, rfl, .inl (.inl ea), h2, by rw [hks]; exact hc.1, fun p hp => ?_⟩
        have R0 := R1.plus (o := .dT (rs.map fun r => (r.k, r.v))) hp
        have hv : DPair A (atNew f1 m1.length p) (m1 ++ [.dt kvs]) (upd H1 p (.dT (rs.map fun r => (r.k, r.v)))) (List Key) (rs.map fun r => (r.k, r.v)) kvs := by
          have : ∀ {rs : List PrT} {kvs' : List (List Key × SV)} {u : HO}, Paired (fun (r : PrT) (q : List Key × SV) => r.k = q.1 ∧ RpS A f1 m1 H1 r.v q.2) rs kvs' → DPair A (atNew f1 m1.length p) (m1 ++ [.dt kvs]) (upd H1 p u) (List Key) (rs.map fun r => (r.k, r.v)) kvs' := by
            intro rs kvs' u h
            induction h with
            | nil => exact .nil
            | cons r _ ih => exact .cons ⟨r.1, rpS_up (rpS_plus hp r.2)⟩ ih
          exact this h3
        obtain ⟨R3, F3⟩ := (R0.drop).box_new (o := .dt kvs) (u := .dT (rs.map fun r => (r.k, r.v))) ((up_new hp).fra) upd_same (R1.nobox hp) hp (fun l ob e => by
          have hl := (List.getElem?_eq_some_iff.mp e).1
          rw [atNew_lt hl]
          exact rpO_up (R0.ob l ob e)) ⟨_, upd_same, hv⟩
        exact h1 _ _ (.ref p) R3 F3 ⟨⟨by rw [atNew_self], by rw [List.length_append]; exact Nat.lt_succ_self _⟩, fun z => nomatch z⟩
    | _ => exact h1.elim
end
end Pil

set_option Elab.async false
set_option linter.all false
set_option autoImplicit false
set_option maxRecDepth 100000
set_option maxHeartbeats 4000000
namespace Pil
open PySem PySem.Spec PyProof.Rows L2
section
variable {A : Ads} {f : Nat → Addr} {m : Sto} {H : Hp}
/-! ### what nobody follows any more -/
theorem RS.kill0 {l : Nat} (R : RS A f m H) : RS A f (m.set l .dead) H ∧ Fra f m H f (m.set l .dead) H := by
  have hb : ∀ b, Box A f (m.set l .dead) b → Box A f m b := fun b z => z.elim .inl fun z => .inr (live_lock' z)
  have hl : m.length ≤ (m.set l .dead).length := by rw [List.length_set]; exact Nat.le_refl _
  refine ⟨⟨fun l' o e' => ?_, fun l1 l2 o1 o2 e1 e2 n1 n2 z => ?_, R.zt, fun a z lv => R.zl a z (live_lock' lv)⟩, ⟨fun _ _ => rfl, fun l' o h e' n => ?_, fun _ _ e _ => e, hl, fun l' e' => ?_, fun _ e => e⟩⟩
  · rcases get_lock e' with ⟨_, rfl⟩ | ⟨_, e'⟩
    · exact True.intro
    · exact rpO_box (Z' := A.Z) hb hl (R.ob l' o e')
  · rcases get_lock e1 with ⟨_, rfl⟩ | ⟨_, e1⟩
    · exact absurd rfl n1
    · rcases get_lock e2 with ⟨_, rfl⟩ | ⟨_, e2⟩
      · exact absurd rfl n2
      · exact R.inj _ _ _ _ e1 e2 n1 n2 z
  · have := (List.getElem?_eq_some_iff.mp e').1
    rw [List.length_set] at this
    omega
  · by_cases h : l = l'
    · subst h
      rw [List.getElem?_set_self (List.getElem?_eq_some_iff.mp e').1]
    · rw [List.getElem?_set_ne h]; exact e'
theorem RS.killM : ∀ {ls : List Nat} {m : Sto}, RS A f m H → RS A f (killM ls m) H ∧ Fra f m H f (killM ls m) H
  | [], _, R => ⟨R, Fra.refl⟩
  | l :: ls, m, R => by
    obtain ⟨R1, F1⟩ := R.kill0 (l := l)
    obtain ⟨R2, F2⟩ := RS.killM (ls := ls) R1
    exact ⟨R2, F1.trans F2⟩
theorem killM_get {l : Nat} {o : Ob} : ∀ {ls : List Nat} {m : Sto}, (killM ls m)[l]? = some o → (o = .dead) ∨ (l ∉ ls ∧ m[l]? = some o)
  | [], _, e => .inr ⟨List.not_mem_nil, e⟩
  | k :: ls, m, e => by
    rcases killM_get (ls := ls) (m := m.set k .dead) e with h | ⟨h, e⟩
    · exact .inl h
    · rcases get_lock e with ⟨_, rfl⟩ | ⟨n, e⟩
      · exact .inl rfl
      · exact .inr ⟨fun z => (List.mem_cons.mp z).elim n h, e⟩
theorem RS.kill {l : Nat} {o : Ob} {u : HO} (R : RS A f m H) (e : m[l]? = some o) (n : o ≠ Ob.dead) :
    RS A f (m.set l .dead) (upd H (f l) u) ∧ Fra f m H f (m.set l .dead) (upd H (f l) u) := by
  have hl : l < m.length := (List.getElem?_eq_some_iff.mp e).1
  have F : Fra f m H f (m.set l .dead) (upd H (f l) u) := by
    refine ⟨fun _ _ => rfl, fun k ob h h1 _ => ?_, fun b v hb nb => ?_, by rw [List.length_set]; exact Nat.le_refl _, fun k hd => ?_, fun b hb => ?_⟩
    · have := (List.getElem?_eq_some_iff.mp h1).1
      rw [List.length_set] at this; omega
    · rw [upd_ne (fun z => nb ⟨l, o, e, n, z.symm⟩)]; exact hb
    · by_cases hkl : l = k
      · subst hkl; rw [e] at hd; cases hd; exact absurd rfl n
      · rw [List.getElem?_set_ne hkl]; exact hd
    · by_cases z : b = f l
      · subst z; rw [upd_same] at hb; cases hb
      · rw [upd_ne z] at hb; exact hb
  have rpS : ∀ {v : V} {x : SV}, RpS A f m H v x → RpS A f (m.set l .dead) (upd H (f l) u) v x := fun {v x} r => F.rpS r
  refine ⟨⟨fun k ob h => ?_, fun k k' ob ob' h h' d d' z => ?_, fun a z => ?_, fun a z lv => R.zl a z (live_lock' lv)⟩, F⟩
  · rcases get_lock h with ⟨_, rfl⟩ | ⟨hkl, h⟩
    · exact True.intro
    · have rk := R.ob k ob h
      have ne : ob ≠ Ob.dead → f k ≠ f l := fun d z => hkl (R.inj k l ob o h e d n z)
      cases ob with
      | lst xs =>
        obtain ⟨vs, q, r⟩ := rk
        exact ⟨vs, by rw [upd_ne (ne (fun z => nomatch z))]; exact q, F.rpAll r⟩
      | dk fs =>
        obtain ⟨vs, q, r⟩ := rk
        exact ⟨vs, by rw [upd_ne (ne (fun z => nomatch z))]; exact q, Paired.mapP r fun _ _ z => ⟨z.1, rpS z.2⟩⟩
      | dt fs =>
        obtain ⟨vs, q, r⟩ := rk
        exact ⟨vs, by rw [upd_ne (ne (fun z => nomatch z))]; exact q, Paired.mapP r fun _ _ z => ⟨z.1, rpS z.2⟩⟩
      | rcd fs =>
        obtain ⟨vs, q, r⟩ := rk
        exact ⟨vs, by rw [upd_ne (ne (fun z => nomatch z))]; exact q, Paired.mapP r fun _ _ z => ⟨z.1, rpS z.2⟩⟩
      | ins _ _ => exact rk
      | dead => exact True.intro
  · rcases get_lock h with ⟨_, rfl⟩ | ⟨_, h⟩
    · exact absurd rfl d
    · rcases get_lock h' with ⟨_, rfl⟩ | ⟨_, h'⟩
      · exact absurd rfl d'
      · exact R.inj _ _ _ _ h h' d d' z
  · by_cases z' : a = f l
    · subst z'; exact absurd ⟨l, o, e, n, rfl⟩ (R.zl _ z)
    · obtain ⟨ob, q, nq⟩ := R.zt a z
      exact ⟨ob, by rw [upd_ne z']; exact q, nq⟩
end
section
variable {X : Cx}
/-- from here on what it gives is never written again -/
theorem pe_frz {e : Expr} {t : TE} (h : PE X e t) : PE X e (fun σ H Q => t σ H fun x H1 => ∃ d u, x = .ref d ∧ H1 d = some u ∧ Mut (some u) ∧ ∀ od, Q x (upd H1 d (.frz od u))) := by
  refine ⟨fun pins s σ H Q I hw => ?_⟩
  refine thn (h.run pins s σ _ _ I hw) fun v s1 ⟨x, H1, I1, r, d, u, hx, hd, mu, q⟩ => ?_
  obtain ⟨od, I2⟩ := I1.lock hd mu
  exact ⟨x, _, I2, r, q od⟩
end
section
variable {A : Ads} {c : Ctx} {X : Cx} {n k : Nat} {W : WX} {C : Nat → List SV → Sto → Out SV} {tg : Expr}
theorem itm_vals {f : Nat → Addr} {m : Sto} {H : Hp} {l : Nat} {u : HO} {o : Ob} (R : RS A f m H) (e : m[l]? = some o) (n : o ≠ Ob.dead) (nl : ∀ xs, o ≠ Ob.lst xs) {ls : List Nat} : ∀ {ws : List (Key × V)} {kvs : List (Key × SV)} {its : List (Key × PyData)}, (∀ k ∈ refsL kvs, k ∈ ls) → Paired (fun (p : Key × V) (q : Key × SV) => p.1 = q.1 ∧ RpS A f m H p.2 q.2) ws kvs → itmD m kvs = some its →
    Paired (fun (p : Key × V) (q : Key × PyData) => p.1 = q.1 ∧ Rp (upd H (f l) u) (Box A f (killM ls (m.set l .dead))) p.2 q.2) ws its
  | _, _, _, _, .nil, h => by
    have h : some [] = some _ := h
    cases h; exact .nil
  | p :: ws, q :: kvs, its, hls, .cons r t, h => by
    unfold itmD at h
    obtain ⟨x, e1, e2⟩ := Option.bind_eq_some_iff.mp h
    obtain ⟨its', e3, rfl⟩ := Option.map_eq_some_iff.mp e2
    obtain ⟨R1, F1⟩ := R.kill (u := u) e n
    obtain ⟨R2, F2⟩ := R1.killM (ls := ls)
    refine .cons ⟨r.1, ?_⟩ (itm_vals R e n nl (fun k hk => hls k (by
      unfold refsL at hk ⊢
      rw [List.filterMap_cons]
      split
      · exact hk
      · exact List.mem_cons_of_mem _ hk)) t e3)
    have rv := r.2
    revert rv e1
    generalize hq : q.2 = sv
    intro e1 rv
    cases sv with
    | d y =>
      have e1 : some y = some x := e1
      cases e1
      exact (F1.trans F2).rp rv
    | ref l' =>
      obtain ⟨hv, hlt⟩ := rv
      have hl' : l' ∈ ls := hls l' (by unfold refsL; rw [List.filterMap_cons, hq]; exact List.mem_cons_self)
      dsimp only [dat] at e1
      cases em : m[l']? with
      | none => rw [em] at e1; cases e1
      | some ob =>
        rw [em] at e1
        cases ob with
        | lst xs =>
          have e1 : some (PyData.list xs) = some x := e1
          cases e1
          obtain ⟨vs, q2, r2⟩ := R.ob l' _ em
          have hne : f l' ≠ f l := fun z => by
            have := R.inj l' l _ _ em e (fun z => nomatch z) n z
            subst this
            rw [em] at e
            cases e
            exact nl _ rfl
          show Rp _ _ p.2 _
          rw [hv]
          refine .lst (by rw [upd_ne hne]; exact q2) (fun z => ?_) ((F1.trans F2).rpAll r2)
          rcases z with z | ⟨l2, o2, e2, n2, z⟩
          · exact R.zl _ z ⟨l', _, em, (fun z => nomatch z), rfl⟩
          · rcases killM_get e2 with h | ⟨h, e2⟩
            · exact n2 h
            · rcases get_lock e2 with ⟨_, rfl⟩ | ⟨_, e2⟩
              · exact n2 rfl
              · have := R.inj l2 l' _ _ e2 em n2 (fun z => nomatch z) z
                subst this
                exact h hl'
        | _ => cases e1
    | fn _ => cases e1
    | ext _ => cases e1
theorem pair_get {α β : Type} {F : α → β → Prop} : ∀ {xs : List α} {ys : List β} {i : Nat} {a : α} {b : β}, Paired F xs ys → xs[i]? = some a → ys[i]? = some b → F a b
  | _, _, _, _, _, .nil, h, _ => by simp at h
  | _, _, 0, _, _, .cons r _, h, h' => by simp at h h'; subst h h'; exact r
  | _, _, i + 1, _, _, .cons _ t, h, h' => by simp at h h'; exact pair_get t h h'
theorem good_itm {f : Nat → Addr} {m : Sto} {H : Hp} {a : Addr} {od : Obj} {ws : List (Key × V)} {its : List (Key × PyData)} (e : H a = some (.frz od (.dK ws))) (na : ¬ Live f m a) (r : Paired (fun (p : Key × V) (q : Key × PyData) => p.1 = q.1 ∧ Rp H (Box A f m) p.2 q.2) ws its) :
    GoodIt A f m H (Iti a od ws) (its.map fun p => .tuple [keyD p.1, p.2], none) :=
  ⟨(fun l z => by cases z), fun Z2 f2 m2 H2 R k1 k2 => by
    have e2 := k1 a _ e na
    have hlen := Paired.length r
    have W := walk_items (d := a) (o := od) (kvs := ws)
    refine ⟨fun i hi => ?_, ?_, fun i x v H' hx hy => ?_⟩
    · have hi : i < (its.map fun p => PyData.tuple [keyD p.1, p.2]).length := hi
      rw [List.length_map, ← hlen] at hi
      exact W.goes i H2 hi e2
    · show Iti a od ws |>.stop (its.map fun p => PyData.tuple [keyD p.1, p.2]).length H2
      rw [List.length_map, ← hlen]
      exact W.stops H2 e2
    · have hx : (its.map fun p => PyData.tuple [keyD p.1, p.2])[i]? = some x := hx
      rw [List.getElem?_map] at hx
      obtain ⟨p, h2, rfl⟩ := Option.map_eq_some_iff.mp hx
      have hi : i < ws.length := by rw [hlen]; exact (List.getElem?_eq_some_iff.mp h2).1
      obtain ⟨T, y1, y2, rfl, hT, rfl, g1, g2⟩ := W.yields i H2 v H' hi e2 hy
      have hw : ws[i]? = some ws[i] := List.getElem?_eq_getElem hi
      have g1 : (ws[i]?.map fun kv => kV kv.1) = some y1 := g1
      have g2 : (ws[i]?.map Prod.snd) = some y2 := g2
      rw [hw] at g1 g2
      cases g1
      cases g2
      obtain ⟨q1, q2⟩ := pair_get r hw h2
      have q3 : Rp H2 (Box (A.z Z2) f2 m2) ws[i].2 p.2 := q2.keep (fun b o e nb => k1 b o e fun lv => nb (.inr lv)) k2
      refine ⟨up_new hT, .tup upd_same (R.nobox hT) (.cons ?_ (.cons ((up_new hT).rp q3) .nil))⟩
      show Rp _ _ (kV ws[i].1) (keyD p.1)
      rw [show ws[i].1 = p.1 from q1]
      cases p.1 with
      | inl i => exact .int i
      | inr s => exact .str s⟩
theorem k_itm {a : E} {x : Expr} {elts : List Expr} {kk : Nat} {tpos : Pos} {nm : Str} {p ap : Pos} (ok : OkX A c X n k W) (ha : PE X x (tE A W C a)) (hnm : (nm == ("items" : Str)) = true) (hl : (ap.endLine == p.line) = true) (hsu : noSuper x = true) :
    PI X (.Tuple elts kk tpos) (.Call (.Attribute x nm ap) [] [] p) (tI A W C (.itm a)) := by
  have en := eq_of_beq hnm
  subst en
  refine (pi_items (pe_frz ha) (noSuper_is hsu _ _ _) hl).imp fun σ H Q ⟨f, m, ρ, R, re, h⟩ => ⟨f, m, ρ, R, re, (Po.bind (Ra := RlV A (freshE a)) rlI_mono h).imp fun v H1 ⟨f1, m1, y, R1, F1, rx, h1⟩ => ?_⟩
  cases y with
  | ref l =>
    obtain ⟨rfl, hlt⟩ := rx.1
    cases em : m1[l]? with
    | none => simp only [em] at h1; exact h1.elim
    | some o =>
      simp only [em] at h1
      cases o with
      | dk kvs =>
        simp only at h1
        cases ei : itmD m1 kvs with
        | none => simp only [ei] at h1; exact h1.elim
        | some its =>
          simp only [ei] at h1
          obtain ⟨ws, ea, rw_⟩ := R1.ob l _ em
          refine ⟨f1 l, _, rfl, ea, True.intro, fun od => ⟨f1 l, od, ws, rfl, upd_same, ?_⟩⟩
          have iv := itm_vals (u := .frz od (.dK ws)) R1 em (fun z => nomatch z) (fun xs z => nomatch z) (ls := refsL kvs) (fun k hk => hk) rw_ ei
          obtain ⟨R2, F2⟩ := R1.kill (u := .frz od (.dK ws)) em (fun z => nomatch z)
          obtain ⟨R3, F3⟩ := R2.killM (ls := refsL kvs)
          refine h1 f1 _ _ R3 (F2.trans F3) (good_itm upd_same ?_ iv)
          rintro ⟨l2, o2, e2, n2, z⟩
          rcases killM_get e2 with h | ⟨h, e2⟩
          · exact n2 h
          · rcases get_lock e2 with ⟨_, rfl⟩ | ⟨h3, e2⟩
            · exact n2 rfl
            · exact h3 (R1.inj l2 l _ _ e2 em n2 (fun z => nomatch z) z)
      | _ => exact h1.elim
  | _ => exact h1.elim
theorem good_key {f : Nat → Addr} {m : Sto} {H : Hp} {a : Addr} {od : Obj} {ws : List (Key × V)} {ks : List Key} (e : H a = some (.frz od (.dK ws))) (na : ¬ Live f m a) (r : ws.map (·.1) = ks) :
    GoodIt A f m H (Itk a od ws) (ks.map keyD, none) :=
  ⟨(fun l z => by cases z), fun Z2 f2 m2 H2 R k1 k2 => by
    have e2 := k1 a _ e na
    have hlen : ws.length = ks.length := by rw [← r, List.length_map]
    have W := walk_keys (d := a) (o := od) (kvs := ws)
    refine ⟨fun i hi => ?_, ?_, fun i x v H' hx hy => ?_⟩
    · have hi : i < (ks.map keyD).length := hi
      rw [List.length_map, ← hlen] at hi
      exact W.goes i H2 hi e2
    · show Itk a od ws |>.stop (ks.map keyD).length H2
      rw [List.length_map, ← hlen]
      exact W.stops H2 e2
    · have hx : (ks.map keyD)[i]? = some x := hx
      rw [List.getElem?_map, ← r, List.getElem?_map] at hx
      obtain ⟨p, h2, rfl⟩ := Option.map_eq_some_iff.mp hx
      obtain ⟨q, h3, rfl⟩ := Option.map_eq_some_iff.mp h2
      obtain ⟨rfl, k, w, g1, rfl⟩ := W.yields i H2 v H' (List.getElem?_eq_some_iff.mp h3).1 e2 hy
      rw [h3] at g1
      cases g1
      refine ⟨fun _ _ e => e, ?_⟩
      cases k with
      | inl i => exact .int i
      | inr s => exact .str s⟩
theorem rp_keys {H : Hp} {B : Addr → Prop} : ∀ {ks : List Key}, RpAll H B (ks.map kV) (ks.map keyD)
  | [] => .nil
  | k :: ks => .cons (by cases k <;> first | exact .int _ | exact .str _) rp_keys
theorem good_keyT {f : Nat → Addr} {m : Sto} {H : Hp} {a : Addr} {od : Obj} {ws : List (List Key × V)} {ks : List (List Key)} (e : H a = some (.frz od (.dT ws))) (na : ¬ Live f m a) (r : ws.map (·.1) = ks) :
    GoodIt A f m H (Itkt a od ws) (ks.map (fun k => .tuple (k.map keyD)), none) :=
  ⟨(fun l z => by cases z), fun Z2 f2 m2 H2 R k1 k2 => by
    have e2 := k1 a _ e na
    have hlen : ws.length = ks.length := by rw [← r, List.length_map]
    have W := walk_keysT (d := a) (o := od) (kvs := ws)
    refine ⟨fun i hi => ?_, ?_, fun i x v H' hx hy => ?_⟩
    · have hi : i < (ks.map (fun k => PyData.tuple (k.map keyD))).length := hi
      rw [List.length_map, ← hlen] at hi
      exact W.goes i H2 hi e2
    · show Itkt a od ws |>.stop (ks.map (fun k => PyData.tuple (k.map keyD))).length H2
      rw [List.length_map, ← hlen]
      exact W.stops H2 e2
    · have hx : (ks.map (fun k => PyData.tuple (k.map keyD)))[i]? = some x := hx
      rw [List.getElem?_map, ← r, List.getElem?_map] at hx
      obtain ⟨p, h2, rfl⟩ := Option.map_eq_some_iff.mp hx
      obtain ⟨q, h3, rfl⟩ := Option.map_eq_some_iff.mp h2
      obtain ⟨rfl, k, w, b, g1, rfl, g2⟩ := W.yields i H2 v H' (List.getElem?_eq_some_iff.mp h3).1 e2 hy
      rw [h3] at g1
      cases g1
      exact ⟨fun _ _ e => e, .tup g2 (R.notup g2) rp_keys⟩⟩
theorem keys_eq {κ : Type} {f : Nat → Addr} {m : Sto} {H : Hp} : ∀ {ws : List (κ × V)} {kvs : List (κ × SV)}, Paired (fun (p : κ × V) (q : κ × SV) => p.1 = q.1 ∧ RpS A f m H p.2 q.2) ws kvs → ws.map (·.1) = kvs.map (·.1)
  | _, _, .nil => rfl
  | _, _, .cons r t => by rw [List.map_cons, List.map_cons, r.1, keys_eq t]
theorem k_key {a : E} {x : Expr} (ok : OkX A c X n k W) (ha : PE X x (tE A W C a)) : PI X tg x (tI A W C (.key a)) := by
  refine (pi_keys (pe_frz ha)).imp fun σ H Q ⟨f, m, ρ, R, re, h⟩ => ⟨f, m, ρ, R, re, (Po.bind (Ra := RlV A (freshE a)) rlI_mono h).imp fun v H1 ⟨f1, m1, y, R1, F1, rx, h1⟩ => ?_⟩
  have dead : ∀ {l : Nat} {o : Ob}, m1[l]? = some o → o ≠ .dead → ¬ Live f1 (m1.set l .dead) (f1 l) := fun {l o} em n => by
    rintro ⟨l2, o2, e2, n2, z⟩
    rcases get_lock e2 with ⟨_, rfl⟩ | ⟨h3, e2⟩
    · exact n2 rfl
    · exact h3 (R1.inj l2 l _ _ e2 em n2 n z)
  cases y with
  | ref l =>
    obtain ⟨rfl, hlt⟩ := rx.1
    cases em : m1[l]? with
    | none => simp only [em] at h1; exact h1.elim
    | some o =>
      simp only [em] at h1
      cases o with
      | dk kvs =>
        obtain ⟨ws, ea, rw_⟩ := R1.ob l _ em
        refine ⟨f1 l, _, rfl, ea, True.intro, fun od => ⟨f1 l, od, rfl, .inl ⟨ws, upd_same, ?_⟩⟩⟩
        obtain ⟨R2, F2⟩ := R1.kill (u := .frz od (.dK ws)) em (fun z => nomatch z)
        refine h1 f1 _ _ R2 F2 ?_
        have g := good_key (A := A) (f := f1) (m := m1.set l .dead) (H := upd H1 (f1 l) (.frz od (.dK ws))) (ks := kvs.map (·.1)) upd_same (dead em (fun z => nomatch z)) (keys_eq rw_)
        rw [List.map_map] at g
        exact g
      | dt kvs =>
        obtain ⟨ws, ea, rw_⟩ := R1.ob l _ em
        refine ⟨f1 l, _, rfl, ea, True.intro, fun od => ⟨f1 l, od, rfl, .inr ⟨ws, upd_same, ?_⟩⟩⟩
        obtain ⟨R2, F2⟩ := R1.kill (u := .frz od (.dT ws)) em (fun z => nomatch z)
        refine h1 f1 _ _ R2 F2 ?_
        have g := good_keyT (A := A) (f := f1) (m := m1.set l .dead) (H := upd H1 (f1 l) (.frz od (.dT ws))) (ks := kvs.map (·.1)) upd_same (dead em (fun z => nomatch z)) (keys_eq rw_)
        rw [List.map_map] at g
        exact g
      | _ => exact h1.elim
  | _ => exact h1.elim
/-! ### d.setdefault(key, other) -/
theorem k_dsd {d kk e : E} {x y z : Expr} {nm : Str} {p ap : Pos} (ok : OkX A c X n k W) (hd : PE X x (tE A W C d)) (hk : PE X y (tE A W C kk)) (he : PE X z (tE A W C e)) (hy : mE c kk y = true) (hz : mE c e z = true) (hnm : (nm == ("setdefault" : Str)) = true) (hl : (ap.endLine == p.line) = true) (hsu : noSuper x = true) :
    PE X (.Call (.Attribute x nm ap) [y, z] [] p) (tE A W C (.dsd d kk e)) := by
  have en := eq_of_beq hnm
  subst en
  have hes : mEs c (.cons kk (.cons e .nil)) [y, z] = true := by show (mE c kk y && (mE c e z && true)) = true; rw [hy, hz]; rfl
  have m2 : M2 X x "setdefault" ap y z p := ⟨noSuper_is hsu _ _ _, few_args hes p (by show 2 < 20; decide), hl, by rw [stars_of hes]; rfl⟩
  refine (pe_dsetd hd hk he m2).imp fun σ H Q ⟨f, m, ρ, R, re, h⟩ => ⟨f, m, ρ, R, re, (Po.bind (Ra := RlV A (freshE d)) rlV_mono h).imp fun v H1 ⟨f1, m1, x1, R1, F1, rx, h1⟩ => ?_⟩
  cases x1 with
  | ref l =>
    obtain ⟨rfl, hlt⟩ := rx.1
    have h1 : Po A W σ (RlV A false) f1 m1 H1 (if isDic m1[l]? then (ev C kk ρ m1).bind fun y m2 => (ev C e ρ m2).bind fun z m3 => match y with
      | .d kk => match m3[l]? with
        | some (.dk kvs) => match asK kk with
          | some ks => if fitsN (kvs.length + 1) then (match lkG kvs ks with
            | some v => .ok v m3
            | none => .ok z (m3.set l (.dk (ptG kvs ks z)))) else .bad
          | none => .bad
        | _ => .bad
      | _ => .bad
      else .bad) Q := h1
    split at h1
    case isFalse => exact h1.elim
    rename_i hdic
    refine ⟨f1 l, rfl, isDic_ok R1 hdic, f1, m1, ρ, R1, F1.re re, ?_⟩
    refine (Po.bind (Ra := RlV A (freshE kk)) rlV_mono h1).imp fun w H2 ⟨f2, m2, y1, R2, F2, ry, h2⟩ => ⟨f2, m2, ρ, R2, F2.re (F1.re re), ?_⟩
    refine (Po.bind (Ra := RlV A (freshE e)) rlV_mono h2).imp fun w2 H3 ⟨f3, m3, z1, R3, F3, rz, h3⟩ => ?_
    have hfl : f3 l = f1 l := by rw [F3.agree l (Nat.lt_of_lt_of_le hlt F2.len), F2.agree l hlt]
    cases y1 with
    | d k1 =>
      cases e3 : m3[l]? with
      | none => simp only [e3] at h3; exact h3.elim
      | some o =>
        simp only [e3] at h3
        cases o with
        | dk kvs =>
          simp only at h3
          cases ek : asK k1 with
          | none => simp only [ek] at h3; exact h3.elim
          | some ks =>
            simp only [ek] at h3
            obtain ⟨ws, ea, rk⟩ := R3.ob l _ e3
            have rk1 : Rp H3 (Box A f3 m3) w k1 := F3.rpS ry.1
            have lk := lk_ok (k := ks) rk
            rw [hfl] at ea
            have keepS : ∀ {o o' : Ob} {u : HO}, m3[l]? = some o → o ≠ .dead → o' ≠ .dead → ∀ {v : V} {x : SV}, RpS A f3 m3 H3 v x → RpS A f3 (m3.set l o') (upd H3 (f3 l) u) v x := fun {o o' u} e n n' {v x} r => by
              obtain ⟨hk, hb⟩ := upd_up (o' := o') (u := u) R3 e n n'
              exact rpS_keep (Z' := A.Z) (fun b o e n => hk b o e fun z => n (.inr z)) (fun b o e n z => n (z.elim .inl fun z => .inr ((hb b).mp z))) (by rw [List.length_set]; exact Nat.le_refl _) (fun _ _ => rfl) r
            split at h3
            case isFalse => exact h3.elim
            rename_i hf
            have hsz : ws.length < sizeLine := by
              have := fits_le hf
              rw [dpair_len rk]; omega
            cases el : lkG kvs ks with
            | some xv =>
              simp only [el] at h3
              rw [el] at lk
              cases hv : valV ws ks with
              | none => rw [hv] at lk; exact lk.elim
              | some v =>
                rw [hv] at lk
                exact ⟨ws, ks, ea, asK_ok rk1 ek, hsz, fun v' e' => (by rw [hv] at e'; cases e'; exact h3 f3 H3 _ R3 Fra.refl ⟨lk, fun z => nomatch z⟩), fun e' => (by rw [hv] at e'; cases e')⟩
            | none =>
              simp only [el] at h3
              rw [el] at lk
              cases hv : valV ws ks with
              | some v => rw [hv] at lk; exact lk.elim
              | none =>
                refine ⟨ws, ks, ea, asK_ok rk1 ek, hsz, (fun v' e' => by rw [hv] at e'; cases e'), fun _ => ?_⟩
                obtain ⟨R', F'⟩ := R3.put (o' := .dk (ptG kvs ks z1)) (u := .dK (putK ws ks w2)) e3 (fun z => nomatch z) (fun z => nomatch z) ⟨_, upd_same, Paired.mapP (pt_ok (k := ks) rz.1 rk) fun p q h => ⟨h.1, keepS (o' := .dk (ptG kvs ks z1)) (u := .dK (putK ws ks w2)) e3 (fun z => nomatch z) (fun z => nomatch z) h.2⟩⟩
                have kv := keepS (o' := .dk (ptG kvs ks z1)) (u := .dK (putK ws ks w2)) e3 (fun z => nomatch z) (fun z => nomatch z) rz.1
                rw [hfl] at R' F' kv
                exact h3 f3 _ w2 R' F' ⟨kv, fun z => nomatch z⟩
        | _ => exact h3.elim
    | _ => exact h3.elim
  | _ => exact h1.elim
end
end Pil

set_option Elab.async false
set_option linter.all false
set_option autoImplicit false
set_option maxRecDepth 100000
set_option maxHeartbeats 4000000
namespace Pil
open PySem PySem.Spec PyProof.Rows L2

/-! ### every expression that the checker lets through -/
theorem OkX.z {A : Ads} {c : Ctx} {X : Cx} {n k : Nat} {W : WX} (ok : OkX A c X n k W) (Z : Addr → Prop) : OkX (A.z Z) c X n k W := ⟨ok.N, ok.sc, ok.nd, ok.calm, ok.K, ok.room, ok.gd, ok.take, ok.po, ok.st, ok.blt, ok.gc, ok.fn⟩
def isSet : Expr → Bool
  | .Set .. => true
  | _ => false
theorem mE_set (c : Ctx) {x : Expr} (h : isSet x = true) : ∀ e : E, mE c e x = false := by
  intro e
  cases x <;> cases h
  induction e using E.rec (motive_2 := fun _ => True) (motive_3 := fun _ => True) (motive_4 := fun _ => True) <;> first
    | exact True.intro
    | rfl
    | assumption
theorem folded_of {x : Expr} (h : isSet x = false) (env : Env) (v : Value) : foldedSetIterable x env v = pure v := by
  cases x <;> first
    | rfl
    | cases h
theorem mIt_set {c : Ctx} {it : It} {tg x : Expr} (h : mIt c it tg x = true) : isSet x = false := by
  cases hx : isSet x with
  | false => rfl
  | true =>
    cases it with
    | seq e => rw [show mIt c (.seq e) tg x = mE c e x from rfl, mE_set c hx] at h; cases h
    | key e => rw [show mIt c (.key e) tg x = mE c e x from rfl, mE_set c hx] at h; cases h
    | _ => cases x <;> cases hx <;> cases tg <;> cases h
theorem plain_star {c : Ctx} {e : E} {x : Expr} (h : mE c e x = true) (xs : List Expr) (env : Env) : starEach (x :: xs) env = (false, eval x env) :: starEach xs env := star_of h xs env
section
def GE (e : E) : Prop := ∀ (A : Ads) (c : Ctx) (X : Cx) (n k : Nat) (W : WX) (x : Expr), OkX A c X n k W → mE c e x = true → (∀ Z, PE X x (tE (A.z Z) W (callI c.G n) e)) ∧ (tst e = true → ∀ Z, PT X x (tT (A.z Z) W (callI c.G n) e))
def GEs (es : Es) : Prop := ∀ (A : Ads) (c : Ctx) (X : Cx) (n k : Nat) (W : WX) (xs : List Expr), OkX A c X n k W → mEs c es xs = true → (∀ Z, PA X xs (tA (A.z Z) W (callI c.G n) es)) ∧ (∀ pos ks keys, mK ks keys = true → keys.length = xs.length → PPs X pos keys xs (trsOf A W (callI c.G n) ks es)) ∧ esLen es = xs.length
def GEo (e : Eo) : Prop := ∀ (A : Ads) (c : Ctx) (X : Cx) (n k : Nat) (W : WX), OkX A c X n k W → (∀ x, mEo c e x = true → ∀ Z, PO X x (tO (A.z Z) W (callI c.G n) e)) ∧ (∀ xs, mEt c e xs = true → ∀ Z, PTs X xs (tTo (A.z Z) W (callI c.G n) e))
def GIt (it : It) : Prop := ∀ (A : Ads) (c : Ctx) (X : Cx) (n k : Nat) (W : WX) (tg x : Expr), OkX A c X n k W → mIt c it tg x = true → ∀ Z, PI X tg x (tI (A.z Z) W (callI c.G n) it)
theorem GE.mk1 {A : Ads} {c : Ctx} {X : Cx} {n k : Nat} {W : WX} {x : Expr} {e : E} (ok : OkX A c X n k W) (h : ∀ Z, PE X x (tE (A.z Z) W (callI c.G n) e)) (hp : plainT x = true) : (∀ Z, PE X x (tE (A.z Z) W (callI c.G n) e)) ∧ (tst e = true → ∀ Z, PT X x (tT (A.z Z) W (callI c.G n) e)) := ⟨h, fun _ Z => k_plainT (ok.z Z) (h Z) hp⟩
theorem mK_some : ∀ {ks : List Str} {keys : List (Option Expr)}, mK ks keys = true → keys.all (·.isSome) = true ∧ ks.length = keys.length
  | [], [], _ => ⟨rfl, rfl⟩
  | [], _ :: _, h => by cases h
  | _ :: _, [], h => by cases h
  | k :: ks, none :: _, h => by cases h
  | k :: ks, some x :: keys, h => by
    unfold mK at h
    split at h
    · rename_i e1 e2; cases e1
    · rename_i e1 e2
      cases e1; cases e2
      rw [Bool.and_eq_true] at h
      obtain ⟨h1, h2⟩ := mK_some h.2
      exact ⟨by rw [List.all_cons, h1]; rfl, by rw [List.length_cons, List.length_cons, h2]⟩
    · cases h
mutual
theorem sE : ∀ e : E, GE e
  | .var i => fun A c X n k W x ok h => by
    simp only [mE] at h
    split at h
    case h_2 => cases h
    simp only [Bool.and_eq_true] at h
    exact GE.mk1 ok (fun Z => k_var (ok.z Z) (eq_of_beq h.1.1) h.1.2 h.2) rfl
  | .cst k' => fun A c X n k W x ok h => by
    simp only [mE] at h
    split at h
    case h_2 => cases h
    simp only [Bool.and_eq_true] at h
    obtain ⟨h1, h2⟩ := h
    have h1 := eq_of_beq h1
    subst h1
    exact GE.mk1 ok (fun Z => k_cst h2) rfl
  | .gcs y k' => fun A c X n k W x ok h => by
    simp only [mE] at h
    split at h
    case h_2 => cases h
    simp only [Bool.and_eq_true] at h
    obtain ⟨⟨⟨⟨h1, h2⟩, h3⟩, h4⟩, h5⟩ := h
    have h1 := eq_of_beq h1
    subst h1
    exact GE.mk1 ok (fun Z => k_gcs (ok.z Z) h2 h3 (eq_of_beq h4) h5) rfl
  | .bin o a b => fun A c X n k W x ok h => by
    simp only [mE] at h
    split at h
    case h_2 => cases h
    simp only [Bool.and_eq_true] at h
    obtain ⟨⟨h1, h2⟩, h3⟩ := h
    have h1 := eq_of_beq h1
    subst h1
    exact GE.mk1 ok (fun Z => k_bin (ok.z Z) ((sE a A c X n k W _ ok h2).1 Z) ((sE b A c X n k W _ ok h3).1 Z)) rfl
  | .neg a => fun A c X n k W x ok h => by
    simp only [mE] at h
    split at h
    case h_2 => cases h
    exact GE.mk1 ok (fun Z => k_neg ((sE a A c X n k W _ ok h).1 Z)) rfl
  | .nt a => fun A c X n k W x ok h => by
    simp only [mE] at h
    split at h
    case h_2 => cases h
    exact ⟨fun Z => k_nt (ok.z Z) ((sE a A c X n k W _ ok h).1 Z), fun t Z => k_ntT ((sE a A c X n k W _ ok h).2 t Z)⟩
  | .and2 a b => fun A c X n k W x ok h => by
    simp only [mE] at h
    split at h
    · rw [Bool.and_eq_true] at h
      have ha := sE a A c X n k W _ ok h.1
      have hb := sE b A c X n k W _ ok h.2
      refine ⟨fun Z => k_and (ha.1 Z) (pe_one (hb.1 Z)), fun t Z => ?_⟩
      have t : (tst a && tst b) = true := t
      rw [Bool.and_eq_true] at t
      exact k_andT (ha.2 t.1 Z) (pw_and1 (hb.2 t.2 Z))
    · rw [Bool.and_eq_true] at h
      have ha := sE a A c X n k W _ ok h.1
      have hb := sE b A c X n k W _ ok h.2
      refine ⟨fun Z => k_and (ha.1 Z) (hb.1 Z), fun t Z => ?_⟩
      have t : (tst a && tst b) = true := t
      rw [Bool.and_eq_true] at t
      exact k_andT (ha.2 t.1 Z) (pw_of (hb.2 t.2 Z))
    · cases h
  | .or2 a b => fun A c X n k W x ok h => by
    simp only [mE] at h
    split at h
    · rw [Bool.and_eq_true] at h
      have ha := sE a A c X n k W _ ok h.1
      have hb := sE b A c X n k W _ ok h.2
      refine ⟨fun Z => k_or (ha.1 Z) (pe_one (hb.1 Z)), fun t Z => ?_⟩
      have t : (tst a && tst b) = true := t
      rw [Bool.and_eq_true] at t
      exact k_orT (ha.2 t.1 Z) (pw_or1 (hb.2 t.2 Z))
    · rw [Bool.and_eq_true] at h
      have ha := sE a A c X n k W _ ok h.1
      have hb := sE b A c X n k W _ ok h.2
      refine ⟨fun Z => k_or (ha.1 Z) (hb.1 Z), fun t Z => ?_⟩
      have t : (tst a && tst b) = true := t
      rw [Bool.and_eq_true] at t
      exact k_orT (ha.2 t.1 Z) (pw_of (hb.2 t.2 Z))
    · cases h
  | .cmp o a b => fun A c X n k W x ok h => by
    simp only [mE] at h
    split at h
    case h_2 => cases h
    simp only [Bool.and_eq_true] at h
    obtain ⟨⟨⟨h1, h2⟩, h3⟩, h4⟩ := h
    have h1 := eq_of_beq h1
    subst h1
    have ha := (sE a A c X n k W _ ok h2).1
    have hb := (sE b A c X n k W _ ok h3).1
    exact ⟨fun Z => k_cmp (ok.z Z) (ha Z) (hb Z) h4, fun _ Z => k_cmpT (ok.z Z) (ha Z) (hb Z) h4⟩
  | .cmp2 o p a b d => fun A c X n k W x ok h => by
    simp only [mE] at h
    split at h
    case h_2 => cases h
    simp only [Bool.and_eq_true] at h
    obtain ⟨⟨⟨⟨⟨⟨h0, h1⟩, h2⟩, h3⟩, h4⟩, h5⟩, h6⟩ := h
    have h0 := eq_of_beq h0
    have h1 := eq_of_beq h1
    subst h0 h1
    have ha := (sE a A c X n k W _ ok h2).1
    have hb := (sE b A c X n k W _ ok h3).1
    have hd := (sE d A c X n k W _ ok h4).1
    exact ⟨fun Z => k_cmp2 (ok.z Z) (ha Z) (hb Z) (hd Z) h6, fun _ Z => k_cmp2T (ok.z Z) (ha Z) (hb Z) (hd Z) h6⟩
  | .ite d a b => fun A c X n k W x ok h => by
    simp only [mE] at h
    split at h
    case h_2 => cases h
    simp only [Bool.and_eq_true] at h
    obtain ⟨⟨⟨h1, h2⟩, h3⟩, h4⟩ := h
    have hd := (sE d A c X n k W _ ok h2).2 h1
    have ha := (sE a A c X n k W _ ok h3).1
    have hb := (sE b A c X n k W _ ok h4).1
    exact ⟨fun Z => k_ite (hd Z) (ha Z) (hb Z), fun t => by cases t⟩
  | .tup es => fun A c X n k W x ok h => by
    simp only [mE] at h
    split at h
    case h_2 => cases h
    exact GE.mk1 ok (fun Z => k_tup ((sEs es A c X n k W _ ok h).1 Z)) rfl
  | .lst es => fun A c X n k W x ok h => by
    simp only [mE] at h
    split at h
    case h_2 => cases h
    exact GE.mk1 ok (fun Z => k_lst ((sEs es A c X n k W _ ok h).1 Z)) rfl
  | .rcd ks es => fun A c X n k W x ok h => by
    simp only [mE] at h
    split at h
    case h_2 => cases h
    simp only [Bool.and_eq_true, decide_eq_true_eq, Bool.not_eq_true'] at h
    obtain ⟨⟨⟨⟨⟨h1, h2⟩, h3⟩, h4⟩, h5⟩, h6⟩ := h
    obtain ⟨m1, m2⟩ := mK_some h2
    exact GE.mk1 ok (fun Z => by
      obtain ⟨_, q2, q3⟩ := sEs es (A.z Z) c X n k W _ (ok.z Z) h6
      exact k_rcd (q2 _ _ _ h2 h3) m1 h3 (fun z => by rw [z] at h1; cases h1) m2 q3 h4 h5) rfl
  | .idx a i => fun A c X n k W x ok h => by
    simp only [mE] at h
    split at h
    case h_2 => cases h
    simp only [Bool.and_eq_true] at h
    exact GE.mk1 ok (fun Z => k_idx (ok.z Z) ((sE a A c X n k W _ ok h.1.2).1 Z) ((sE i A c X n k W _ ok h.2).1 Z) h.1.1) rfl
  | .slc a lo hi => fun A c X n k W x ok h => by
    simp only [mE] at h
    split at h
    case h_2 => cases h
    simp only [Bool.and_eq_true] at h
    exact GE.mk1 ok (fun Z => k_slc (ok.z Z) ((sE a A c X n k W _ ok h.1.1).1 Z) ((sEo lo A c X n k W ok).1 _ h.1.2 Z) ((sEo hi A c X n k W ok).1 _ h.2 Z)) rfl
  | .rev a => fun A c X n k W x ok h => by
    simp only [mE] at h
    split at h
    case h_2 => cases h
    simp only [Bool.and_eq_true] at h
    exact GE.mk1 ok (fun Z => k_rev (ok.z Z) ((sE a A c X n k W _ ok h.2).1 Z) h.1) rfl
  | .box e => fun A c X n k W x ok h => ⟨fun Z => k_box ((sE e A c X n k W x ok h).1 Z), fun t => by cases t⟩
  | .call g es => fun A c X n k W x ok h => by
    simp only [mE] at h
    split at h
    case h_2 => cases h
    simp only [Bool.and_eq_true] at h
    obtain ⟨⟨⟨h1, h2⟩, h3⟩, h4⟩ := h
    obtain ⟨F, hF, e⟩ := Option.map_eq_some_iff.mp (eq_of_beq h1)
    subst e
    have he := stars_of h4 X.env
    have hm : ∃ e es', es = .cons e es' := by
      cases es with
      | nil => cases h4
      | cons e es' => exact ⟨e, es', rfl⟩
    obtain ⟨e0, es0, ees⟩ := hm
    have h4' := h4
    rw [ees] at h4'
    rw [show ∀ y xs, mEs c (.cons e0 es0) (y :: xs) = (mE c e0 y && mEs c es0 xs) from fun _ _ => rfl, Bool.and_eq_true] at h4'
    exact GE.mk1 ok (fun Z => k_call (ok.z Z) hF h2 h3 ((sEs es A c X n k W _ ok h4).1 Z) (star_of h4'.1 _ _) (by rw [stars_of h4'.2]; exact plain_any _)) rfl
  | .blt q es => fun A c X n k W x ok h => by
    simp only [mE] at h
    split at h
    case h_2 => cases h
    simp only [Bool.and_eq_true] at h
    obtain ⟨⟨h1, h2⟩, h3⟩ := h
    exact GE.mk1 ok (fun Z => k_blt (ok.z Z) h1 h2 ((sEs es A c X n k W _ ok h3).1 Z) (stars_of h3)) rfl
  | .mth q o es => fun A c X n k W x ok h => by
    simp only [mE] at h
    split at h
    case h_2 => cases h
    simp only [Bool.and_eq_true, decide_eq_true_eq] at h
    obtain ⟨⟨⟨⟨⟨h1, h2⟩, h3⟩, h4⟩, h5⟩, h6⟩ := h
    exact GE.mk1 ok (fun Z => k_mth (ok.z Z) ((sE o A c X n k W _ ok h5).1 Z) ((sEs es A c X n k W _ ok h6).1 Z) h6 h1 h2 h3 h4) rfl
  | .isi a t => fun A c X n k W x ok h => by
    simp only [mE] at h
    split at h
    case h_2 => cases h
    simp only [Bool.and_eq_true] at h
    obtain ⟨⟨⟨⟨h1, h2⟩, h3⟩, h4⟩, h5⟩ := h
    exact GE.mk1 ok (fun Z => k_isi (ok.z Z) ((sE a A c X n k W _ ok h5).1 Z) (star_of h5) h1 h2 h3 h4) rfl
  | .comp own t it d e => fun A c X n k W x ok h => by
    simp only [mE] at h
    split at h
    case h_2 => cases h
    simp only [Bool.and_eq_true] at h
    obtain ⟨⟨⟨⟨⟨⟨h1, h2⟩, h3⟩, h4⟩, h5⟩, h6⟩, h7⟩ := h
    exact GE.mk1 ok (fun Z => k_comp (ok.z Z) (eq_of_beq h1) h2 h3 h4 (sIt it A c X n k W _ _ ok h5 Z) (folded_of (mIt_set h5) _)
      (fun X' ok' Z' => (sEo d (A.z Z) _ X' n k W0 ok').2 _ h6 Z') fun X' ok' Z' => (sE e (A.z Z) _ X' n k W0 _ ok' h7).1 Z') rfl
  | .ext o e => fun A c X n k W x ok h => by
    simp only [mE] at h
    split at h
    case h_2 => cases h
    simp only [Bool.and_eq_true] at h
    obtain ⟨⟨⟨⟨h1, h2⟩, h3⟩, h4⟩, h5⟩ := h
    exact GE.mk1 ok (fun Z => k_ext (ok.z Z) ((sE o A c X n k W _ ok h4).1 Z) ((sE e A c X n k W _ ok h5).1 Z) h5 h1 h2 h3) rfl
  | .dnw t => fun A c X n k W x ok h => by
    simp only [mE] at h
    split at h
    case h_2 => cases h
    exact GE.mk1 ok (fun Z => k_dnw) rfl
  | .dget d kk e => fun A c X n k W x ok h => by
    simp only [mE] at h
    split at h
    case h_2 => cases h
    simp only [Bool.and_eq_true] at h
    obtain ⟨⟨⟨⟨⟨h1, h2⟩, h3⟩, h4⟩, h5⟩, h6⟩ := h
    exact GE.mk1 ok (fun Z => k_dget (ok.z Z) ((sE d A c X n k W _ ok h4).1 Z) ((sE kk A c X n k W _ ok h5).1 Z) ((sE e A c X n k W _ ok h6).1 Z) h5 h6 h1 h2 h3) rfl
  | .dpop d kk e => fun A c X n k W x ok h => by
    simp only [mE] at h
    split at h
    case h_2 => cases h
    simp only [Bool.and_eq_true] at h
    obtain ⟨⟨⟨⟨⟨h1, h2⟩, h3⟩, h4⟩, h5⟩, h6⟩ := h
    exact GE.mk1 ok (fun Z => k_dpop (ok.z Z) ((sE d A c X n k W _ ok h4).1 Z) ((sE kk A c X n k W _ ok h5).1 Z) ((sE e A c X n k W _ ok h6).1 Z) h5 h6 h1 h2 h3) rfl
  | .dsd d kk e => fun A c X n k W x ok h => by
    simp only [mE] at h
    split at h
    case h_2 => cases h
    simp only [Bool.and_eq_true] at h
    obtain ⟨⟨⟨⟨⟨h1, h2⟩, h3⟩, h4⟩, h5⟩, h6⟩ := h
    exact GE.mk1 ok (fun Z => k_dsd (ok.z Z) ((sE d A c X n k W _ ok h4).1 Z) ((sE kk A c X n k W _ ok h5).1 Z) ((sE e A c X n k W _ ok h6).1 Z) h5 h6 h1 h2 h3) rfl
  | .din neg kk d => fun A c X n k W x ok h => by
    simp only [mE] at h
    split at h
    case h_2 => cases h
    simp only [Bool.and_eq_true] at h
    obtain ⟨⟨⟨h1, h2⟩, h3⟩, h4⟩ := h
    have h1 := eq_of_beq h1
    subst h1
    have ha := (sE kk A c X n k W _ ok h2).1
    have hb := (sE d A c X n k W _ ok h3).1
    exact ⟨fun Z => k_din (ok.z Z) (ha Z) (hb Z) h4, fun _ Z => k_dinT (ok.z Z) (ha Z) (hb Z) h4⟩
  | .dof t e => fun A c X n k W x ok h => by
    simp only [mE] at h
    split at h
    case h_2 => cases h
    simp only [Bool.and_eq_true] at h
    obtain ⟨⟨⟨h1, h2⟩, h3⟩, h4⟩ := h
    subst h1
    exact GE.mk1 ok (fun Z => k_dof (ok.z Z) h2 h3 ((sE e A c X n k W _ ok h4).1 Z) h4) rfl
  | .skd e => fun A c X n k W x ok h => by
    simp only [mE] at h
    split at h
    case h_2 => cases h
    simp only [Bool.and_eq_true] at h
    exact GE.mk1 ok (fun Z => k_skd (ok.z Z) h.1.1 h.1.2 ((sE e A c X n k W _ ok h.2).1 Z) h.2) rfl
  | .sid e => fun A c X n k W x ok h => by
    simp only [mE] at h
    cases h
theorem sEs : ∀ es : Es, GEs es
  | .nil => fun A c X n k W xs ok h => by
    cases xs with
    | cons _ _ => cases h
    | nil => exact ⟨fun Z => k_nil, (fun pos ks keys hk hl => by
        cases keys with
        | cons _ _ => cases hl
        | nil =>
          cases ks with
          | cons _ _ => cases hk
          | nil => exact pps_nil), rfl⟩
  | .cons e es => fun A c X n k W xs ok h => by
    cases xs with
    | nil => cases h
    | cons x xs =>
      have h : (mE c e x && mEs c es xs) = true := h
      rw [Bool.and_eq_true] at h
      have he := (sE e A c X n k W _ ok h.1).1
      obtain ⟨h1, h2, h3⟩ := sEs es A c X n k W _ ok h.2
      refine ⟨fun Z => k_cons (he Z) (h1 Z) (fun env => star_of h.1 xs env), fun pos ks keys hk hl => ?_, by rw [List.length_cons, ← h3]; rfl⟩
      cases keys with
      | nil => cases hl
      | cons ky keys =>
        cases ks with
        | nil => cases hk
        | cons k0 ks =>
          unfold mK at hk
          split at hk
          · rename_i e1 e2; cases e1
          · rename_i e1 e2
            cases e1; cases e2
            rw [Bool.and_eq_true] at hk
            have e3 := eq_of_beq hk.1
            subst e3
            exact pps_cons pe_str ⟨fun pins s σ H Q I ⟨Z, q⟩ => (he Z).run pins s σ H Q I q⟩ (h2 pos ks keys hk.2 (Nat.succ.inj hl))
          · cases hk
theorem sEo : ∀ e : Eo, GEo e
  | .none => fun A c X n k W ok => ⟨(fun x h Z => by
      cases x with
      | none => exact k_onone
      | some _ => cases h), (fun xs h Z => by
      cases xs with
      | nil => exact k_tnone
      | cons _ _ => cases h)⟩
  | .some e => fun A c X n k W ok => ⟨(fun x h Z => by
      cases x with
      | none => cases h
      | some x => exact k_osome ((sE e A c X n k W x ok h).1 Z)), (fun xs h Z => by
      simp only [mEt] at h
      split at h
      case h_2 => cases h
      rw [Bool.and_eq_true] at h
      exact k_tsome ((sE e A c X n k W _ ok h.2).2 h.1 Z))⟩
theorem sIt : ∀ it : It, GIt it
  | .seq e => fun A c X n k W tg x ok h Z => k_seq ((sE e A c X n k W x ok h).1 Z)
  | .rng1 e => fun A c X n k W tg x ok h Z => by
    simp only [mIt] at h
    split at h
    case h_2 => cases h
    simp only [Bool.and_eq_true] at h
    exact k_rng1 (ok.z Z) h.1.1 h.1.2 ((sE e A c X n k W _ ok h.2).1 Z) (star_of h.2)
  | .rng2 a b => fun A c X n k W tg x ok h Z => by
    simp only [mIt] at h
    split at h
    case h_2 => cases h
    simp only [Bool.and_eq_true] at h
    exact k_rng2 (ok.z Z) h.1.1.1 h.1.1.2 ((sE a A c X n k W _ ok h.1.2).1 Z) ((sE b A c X n k W _ ok h.2).1 Z) (star_of h.1.2) (star_of h.2)
  | .zip a b => fun A c X n k W tg x ok h Z => by
    simp only [mIt] at h
    split at h
    case h_2 => cases h
    simp only [Bool.and_eq_true] at h
    exact k_zip (ok.z Z) h.1.1.1 h.1.1.2 ((sE a A c X n k W _ ok h.1.2).1 Z) ((sE b A c X n k W _ ok h.2).1 Z) (star_of h.1.2) (star_of h.2)
  | .enm a => fun A c X n k W tg x ok h Z => by
    simp only [mIt] at h
    split at h
    case h_2 => cases h
    simp only [Bool.and_eq_true] at h
    exact k_enm (ok.z Z) h.1.1 h.1.2 ((sE a A c X n k W _ ok h.2).1 Z) (star_of h.2)
  | .itm a => fun A c X n k W tg x ok h Z => by
    simp only [mIt] at h
    split at h
    case h_2 => cases h
    simp only [Bool.and_eq_true] at h
    exact k_itm (ok.z Z) ((sE a A c X n k W _ ok h.2).1 Z) h.1.1.1 h.1.1.2 h.1.2
  | .key a => fun A c X n k W tg x ok h Z => k_key (ok.z Z) ((sE a A c X n k W x ok h).1 Z)
end
end
end Pil

set_option Elab.async false
set_option linter.all false
set_option autoImplicit false
set_option maxRecDepth 100000
set_option maxHeartbeats 4000000
namespace Pil
open PySem PySem.Spec PyProof.Rows L2

/-! ### statements beside their terms -/
def isLC : Expr → Bool
  | .ListComp .. => true
  | .SetComp .. => true
  | .DictComp .. => true
  | _ => false
def noTup : Expr → Bool
  | .Tuple vs _ _ => vs.all (foldedForSure 8)
  | _ => true
def isTup : Expr → Bool
  | .Tuple .. => true
  | _ => false
def parOk (u v : Expr) : Bool := !(foldedForSure 8 u && foldedForSure 8 v) && !(constantsAlone 8 u && constantsAlone 8 v)
mutual
def mS (c : Ctx) : S → Stmt → Bool
  | .set i e, st => match st with
    | .Assign [.Name x _] v _ => c.N[i]? == some x && c.loc x && mE c e v
    | _ => false
  | .asg t e, st => match st with
    | .Assign [tg] v _ => isTup tg && mTg c t tg && mE c e v && noTup v
    | _ => false
  | .par i j a b, st => match st with
    | .Assign [.Tuple [.Name x px, .Name y py] _ _] (.Tuple [u, v] _ _) _ => c.N[i]? == some x && c.N[j]? == some y && decide (i ≠ j) && c.sc.kind == .function && c.sc.names.lookup x == some .local && c.sc.names.lookup y == some .local && px.line == py.line && decide (x ≠ y) && parOk u v && mE c a u && mE c b v
    | _ => false
  | .sti o i e, st => match st with
    | .Assign [.Subscript a b _] v _ => noSlice b && mE c o a && mE c i b && mE c e v
    | _ => false
  | .expr e, st => match st with
    | .Expr v _ => mE c e v && !isLC v
    | _ => false
  | .iff d a b, st => match st with
    | .If t p q _ => tst d && mE c d t && mSs c a p && mSs c b q
    | _ => false
  | .for_ t kill it b, st => match st with
    | .For tg iter body [] _ => mTg c t tg && mIt c it tg iter && mSs c b body
    | _ => false
  | .whl d kill b, st => match st with
    | .While t body [] _ => tst d && mE c d t && mSs c b body
    | _ => false
  | .ret e, st => match st with
    | .Return (some v) _ => mE c e v
    | _ => false
  | .pass, st => match st with
    | .Pass _ => true
    | _ => false
def mSs (c : Ctx) : Ss → List Stmt → Bool
  | .nil, xs => match xs with
    | [] => true
    | _ => false
  | .cons s ss, xs => match xs with
    | x :: xs => mS c s x && mSs c ss xs
    | _ => false
end

/-! ### what is wanted behind a statement -/
def PoF (A : Ads) (W : WX) (f : Nat → Addr) (m : Sto) (H : Hp) (F : Fl) (D : Ends) : Prop := match F with
  | .bad => False
  | .next r m' => ∀ f' H' σ', RS A f' m' H' → Fra f m H f' m' H' → RE A f' m' H' σ' r → D.nx σ' H'
  | .ret x m' => ∀ f' H' v, RS A f' m' H' → Fra f m H f' m' H' → RlV A true H f' m' H' v x → D.rt v H'
  | .brk r m' => ∀ f' H' σ', RS A f' m' H' → Fra f m H f' m' H' → RE A f' m' H' σ' r → D.bk σ' H'
  | .cont r m' => ∀ f' H' σ', RS A f' m' H' → Fra f m H f' m' H' → RE A f' m' H' σ' r → D.ct σ' H'
  | .exc x r m' => ∀ f' H' σ' cl d, RS A f' m' H' → Fra f m H f' m' H' → RE A f' m' H' σ' r → ExcR A H' cl d x → W cl d σ' H'
def tS (A : Ads) (W : WX) (C : Nat → List SV → Sto → Out SV) (s : S) : TS := fun D σ H => ∃ f m ρ, RS A f m H ∧ RE A f m H σ ρ ∧ PoF A W f m H (ex C s ρ m) D
def tSs (A : Ads) (W : WX) (C : Nat → List SV → Sto → Out SV) (s : Ss) : TS := fun D σ H => ∃ f m ρ, RS A f m H ∧ RE A f m H σ ρ ∧ PoF A W f m H (exs C s ρ m) D
section
variable {A : Ads} {c : Ctx} {X : Cx} {n k : Nat} {W : WX} {C : Nat → List SV → Sto → Out SV} {f f1 : Nat → Addr} {m m1 : Sto} {H H1 : Hp} {σ : L2.St} {ρ : Rho} {D : Ends}
theorem PoF.start {F : Fl} (G : Fra f m H f1 m1 H1) (h : PoF A W f m H F D) : PoF A W f1 m1 H1 F D := by
  cases F with
  | bad => exact h
  | next r m' => exact fun f' H' s a b c => h f' H' s a (G.trans b) c
  | ret r m' => exact fun f' H' s a b c => h f' H' s a (G.trans b) (rlV_mono _ _ _ _ _ _ _ G.mono c)
  | brk r m' => exact fun f' H' s a b c => h f' H' s a (G.trans b) c
  | cont r m' => exact fun f' H' s a b c => h f' H' s a (G.trans b) c
  | exc x r m' => exact fun f' H' s cl d a b c e => h f' H' s cl d a (G.trans b) c e
theorem PoF.bind {α β : Type} {Ra : Rel α β} {r : Out α} {K : α → Sto → Fl} (re : RE A f m H σ ρ) (h : PoF A W f m H (Fl.of r ρ K) D) :
    Po A W σ Ra f m H r fun v H1 => ∃ f1 m1 x, RS A f1 m1 H1 ∧ Fra f m H f1 m1 H1 ∧ Ra H f1 m1 H1 v x ∧ PoF A W f1 m1 H1 (K x m1) D := by
  cases r with
  | bad => exact h
  | ok x m' => exact fun f' H' v a b c => ⟨f', m', x, a, b, c, PoF.start b h⟩
  | exc x m' => exact fun f' H' cl d a b c => h f' H' σ cl d a b (b.re re) c
/-- the flow of a loop's body -/
theorem PoF.loop {F : Fl} {K : Rho → Sto → Fl} {N : L2.St → Hp → Prop} (hN : ∀ f' m' r' H' σ', RS A f' m' H' → Fra f m H f' m' H' → RE A f' m' H' σ' r' → PoF A W f' m' H' (K r' m') D → N σ' H')
    (h : PoF A W f m H (match F with
      | .next r' m' => K r' m'
      | .cont r' m' => K r' m'
      | .brk r' m' => .next r' m'
      | .ret x m' => .ret x m'
      | .exc x r' m' => .exc x r' m'
      | .bad => .bad) D) : PoF A W f m H F { D with nx := N, ct := N, bk := D.nx } := by
  cases F with
  | bad => exact h
  | next r m' => exact fun f' H' s a b c => hN _ _ _ _ _ a b c (PoF.start b h)
  | ret r m' => exact h
  | brk r m' => exact h
  | cont r m' => exact fun f' H' s a b c => hN _ _ _ _ _ a b c (PoF.start b h)
  | exc x r m' => exact h
theorem fresh_open {kl : Option Nat} {xs : List PyData} {f2 : Nat → Addr} {m2 : Sto} {H2 : Hp} (R : RS A f m H) (hk : ∀ l, kl = some l → m[l]? = some (.lst xs)) (F : Fra f (lockM kl m) H f2 m2 H2) {v : V} : ∀ {x : SV}, Fresh (A.z (lockZ A.Z f kl)) H f2 m2 H2 v x → Fresh A H f2 (openM kl xs m2) H2 v x
  | .d (.list ds), h => fun a e => by
    obtain ⟨h1, h2, vs, h3, h4⟩ := h a e
    have ez : lockZ (fun b => A.Z b ∨ b = a) f kl = fun b => lockZ A.Z f kl b ∨ b = a := funext fun b => propext or_right_comm
    obtain ⟨R3, F3, B3⟩ := unlock_all (Z2 := fun b => A.Z b ∨ b = a) R hk F (fun b o eb z => z.elim id fun z => by rw [z, h1] at eb; cases eb) (by rw [ez]; exact h2)
    rw [ez] at B3
    exact ⟨h1, R3, vs, h3, rpAll_box B3 h4⟩
  | .d (.dict _), _ => True.intro
  | .d .none, _ => True.intro
  | .d (.bool _), _ => True.intro
  | .d (.int _), _ => True.intro
  | .d (.str _), _ => True.intro
  | .d (.tuple _), _ => True.intro
  | .ref _, _ => True.intro
  | .fn _, _ => True.intro
  | .ext _, _ => True.intro
theorem PoF.open_ {kl : Option Nat} {xs : List PyData} {F : Fl} (R : RS A f m H) (hk : ∀ l, kl = some l → m[l]? = some (.lst xs)) (h : PoF A W f m H (Fl.open_ kl xs F) D) : PoF (A.z (lockZ A.Z f kl)) W f (lockM kl m) H F D := by
  have un : ∀ {f' : Nat → Addr} {m' : Sto} {H' : Hp}, RS (A.z (lockZ A.Z f kl)) f' m' H' → Fra f (lockM kl m) H f' m' H' → RS A f' (openM kl xs m') H' ∧ Fra f m H f' (openM kl xs m') H' ∧ ∀ b, Box A f' (openM kl xs m') b → Box (A.z (lockZ A.Z f kl)) f' m' b := fun R' F' => unlock_all (Z2 := A.Z) R hk F' (fun _ _ _ z => z) R'
  have ln : ∀ {m' : Sto}, m'.length ≤ (openM kl xs m').length := fun {m'} => Nat.le_of_eq openM_length.symm
  cases F with
  | bad => exact h
  | next r m' =>
    intro f' H' s a b c
    obtain ⟨R2, F2, B2⟩ := un a b
    exact h f' H' s R2 F2 (re_box (A := A.z (lockZ A.Z f kl)) (Z' := A.Z) B2 ln c)
  | brk r m' =>
    intro f' H' s a b c
    obtain ⟨R2, F2, B2⟩ := un a b
    exact h f' H' s R2 F2 (re_box (A := A.z (lockZ A.Z f kl)) (Z' := A.Z) B2 ln c)
  | cont r m' =>
    intro f' H' s a b c
    obtain ⟨R2, F2, B2⟩ := un a b
    exact h f' H' s R2 F2 (re_box (A := A.z (lockZ A.Z f kl)) (Z' := A.Z) B2 ln c)
  | ret x m' =>
    intro f' H' v a b c
    obtain ⟨R2, F2, B2⟩ := un a b
    exact h f' H' v R2 F2 ⟨rpS_box (A := A.z (lockZ A.Z f kl)) (Z' := A.Z) B2 ln c.1, fun z => fresh_open R hk b (c.2 z)⟩
  | exc x r m' =>
    intro f' H' s cl d a b c e
    obtain ⟨R2, F2, B2⟩ := un a b
    exact h f' H' s cl d R2 F2 (re_box (A := A.z (lockZ A.Z f kl)) (Z' := A.Z) B2 ln c) e

/-! ### one by one -/
theorem k_pass {p : Pos} : PS X (.Pass p) (tS A W C .pass) := ps_pass.imp fun D σ H ⟨f, m, ρ, R, re, h⟩ => h f H σ R Fra.refl re
theorem swaps_none {x : Expr} (h : isLC x = false) (t : Option Expr) (l : Nat) (env : Env) : swapsWith x t l env = pure false := by
  cases x <;> first
    | rfl
    | cases h
theorem k_expr {e : E} {x : Expr} {p : Pos} (h : PE X x (tE A W C e)) (hl : isLC x = false) : PS X (.Expr x p) (tS A W C (.expr e)) :=
  (ps_expr h (swaps_none hl _ _ _)).imp fun D σ H ⟨f, m, ρ, R, re, h⟩ => ⟨f, m, ρ, R, re, (PoF.bind (Ra := RlV A (freshE e)) re h).imp fun v H1 ⟨f1, m1, y, R1, F1, rx, h1⟩ => h1 f1 H1 σ R1 Fra.refl (F1.re re)⟩
theorem k_ret {e : E} {x : Expr} {p : Pos} (h : PE X x (tE A W C e)) : PS X (.Return (some x) p) (tS A W C (.ret e)) :=
  (ps_ret h).imp fun D σ H ⟨f, m, ρ, R, re, h⟩ => ⟨f, m, ρ, R, re, by
    have h : PoF A W f m H (Fl.of (ev C e ρ m) ρ fun x m1 => if retOk e x then .ret x m1 else .bad) D := h
    cases r : ev C e ρ m with
    | bad => rw [r] at h; exact h
    | exc x m' =>
      rw [r] at h
      exact fun f' H' cl d a b c => h f' H' σ cl d a b (b.re re) c
    | ok x m' =>
      rw [r] at h
      have h : PoF A W f m H (if retOk e x then .ret x m' else .bad) D := h
      split at h
      case isFalse => exact h.elim
      rename_i hr
      refine fun f' H' v a b c => h f' H' v a b ⟨c.1, fun _ => ?_⟩
      unfold retOk at hr
      split at hr
      · exact c.2 hr
      · exact True.intro
      · rename_i n1 n2
        cases x with
        | d y => cases y <;> first
          | exact True.intro
          | exact absurd rfl (n1 _)
        | _ => exact True.intro⟩
/-- name = .. : a bare comprehension on one line -/
def SetOk (X : Cx) (x : Expr) (t : TE) : Prop := ∀ (i : Nat) (y : Str) (py spos : Pos), X.N[i]? = some y → X.env.scope.names.lookup y = some .local → swapsWith x (some (.Name y py)) spos.line X.env = pure true → PS X (.Assign [.Name y py] x spos) (tAsg t (gName i))
theorem set_read {i : Nat} {e : E} {ρ : Rho} {D : Ends} {f : Nat → Addr} {m : Sto} (R : RS A f m H) (re : RE A f m H σ ρ) (h : PoF A W f m H (ex C (.set i e) ρ m) D) : tAsg (tE A W C e) (gName i) D σ H := ⟨f, m, ρ, R, re, (PoF.bind (Ra := RlV A (freshE e)) re h).imp fun v H1 ⟨f1, m1, y, R1, F1, rx, h1⟩ => by
    split at h1
    · exact h1 f1 H1 _ R1 Fra.refl ((F1.re re).set i rx.1)
    · exact h1.elim⟩
theorem swaps_lc {elt : Expr} {gs : List Comprehension} {scope : Scope} {pos py : Pos} {y : Str} {l : Nat} {env : Env} :
    swapsWith (.ListComp elt gs scope pos) (some (.Name y py)) l env = pure (env.blockKind == .function && env.kindOf y == some .local && py.line == pos.line && !(scope.names.any fun (n, k) => n == y && (k == .local || k == .cell))) := rfl
theorem k_set {i : Nat} {e : E} {x : Str} {v : Expr} {p p2 : Pos} (ok : OkX A c X n k W) (h1 : c.N[i]? = some x) (h2 : c.loc x = true) (h : PE X v (tE A W C e)) (hL : isLC v = true → SetOk X v (tE A W C e)) (hv : isLC v = true → ∃ a b c d, v = .ListComp a b c d) : PS X (.Assign [.Name x p2] v p) (tS A W C (.set i e)) := by
  obtain ⟨l1, l2⟩ := ok.st x h2
  have hi : X.N[i]? = some x := by rw [ok.N]; exact h1
  have nd : X.N.Nodup := by rw [ok.N]; exact ok.nd
  have fin : PS X (.Assign [.Name x p2] v p) (tAsg (tE A W C e) (gName i)) := by
    cases hv' : isLC v with
    | false => exact ps_set nd hi l1 h (swaps_none hv' _ _ _) l2
    | true =>
      obtain ⟨a, b, d, q, rfl⟩ := hv hv'
      cases hb : (X.env.blockKind == .function && X.env.kindOf x == some .local && p2.line == q.line && !(d.names.any fun (n, k) => n == x && (k == .local || k == .cell))) with
      | false => exact ps_set nd hi l1 h (by rw [swaps_lc, hb]) l2
      | true =>
        refine hL rfl i x p2 p hi ?_ (by rw [swaps_lc, hb])
        simp only [Bool.and_eq_true] at hb
        exact eq_of_beq hb.1.1.2
  exact fin.imp fun D σ H ⟨f, m, ρ, R, re, h⟩ => set_read R re h
theorem sw_folded {ts vs : List Expr} {kk k2 : Nat} {tp p2 : Pos} {env : Env} (h : vs.all (foldedForSure 8) = true) : swappedStores [.Tuple ts kk tp] (.Tuple vs k2 p2) env = pure none := by
  unfold swappedStores
  simp only [h]
  repeat' split
  all_goals first
    | rfl
    | exact absurd True.intro (by assumption)
theorem k_asg {t : Tg} {e : E} {tg v : Expr} {p : Pos} (ok : OkX A c X n k W) (h1 : isTup tg = true) (h2 : mTg c t tg = true) (h : PE X v (tE A W C e)) (h3 : noTup v = true) : PS X (.Assign [tg] v p) (tS A W C (.asg t e)) := by
  cases tg <;> cases h1
  rename_i es kk tp
  have hs : swapsWithSole [.Tuple es kk tp] v p.line X.env = pure false := by
    cases v <;> rfl
  have hw : swappedStores [.Tuple es kk tp] v X.env = pure none := by
    cases v with
    | Tuple vs k2 p2 =>
      have h3 : vs.all (foldedForSure 8) = true := h3
      exact sw_folded h3
    | _ => rfl
  exact (ps_asg h (pg_of ok h2) hs hw).imp fun D σ H ⟨f, m, ρ, R, re, h⟩ => ⟨f, m, ρ, R, re, (PoF.bind (Ra := RlV A (freshE e)) re h).imp fun v H1 ⟨f1, m1, y, R1, F1, rx, h1⟩ => by
    split at h1
    · split at h1
      · rename_i ha
        exact asg_ok ha rx.1 (F1.re re) fun σ' re' _ => h1 f1 H1 σ' R1 Fra.refl re'
      · exact h1.elim
    · exact h1.elim⟩

theorem sw_par {x y : Str} {u v : Expr} {px py tp p2 : Pos} {kk k2 : Nat} {env : Env} (hk : env.scope.kind = .function) (hx : env.scope.names.lookup x = some .local) (hy : env.scope.names.lookup y = some .local) (hl : px.line = py.line) (hxy : x ≠ y) (hp : parOk u v = true)
    (hs : ∀ z p, u ≠ .Starred z p ∧ v ≠ .Starred z p) : swappedStores [.Tuple [.Name x px, .Name y py] kk tp] (.Tuple [u, v] k2 p2) env = pure (some [x, y]) := by
  have hb : env.blockKind = .function := by unfold Env.blockKind; rw [hk]; rfl
  have kx : (env.kindOf x == some .local) = true := by show (env.scope.names.lookup x == _) = true; rw [hx]; rfl
  have ky : (env.kindOf y == some .local) = true := by show (env.scope.names.lookup y == _) = true; rw [hy]; rfl
  unfold parOk at hp
  simp only [Bool.and_eq_true, Bool.not_eq_true'] at hp
  have st : ∀ {w : Expr}, (∀ z p, w ≠ .Starred z p) → (match w with | .Starred _ _ => true | _ => false) = false := fun {w} h => by
    split
    · exact absurd rfl (h _ _)
    · rfl
  have su := st fun z p => (hs z p).1
  have sv := st fun z p => (hs z p).2
  have ed : (y == x) = false := beq_eq_false_iff_ne.mpr fun z => hxy z.symm
  have eq2 : ([x, y] : List Str).eraseDups = [x, y] := by
    simp [List.eraseDups_cons, List.filter_cons, ed]
  simp only [swappedStores, List.length_cons, List.length_nil, hb, List.any_cons, List.any_nil, su, sv, List.head?_cons, Option.map_some, Option.getD_some, Expr.pos, List.filterMap_cons, List.filterMap_nil, kx, ky, hl, beq_self_eq_true, Bool.and_self, if_true, List.all_cons, List.all_nil, Bool.and_true, hp.1, hp.2, eq2]
  rw [if_neg (by decide), if_neg (fun z => ?_), if_neg (by decide), if_neg (by decide), if_neg (by decide)]
  simp only [Bool.or_eq_true] at z
  rcases z with z | z | z
  · split at z
    · exact (hs _ _).1 rfl
    · cases z
  · split at z
    · exact (hs _ _).2 rfl
    · cases z
  · cases z
theorem k_par {i j : Nat} {a b : E} {x y : Str} {u v : Expr} {px py tp p2 p : Pos} {kk k2 : Nat} (ok : OkX A c X n k W) (h1 : c.N[i]? = some x) (h2 : c.N[j]? = some y) (hij : i ≠ j) (hk : c.sc.kind = .function) (hx : c.sc.names.lookup x = some .local) (hy : c.sc.names.lookup y = some .local) (hl : px.line = py.line) (hxy : x ≠ y) (hp : parOk u v = true)
    (hs : ∀ z p, u ≠ .Starred z p ∧ v ≠ .Starred z p) (ha : PE X u (tE A W C a)) (hb : PE X v (tE A W C b)) (su : ∀ xs env, starEach (u :: xs) env = (false, eval u env) :: starEach xs env) (sv : ∀ xs env, starEach (v :: xs) env = (false, eval v env) :: starEach xs env) :
    PS X (.Assign [.Tuple [.Name x px, .Name y py] kk tp] (.Tuple [u, v] k2 p2) p) (tS A W C (.par i j a b)) := by
  rw [← ok.sc] at hk hx hy
  have hN : X.N = c.N := ok.N
  refine (ps_par ok.calm (by rw [hN]; exact ok.nd) (by rw [hN]; exact h1) (by rw [hN]; exact h2) hij hx hy (pa_cons ha (pa_cons hb pa_nil (sv _ _)) (su _ _)) (sw_par hk hx hy hl hxy hp hs)).imp fun D σ H ⟨f, m, ρ, R, re, h⟩ => ⟨f, m, ρ, R, re, ?_⟩
  refine (PoF.bind (Ra := RlV A (freshE a)) re h).imp fun v1 H1 ⟨f1, m1, y1, R1, F1, rx, h1⟩ => ⟨f1, m1, ρ, R1, F1.re re, ?_⟩
  refine (PoF.bind (Ra := RlV A (freshE b)) (F1.re re) h1).imp fun v2 H2 ⟨f2, m2, y2, R2, F2, ry, h2⟩ => ?_
  split at h2
  · exact ⟨v1, v2, rfl, h2 f2 H2 _ R2 Fra.refl (((F2.re (F1.re re)).set i (F2.rpS rx.1)).set j ry.1)⟩
  · exact h2.elim
/-! ### stores into boxes -/
def rSetD : TSet := fun o i v H Q => ∃ a H4, o = .ref a ∧ DPut H a i v H4 ∧ Q H4
theorem set_dict (hu : X.A.units + 1 < cLine) : PSet X rSetD := by
  intro pins s σ H o i v ov iv u Q I ro ri rv h
  obtain ⟨a, H4, rfl, g, q⟩ := h
  obtain rfl : ov = Value.ref a := ro
  exact d_setItem hu I g ri rv fun s4 I4 => ⟨H4, I4, q⟩
theorem set_or {t t' : TSet} (h : PSet X t) (h' : PSet X t') : PSet X fun o i v H Q => t o i v H Q ∨ t' o i v H Q := fun pins s σ H o i v ov iv u Q I ro ri rv q => q.elim (h pins s σ H o i v ov iv u Q I ro ri rv) (h' pins s σ H o i v ov iv u Q I ro ri rv)
theorem putF_paired {k' : Str} {w : V} {x : SV} (r : RpS A f m H w x) : ∀ {kvs : List (Key × V)} {fs : List (Str × SV)}, Paired (fun (p : Key × V) (q : Str × SV) => p.1 = Sum.inr q.1 ∧ RpS A f m H p.2 q.2) kvs fs →
    Paired (fun (p : Key × V) (q : Str × SV) => p.1 = Sum.inr q.1 ∧ RpS A f m H p.2 q.2) (kvs.map fun kv => if kv.1 = Sum.inr k' then (kv.1, w) else kv) (putF k' x fs)
  | _, _, .nil => .nil
  | p :: kvs, (g, y) :: fs, .cons h t => by
    refine .cons ?_ (putF_paired r t)
    show (if p.1 = Sum.inr k' then (p.1, w) else p : Key × V).1 = Sum.inr (if g = k' then (g, x) else (g, y) : Str × SV).1 ∧ RpS A f m H (if p.1 = Sum.inr k' then (p.1, w) else p : Key × V).2 (if g = k' then (g, x) else (g, y) : Str × SV).2
    have h1 : p.1 = Sum.inr g := h.1
    by_cases e : g = k'
    · rw [if_pos (by rw [h1, e]), if_pos e]
      exact ⟨h1, r⟩
    · rw [if_neg (by rw [h1]; exact fun z => e (Sum.inr.inj z)), if_neg e]
      exact h
theorem paired_len {α β : Type} {R : α → β → Prop} : ∀ {xs : List α} {ys : List β}, Paired R xs ys → xs.length = ys.length
  | _, _, .nil => rfl
  | _, _, .cons _ t => by rw [List.length_cons, List.length_cons, paired_len t]
theorem sub_asg {a b : Expr} {p : Pos} {env : Env} (hb : noSlice b = true) : ∀ v, assign (.Subscript a b p) env v = (do
      let ov ← holding [v] (eval a env)
      let iv ← holding [v, ov] (eval b env)
      standAt p
      holding [v, ov, iv] (setItem ov iv v)
      release [v, ov, iv] []) := fun v => by
  cases b with
  | Slice x y z q =>
    cases z with
    | none => cases hb
    | some _ => rfl
  | _ => rfl
theorem k_sti {o i e : E} {a b v : Expr} {p p2 : Pos} (ok : OkX A c X n k W) (ho : PE X a (tE A W C o)) (hi : PE X b (tE A W C i)) (h : PE X v (tE A W C e)) (hb : noSlice b = true) : PS X (.Assign [.Subscript a b p2] v p) (tS A W C (.sti o i e)) := by
  have hs : swapsWithSole [.Subscript a b p2] v p.line X.env = pure false := by cases v <;> rfl
  have hw : swappedStores [.Subscript a b p2] v X.env = pure none := by cases v <;> rfl
  refine (ps_asg h (pg_sub ho hi (set_or set_list (set_dict (hu_of ok.room))) (sub_asg hb)) hs hw).imp fun D σ H ⟨f, m, ρ, R, re, h⟩ => ⟨f, m, ρ, R, re, ?_⟩
  refine (PoF.bind (Ra := RlV A (freshE e)) re h).imp fun z1 H1 ⟨f1, m1, z, R1, F1, rz, h1⟩ => ⟨f1, m1, ρ, R1, F1.re re, ?_⟩
  refine (PoF.bind (Ra := RlV A (freshE o)) (F1.re re) h1).imp fun x1 H2 ⟨f2, m2, x, R2, F2, rx, h2⟩ => ⟨f2, m2, ρ, R2, F2.re (F1.re re), ?_⟩
  refine (PoF.bind (Ra := RlV A (freshE i)) (F2.re (F1.re re)) h2).imp fun y1 H3 ⟨f3, m3, y, R3, F3, ry, h3⟩ => ?_
  have re3 := F3.re (F2.re (F1.re re))
  replace rx := F3.rpS rx.1
  replace rz := F3.rpS (F2.rpS rz.1)
  replace ry := ry.1
  clear h1 h2
  cases x with
  | ref l =>
    cases y with
    | d kd =>
      dsimp only at h3
      obtain ⟨rfl, hlt⟩ := rx
      have keepS : ∀ {o o' : Ob} {u : HO}, m3[l]? = some o → o ≠ .dead → o' ≠ .dead → ∀ {v : V} {x : SV}, RpS A f3 m3 H3 v x → RpS A f3 (m3.set l o') (upd H3 (f3 l) u) v x := fun {o o' u} e n n' {v x} r => by
        obtain ⟨hk, hb⟩ := upd_up (o' := o') (u := u) R3 e n n'
        exact rpS_keep (Z' := A.Z) (fun b o e n => hk b o e fun z => n (.inr z)) (fun b o e n z => n (z.elim .inl fun z => .inr ((hb b).mp z))) (by rw [List.length_set]; exact Nat.le_refl _) (fun _ _ => rfl) r
      cases e : m3[l]? with
      | none => simp only [e] at h3; exact h3.elim
      | some ob =>
        simp only [e] at h3
        cases ob with
        | lst xs =>
          cases kd with
          | int kk =>
            cases z with
            | d w =>
              simp only at h3
              cases hj : L2.ixN xs.length kk with
              | none => simp only [hj] at h3; exact h3.elim
              | some j =>
                simp only [hj] at h3
                obtain ⟨us, eu, ru⟩ := R3.ob l _ e
                obtain ⟨hk, hb⟩ := upd_up (o' := .lst (xs.set j w)) (u := .lst (us.set j z1)) R3 e (fun z => nomatch z) (fun z => nomatch z)
                have hB : ∀ b, Box A f3 (m3.set l (.lst (xs.set j w))) b → Box A f3 m3 b := fun b z => z.elim .inl fun z => .inr ((hb b).mp z)
                have keepA : ∀ {vs : List V} {ds : List PyData}, RpAll H3 (Box A f3 m3) vs ds → RpAll (upd H3 (f3 l) (.lst (us.set j z1))) (Box A f3 (m3.set l (.lst (xs.set j w)))) vs ds := fun r => r.keep (fun b o e n => hk b o e fun z => n (.inr z)) fun b o e n z => n (hB b z)
                obtain ⟨R', F'⟩ := R3.put (o' := .lst (xs.set j w)) (u := .lst (us.set j z1)) e (fun z => nomatch z) (fun z => nomatch z) ⟨us.set j z1, upd_same, keepA (ru.set rz j)⟩
                exact .inl ⟨f3 l, us, kk, j, rfl, (Rq.of ry).int, eu, by rw [ru.length]; exact hj, h3 f3 _ σ R' F' (F'.re re3)⟩
            | _ => exact h3.elim
          | _ => exact h3.elim
        | rcd fs =>
          cases kd with
          | str kk =>
            simp only at h3
            split at h3
            case isFalse => exact h3.elim
            rename_i hc
            simp only [Bool.and_eq_true, fitsN, decide_eq_true_eq] at hc
            obtain ⟨kvs, ek, rk⟩ := R3.ob l _ e
            obtain ⟨v0, e0⟩ := Option.isSome_iff_exists.mp hc.1
            obtain ⟨v1, g1, _⟩ := lookup_paired rk e0
            have hput : putK kvs (Sum.inr kk) z1 = kvs.map fun kv => if kv.1 = Sum.inr kk then (kv.1, z1) else kv := by
              unfold putK
              rw [valV_any, g1]
              exact if_pos rfl
            obtain ⟨R', F'⟩ := R3.put (o' := .rcd (putF kk z fs)) (u := .dK (putK kvs (Sum.inr kk) z1)) e (fun z => nomatch z) (fun z => nomatch z) ⟨_, upd_same, by
              have q := Paired.mapP (putF_paired (k' := kk) rz rk) fun p q h => (⟨h.1, keepS (o' := .rcd (putF kk z fs)) (u := .dK (putK kvs (Sum.inr kk) z1)) e (fun z => nomatch z) (fun z => nomatch z) h.2⟩ : p.1 = Sum.inr q.1 ∧ _)
              rw [← hput] at q
              exact q⟩
            refine .inr ⟨f3 l, _, rfl, ?_, h3 f3 _ σ R' F' (F'.re re3)⟩
            rw [(Rq.of ry).str]
            exact DPut.k (k := Sum.inr kk) ek (by rw [paired_len rk, sizeLine_eq]; omega)
          | _ => exact h3.elim
        | dk kvs =>
          simp only at h3
          cases ep : dPut (.dk kvs) kd z with
          | none => simp only [ep] at h3; exact h3.elim
          | some o' =>
            simp only [ep] at h3
            obtain ⟨ws, ek, rk⟩ := R3.ob l _ e
            have ep : (if fitsN (kvs.length + 1) then (asK kd).map fun k => Ob.dk (ptG kvs k z) else none) = some o' := ep
            by_cases hf : fitsN (kvs.length + 1) = true
            case neg => rw [if_neg hf] at ep; cases ep
            rw [if_pos hf] at ep
            obtain ⟨k', e1, rfl⟩ := Option.map_eq_some_iff.mp ep
            obtain ⟨R', F'⟩ := R3.put (o' := .dk (ptG kvs k' z)) (u := .dK (putK ws k' z1)) e (fun z => nomatch z) (fun z => nomatch z) ⟨_, upd_same, Paired.mapP (pt_ok (k := k') rz rk) fun p q h => ⟨h.1, keepS (o' := .dk (ptG kvs k' z)) (u := .dK (putK ws k' z1)) e (fun z => nomatch z) (fun z => nomatch z) h.2⟩⟩
            refine .inr ⟨f3 l, _, rfl, ?_, h3 f3 _ σ R' F' (F'.re re3)⟩
            rw [asK_ok ry e1]
            have := fits_le hf
            exact DPut.k ek (by rw [dpair_len rk]; omega)
        | dt kvs =>
          simp only at h3
          cases ep : dPut (.dt kvs) kd z with
          | none => simp only [ep] at h3; exact h3.elim
          | some o' =>
            simp only [ep] at h3
            obtain ⟨ws, ek, rk⟩ := R3.ob l _ e
            cases kd with
            | tuple ds0 =>
              obtain ⟨ay, vs0, rfl, et, _, rt⟩ := (Rq.of ry).tuple
              have ep : (if fitsN (kvs.length + 1) then (asKs ds0).map fun k => Ob.dt (ptG kvs k z) else none) = some o' := ep
              by_cases hf : fitsN (kvs.length + 1) = true
              case neg => rw [if_neg hf] at ep; cases ep
              rw [if_pos hf] at ep
              obtain ⟨k', e1, rfl⟩ := Option.map_eq_some_iff.mp ep
              obtain ⟨R', F'⟩ := R3.put (o' := .dt (ptG kvs k' z)) (u := .dT (putK ws k' z1)) e (fun z => nomatch z) (fun z => nomatch z) ⟨_, upd_same, Paired.mapP (pt_ok (k := k') rz rk) fun p q h => ⟨h.1, keepS (o' := .dt (ptG kvs k' z)) (u := .dT (putK ws k' z1)) e (fun z => nomatch z) (fun z => nomatch z) h.2⟩⟩
              refine .inr ⟨f3 l, _, rfl, ?_, h3 f3 _ σ R' F' (F'.re re3)⟩
              rw [asKs_ok rt e1] at et
              have := fits_le hf
              exact DPut.t ek et (by rw [dpair_len rk]; omega)
            | _ => cases ep
        | ins _ _ => exact h3.elim
        | dead => exact h3.elim
    | _ => exact h3.elim
  | _ => exact h3.elim
theorem k_iff {d : E} {a b : Ss} {t : Expr} {x y : List Stmt} {p : Pos} (hd : PT X t (tT A W C d)) (ha : PSs X x (tSs A W C a)) (hb : PSs X y (tSs A W C b)) : PS X (.If t x y p) (tS A W C (.iff d a b)) :=
  (ps_if hd ha hb).imp fun D σ H ⟨f, m, ρ, R, re, h⟩ => ⟨f, m, ρ, R, re, by
    have h : PoF A W f m H (Fl.of (ev C d ρ m) ρ fun x m1 => match (dat m1 x).bind truD with
      | some true => exs C a ρ m1
      | some false => exs C b ρ m1
      | none => .bad) D := h
    cases r : ev C d ρ m with
    | bad => rw [r] at h; exact h
    | exc x m' =>
      rw [r] at h
      exact fun f' H' cl d a b c => h f' H' σ cl d a b (b.re re) c
    | ok x m' =>
      rw [r] at h
      have h' : PoF A W f m H (match (dat m' x).bind truD with
        | some true => exs C a ρ m'
        | some false => exs C b ρ m'
        | none => .bad) D := h
      show Po A W σ RlB f m H (Out.of ((dat m' x).bind truD) m') _
      split at h'
      · rename_i e
        rw [e]
        intro f' H' v R' F rv
        cases rv
        rw [if_pos rfl]
        exact ⟨f', m', ρ, R', F.re re, h'.start F⟩
      · rename_i e
        rw [e]
        intro f' H' v R' F rv
        cases rv
        rw [if_neg Bool.false_ne_true]
        exact ⟨f', m', ρ, R', F.re re, h'.start F⟩
      · exact h'.elim⟩
theorem k_for {t : Tg} {kill : List Nat} {it : It} {b : Ss} {tg iter : Expr} {body : List Stmt} {p : Pos} (ok : OkX A c X n k W) (hm : mTg c t tg = true) (hi : PI X tg iter (tI A W C it)) (hs : ∀ x, foldedSetIterable iter X.env x = pure x) (hb : ∀ Z, PSs X body (tSs (A.z Z) W C b)) :
    PS X (.For tg iter body [] p) (tS A W C (.for_ t kill it b)) := by
  refine (ps_for (tb := fun D σ H => ∃ Z, tSs (A.z Z) W C b D σ H) ok.po ok.calm hi (pg_of ok hm) ⟨fun pins s σ H D I ⟨Z, q⟩ => (hb Z).run pins s σ H D I q⟩ hs).imp fun D σ H ⟨f, m, ρ, R, re, h⟩ => ⟨f, m, ρ, R, re, (PoF.bind (Ra := RlI A) re h).imp fun J H1 ⟨f1, m1, q, R1, F1, gi, h1⟩ => ?_⟩
  obtain ⟨RL, FL, BL⟩ := lock_all (k := q.2) R1 gi.lk
  have h2 := h1.open_ R1 gi.lk
  generalize hst : (fun (x : PyData) (r : Rho) (m : Sto) => match asgT t x r with
        | some r1 => exs C b r1 m
        | none => Fl.bad) = step at h2
  have K2 : ∀ {f2 : Nat → Addr} {m2 : Sto} {H2 : Hp}, Fra f1 (lockM q.2 m1) H1 f2 m2 H2 → ∀ b o, H1 b = some o → ¬ Box A f1 m1 b → ¬ Box (A.z (lockZ A.Z f1 q.2)) f2 m2 b := fun {f2 m2 H2} F b o eb nb z => by
    rcases z with z | z
    · exact nb ((BL b).mp (.inl z))
    · exact F.live eb (fun z => nb ((BL b).mp (.inr z))) z
  refine ⟨fun i mm σ H => mm = q.1.length - i ∧ i ≤ q.1.length ∧ ∃ f2 m2 ρ2, RS (A.z (lockZ A.Z f1 q.2)) f2 m2 H ∧ Fra f1 (lockM q.2 m1) H1 f2 m2 H ∧ RE (A.z (lockZ A.Z f1 q.2)) f2 m2 H σ ρ2 ∧ PoF (A.z (lockZ A.Z f1 q.2)) W f2 m2 H (forL step kill (q.1.drop i) ρ2 m2) D,
    ⟨q.1.length, rfl, Nat.zero_le _, f1, lockM q.2 m1, killR kill ρ, RL, Fra.refl, (re_box (Z' := lockZ A.Z f1 q.2) (fun b => (BL b).mp) (Nat.le_of_eq lockM_length.symm) (F1.re re)).kill kill, h2⟩, ?_⟩
  rintro i mm σ2 H2 ⟨rfl, hi, f2, m2, ρ2, R2, F2, re2, hp⟩
  have yl := gi.on _ f2 m2 H2 R2 F2.keep (K2 F2)
  by_cases hlt : i < q.1.length
  · refine .inr ⟨yl.go i hlt, fun σ' H' => ∃ f2 m2 ρ2, RS (A.z (lockZ A.Z f1 q.2)) f2 m2 H' ∧ Fra f1 (lockM q.2 m1) H1 f2 m2 H' ∧ RE (A.z (lockZ A.Z f1 q.2)) f2 m2 H' σ' ρ2 ∧ PoF (A.z (lockZ A.Z f1 q.2)) W f2 m2 H' (forL step kill (q.1.drop (i + 1)) ρ2 m2) D, fun σ' H' p => ⟨q.1.length - (i + 1), by omega, rfl, hlt, p⟩, fun v H' hy => ?_⟩
    have hx : q.1[i]? = some q.1[i] := List.getElem?_eq_getElem hlt
    obtain ⟨up, rv⟩ := yl.yld i _ v H' hx hy
    rw [List.drop_eq_getElem_cons hlt] at hp
    generalize q.1[i] = x at hx rv hp
    have R2' := up.rs R2
    have hp' : PoF (A.z (lockZ A.Z f1 q.2)) W f2 m2 H' (forL step kill (x :: q.1.drop (i + 1)) ρ2 m2) D := hp.start up.fra
    have hp2 := PoF.loop (F := step x ρ2 m2) (K := fun r' m' => forL step kill (q.1.drop (i + 1)) (killR kill r') m') (N := fun σ' H' => ∃ f2 m2 ρ2, RS (A.z (lockZ A.Z f1 q.2)) f2 m2 H' ∧ Fra f1 (lockM q.2 m1) H1 f2 m2 H' ∧ RE (A.z (lockZ A.Z f1 q.2)) f2 m2 H' σ' ρ2 ∧ PoF (A.z (lockZ A.Z f1 q.2)) W f2 m2 H' (forL step kill (q.1.drop (i + 1)) ρ2 m2) D) (fun f' m' r' H'' σ' a b c d => ⟨f', m', killR kill r', a, (F2.trans up.fra).trans b, c.kill kill, d⟩) hp'
    simp only [← hst] at hp2
    rw [hst] at hp2
    split at hp2
    · rename_i r1 ha
      exact asg_ok (A := A.z (lockZ A.Z f1 q.2)) ha rv (up.fra.re re2) fun σ3 re3 _ => ⟨lockZ A.Z f1 q.2, f2, m2, r1, R2', re3, hp2⟩
    · exact hp2.elim
  · have hi' : i = q.1.length := by omega
    subst hi'
    rw [List.drop_length] at hp
    exact .inl ⟨yl.stop, hp f2 H2 σ2 R2 Fra.refl re2⟩
theorem k_whl {d : E} {kill : List Nat} {b : Ss} {t : Expr} {body : List Stmt} {p : Pos} (ok : OkX A c X n k W) (hd : PT X t (tT A W C d)) (hb : PSs X body (tSs A W C b)) : PS X (.While t body [] p) (tS A W C (.whl d kill b)) := by
  refine (ps_while ok.po hd hb).imp fun D σ H ⟨f, m, ρ, R, re, h⟩ => ?_
  refine ⟨fun i σ H => ∃ f2 m2 ρ2, RS A f2 m2 H ∧ RE A f2 m2 H σ ρ2 ∧ PoF A W f2 m2 H (whlL (fun r m => (ev C d r m).bind fun x m1 => Out.of ((dat m1 x).bind truD) m1) (fun r m => exs C b r m) kill i ρ2 m2) D, ⟨100000, f, m, killR kill ρ, R, re.kill kill, h⟩, ?_⟩
  rintro i σ2 H2 ⟨f2, m2, ρ2, R2, re2, hp⟩
  cases i with
  | zero => exact hp.elim
  | succ i =>
    refine ⟨f2, m2, ρ2, R2, re2, (PoF.bind (Ra := RlB) re2 hp).imp fun v H3 ⟨f3, m3, y, R3, F3, rv, h3⟩ => ?_⟩
    cases rv
    cases v with
    | false =>
      rw [if_neg Bool.false_ne_true]
      exact h3 f3 H3 σ2 R3 Fra.refl (F3.re re2)
    | true =>
      rw [if_pos rfl]
      exact ⟨fun σ' H' => ∃ f2 m2 ρ2, RS A f2 m2 H' ∧ RE A f2 m2 H' σ' ρ2 ∧ PoF A W f2 m2 H' (whlL (fun r m => (ev C d r m).bind fun x m1 => Out.of ((dat m1 x).bind truD) m1) (fun r m => exs C b r m) kill i ρ2 m2) D, fun σ' H' p => ⟨i, Nat.lt_succ_self i, p⟩, f3, m3, ρ2, R3, F3.re re2, PoF.loop (K := fun r' m' => whlL (fun r m => (ev C d r m).bind fun x m1 => Out.of ((dat m1 x).bind truD) m1) (fun r m => exs C b r m) kill i (killR kill r') m') (fun f' m' r' H'' σ' a b c d => ⟨f', m', killR kill r', a, c.kill kill, d⟩) h3⟩
theorem k_snil : PSs X [] (tSs A W C .nil) := pss_nil.imp fun D σ H ⟨f, m, ρ, R, re, h⟩ => h f H σ R Fra.refl re
theorem k_scons {s : S} {ss : Ss} {x : Stmt} {xs : List Stmt} (h1 : PS X x (tS A W C s)) (h2 : PSs X xs (tSs A W C ss)) : PSs X (x :: xs) (tSs A W C (.cons s ss)) :=
  (pss_cons h1 h2).imp fun D σ H ⟨f, m, ρ, R, re, h⟩ => ⟨f, m, ρ, R, re, by
    have h : PoF A W f m H (match ex C s ρ m with | .next r' m' => exs C ss r' m' | f => f) D := h
    cases r : ex C s ρ m with
    | next r' m' =>
      rw [r] at h
      exact fun f' H' σ' a b c => ⟨f', m', r', a, c, PoF.start b h⟩
    | bad => rw [r] at h; exact h
    | ret x m' => rw [r] at h; exact h
    | brk r' m' => rw [r] at h; exact h
    | cont r' m' => rw [r] at h; exact h
    | exc x r' m' => rw [r] at h; exact h⟩
end
end Pil

set_option Elab.async false
set_option linter.all false
set_option autoImplicit false
set_option maxRecDepth 100000
set_option maxHeartbeats 4000000
namespace Pil
open PySem PySem.Spec PyProof.Rows L2

/-! ### every statement that the checker lets through -/
theorem mE_set' (c : Ctx) {x : Expr} (h : isLC x = true) (hn : ¬ ∃ a b d p, x = .ListComp a b d p) : ∀ e : E, mE c e x = false := by
  intro e
  cases x <;> cases h
  · exact absurd ⟨_, _, _, _, rfl⟩ hn
  all_goals
    induction e using E.rec (motive_2 := fun _ => True) (motive_3 := fun _ => True) (motive_4 := fun _ => True) <;> first
      | exact True.intro
      | rfl
      | assumption
theorem lc_of {c : Ctx} {e : E} {x : Expr} (h : mE c e x = true) (hx : isLC x = true) : ∃ a b d p, x = .ListComp a b d p := by
  by_cases hn : ∃ a b d p, x = .ListComp a b d p
  · exact hn
  · rw [mE_set' c hx hn] at h; cases h
theorem sL {A : Ads} {c : Ctx} {X : Cx} {n k : Nat} {W : WX} {a : Expr} {b : List Comprehension} {d : Scope} {p : Pos} (ok : OkX A c X n k W) (Z : Addr → Prop) : ∀ e : E, mE c e (.ListComp a b d p) = true → SetOk X (.ListComp a b d p) (tE (A.z Z) W (callI c.G n) e)
  | .comp own t it dd e, h => by
    simp only [mE] at h
    split at h
    case h_2 => cases h
    rename_i e1
    cases e1
    simp only [Bool.and_eq_true] at h
    obtain ⟨⟨⟨⟨⟨⟨h1, h2⟩, h3⟩, h4⟩, h5⟩, h6⟩, h7⟩ := h
    exact fun i y py spos hy hl hs => k_compL (ok.z Z) (eq_of_beq h1) h2 h3 h4 (sIt it A c X n k W _ _ ok h5 Z) (folded_of (mIt_set h5) _)
      (fun X' ok' Z' => (sEo dd (A.z Z) _ X' n k W0 ok').2 _ h6 Z') (fun X' ok' Z' => (sE e (A.z Z) _ X' n k W0 _ ok' h7).1 Z') hy hl hs
  | .box e, h => fun i y py spos hy hl hs => by
    refine (sL ok Z e h i y py spos hy hl hs).imp fun D σ H q => ?_
    obtain ⟨f, m, ρ, R, re, q⟩ := q
    refine ⟨f, m, ρ, R, re, ?_⟩
    exact box_read q
  | .var _, h => by cases h
  | .cst _, h => by cases h
  | .gcs _ _, h => by cases h
  | .bin _ _ _, h => by cases h
  | .neg _, h => by cases h
  | .nt _, h => by cases h
  | .and2 _ _, h => by cases h
  | .or2 _ _, h => by cases h
  | .cmp _ _ _, h => by cases h
  | .cmp2 _ _ _ _ _, h => by cases h
  | .ite _ _ _, h => by cases h
  | .tup _, h => by cases h
  | .lst _, h => by cases h
  | .rcd _ _, h => by cases h
  | .idx _ _, h => by cases h
  | .slc _ _ _, h => by cases h
  | .rev _, h => by cases h
  | .call _ _, h => by cases h
  | .blt _ _, h => by cases h
  | .mth _ _ _, h => by cases h
  | .isi _ _, h => by cases h
  | .ext _ _, h => by cases h
  | .dnw _, h => by cases h
  | .dget _ _ _, h => by cases h
  | .dpop _ _ _, h => by cases h
  | .dsd _ _ _, h => by cases h
  | .din _ _ _, h => by cases h
  | .dof _ _, h => by cases h
  | .skd _, h => by cases h
  | .sid _, h => by cases h
theorem noStar {c : Ctx} {e : E} {x : Expr} (h : mE c e x = true) : ∀ z p, x ≠ .Starred z p := fun z p q => by
  rw [q, mE_star] at h; cases h
def GS (s : S) : Prop := ∀ (A : Ads) (c : Ctx) (X : Cx) (n k : Nat) (W : WX) (x : Stmt), OkX A c X n k W → mS c s x = true → ∀ Z, PS X x (tS (A.z Z) W (callI c.G n) s)
def GSs (s : Ss) : Prop := ∀ (A : Ads) (c : Ctx) (X : Cx) (n k : Nat) (W : WX) (x : List Stmt), OkX A c X n k W → mSs c s x = true → ∀ Z, PSs X x (tSs (A.z Z) W (callI c.G n) s)
mutual
theorem sS : ∀ s : S, GS s
  | .set i e => fun A c X n k W x ok h Z => by
    simp only [mS] at h
    split at h
    case h_2 => cases h
    simp only [Bool.and_eq_true] at h
    refine k_set (ok.z Z) (eq_of_beq h.1.1) h.1.2 ((sE e A c X n k W _ ok h.2).1 Z) (fun hv => ?_) (lc_of h.2)
    obtain ⟨a, b, d, p, rfl⟩ := lc_of h.2 hv
    exact sL ok Z e h.2
  | .asg t e => fun A c X n k W x ok h Z => by
    simp only [mS] at h
    split at h
    case h_2 => cases h
    simp only [Bool.and_eq_true] at h
    exact k_asg (ok.z Z) h.1.1.1 h.1.1.2 ((sE e A c X n k W _ ok h.1.2).1 Z) h.2
  | .par i j a b => fun A c X n k W x ok h Z => by
    simp only [mS] at h
    split at h
    case h_2 => cases h
    simp only [Bool.and_eq_true, decide_eq_true_eq] at h
    obtain ⟨⟨⟨⟨⟨⟨⟨⟨⟨⟨h1, h2⟩, h3⟩, h4⟩, h5⟩, h6⟩, h7⟩, h8⟩, h9⟩, h10⟩, h11⟩ := h
    exact k_par (ok.z Z) (eq_of_beq h1) (eq_of_beq h2) h3 (by revert h4; cases c.sc.kind <;> decide) (eq_of_beq h5) (eq_of_beq h6) (eq_of_beq h7) h8 h9 (fun z p => ⟨noStar h10 z p, noStar h11 z p⟩) ((sE a A c X n k W _ ok h10).1 Z) ((sE b A c X n k W _ ok h11).1 Z) (star_of h10) (star_of h11)
  | .sti o i e => fun A c X n k W x ok h Z => by
    simp only [mS] at h
    split at h
    case h_2 => cases h
    simp only [Bool.and_eq_true] at h
    exact k_sti (ok.z Z) ((sE o A c X n k W _ ok h.1.1.2).1 Z) ((sE i A c X n k W _ ok h.1.2).1 Z) ((sE e A c X n k W _ ok h.2).1 Z) h.1.1.1
  | .expr e => fun A c X n k W x ok h Z => by
    simp only [mS] at h
    split at h
    case h_2 => cases h
    simp only [Bool.and_eq_true, Bool.not_eq_true'] at h
    exact k_expr ((sE e A c X n k W _ ok h.1).1 Z) h.2
  | .iff d a b => fun A c X n k W x ok h Z => by
    simp only [mS] at h
    split at h
    case h_2 => cases h
    simp only [Bool.and_eq_true] at h
    exact k_iff ((sE d A c X n k W _ ok h.1.1.2).2 h.1.1.1 Z) (sSs a A c X n k W _ ok h.1.2 Z) (sSs b A c X n k W _ ok h.2 Z)
  | .for_ t kill it b => fun A c X n k W x ok h Z => by
    simp only [mS] at h
    split at h
    case h_2 => cases h
    simp only [Bool.and_eq_true] at h
    exact k_for (ok.z Z) h.1.1 (sIt it A c X n k W _ _ ok h.1.2 Z) (folded_of (mIt_set h.1.2) _) fun Z' => sSs b A c X n k W _ ok h.2 Z'
  | .whl d kill b => fun A c X n k W x ok h Z => by
    simp only [mS] at h
    split at h
    case h_2 => cases h
    simp only [Bool.and_eq_true] at h
    exact k_whl (ok.z Z) ((sE d A c X n k W _ ok h.1.2).2 h.1.1 Z) (sSs b A c X n k W _ ok h.2 Z)
  | .ret e => fun A c X n k W x ok h Z => by
    simp only [mS] at h
    split at h
    case h_2 => cases h
    exact k_ret ((sE e A c X n k W _ ok h).1 Z)
  | .pass => fun A c X n k W x ok h Z => by
    simp only [mS] at h
    split at h
    case h_2 => cases h
    exact k_pass
theorem sSs : ∀ s : Ss, GSs s
  | .nil => fun A c X n k W xs ok h Z => by
    cases xs with
    | cons _ _ => cases h
    | nil => exact k_snil
  | .cons s ss => fun A c X n k W xs ok h Z => by
    cases xs with
    | nil => cases h
    | cons x xs =>
      have h : (mS c s x && mSs c ss xs) = true := h
      rw [Bool.and_eq_true] at h
      exact k_scons (sS s A c X n k W x ok h.1 Z) (sSs ss A c X n k W xs ok h.2 Z)
end
end Pil

set_option Elab.async false
set_option linter.all false
set_option autoImplicit false
set_option maxRecDepth 100000
set_option maxHeartbeats 4000000
namespace Pil
open PySem PySem.Spec PyProof.Rows L2

/-! ### behind a def: what it made is forgotten -/
section
variable {A : Ads} {f f' : Nat → Addr} {m m' : Sto} {H H' : Hp}
theorem rpO_lt (R : RS A f m H) {l : Nat} {o : Ob} (e : m[l]? = some o) : o.lt m.length = true := by
  have r := R.ob l o e
  have one : ∀ {v : V} {x : SV}, RpS A f m H v x → x.lt m.length = true := fun {v x} r => by
    cases x with
    | ref l => exact decide_eq_true r.2
    | _ => rfl
  have all : ∀ {kvs : List (Key × V)} {fs : List (Str × SV)}, Paired (fun (p : Key × V) (q : Str × SV) => p.1 = Sum.inr q.1 ∧ RpS A f m H p.2 q.2) kvs fs → (fs.all fun p => p.2.lt m.length) = true := fun {kvs fs} t => by
    induction t with
    | nil => rfl
    | cons h t ih => rw [List.all_cons, one h.2, ih]; rfl
  have allD : ∀ {κ : Type} {kvs : List (κ × V)} {fs : List (κ × SV)}, Paired (fun (p : κ × V) (q : κ × SV) => p.1 = q.1 ∧ RpS A f m H p.2 q.2) kvs fs → (fs.all fun p => p.2.lt m.length) = true := fun {κ kvs fs} t => by
    induction t with
    | nil => rfl
    | cons h t ih => rw [List.all_cons, one h.2, ih]; rfl
  cases o with
  | rcd fs => obtain ⟨kvs, _, t⟩ := r; exact all t
  | dk fs =>
    obtain ⟨kvs, _, t⟩ := r
    exact allD t
  | dt fs =>
    obtain ⟨kvs, _, t⟩ := r
    exact allD t
  | ins _ _ => exact r.elim
  | _ => rfl
theorem take_get {l : Nat} {o : Ob} (e : (m'.take m.length)[l]? = some o) : l < m.length ∧ m'[l]? = some o := by
  have h := (List.getElem?_eq_some_iff.mp e).1
  rw [List.length_take] at h
  have h' : l < m.length := by omega
  rw [List.getElem?_take_of_lt h'] at e
  exact ⟨h', e⟩
theorem live_take {b : Addr} (h : Live f' (m'.take m.length) b) : Live f' m' b := by
  obtain ⟨l, o, e, n, h⟩ := h
  exact ⟨l, o, (take_get e).2, n, h⟩
theorem trunc {Z2 : Addr → Prop} (R' : RS A f' m' H') (hlen : m.length ≤ m'.length) (ok : ∀ l o, l < m.length → m'[l]? = some o → o.lt m.length = true) (hz : ∀ b, Z2 b → A.Z b ∨ ∃ l o, m.length ≤ l ∧ m'[l]? = some o ∧ o ≠ .dead ∧ f' l = b) : RS (A.z Z2) f' (m'.take m.length) H' ∧ ∀ b, Box (A.z Z2) f' (m'.take m.length) b → Box A f' m' b := by
  have hb : ∀ b, Box (A.z Z2) f' (m'.take m.length) b → Box A f' m' b := fun b z => by
    rcases z with z | z
    · rcases hz b z with z | ⟨l, o, _, e, n, h⟩
      · exact .inl z
      · exact .inr ⟨l, o, e, n, h⟩
    · exact .inr (live_take z)
  have hl : (m'.take m.length).length = m.length := by rw [List.length_take]; omega
  have one : ∀ {v : V} {x : SV}, x.lt m.length = true → RpS A f' m' H' v x → RpS (A.z Z2) f' (m'.take m.length) H' v x := fun {v x} hx r => by
    cases x with
    | d y => exact rp_box hb r
    | ref l => exact ⟨r.1, by rw [hl]; exact of_decide_eq_true hx⟩
    | fn g => exact r
    | ext ns =>
      obtain ⟨a, e, r⟩ := r
      rcases r with ⟨n, o, r⟩ | r
      · exact ⟨a, e, .inl ⟨fun z => n (hb a z), o, r⟩⟩
      · exact ⟨a, e, .inr r⟩
  have all : ∀ {kvs : List (Key × V)} {fs : List (Str × SV)}, Paired (fun (p : Key × V) (q : Str × SV) => p.1 = Sum.inr q.1 ∧ RpS A f' m' H' p.2 q.2) kvs fs → (fs.all fun p => p.2.lt m.length) = true → Paired (fun (p : Key × V) (q : Str × SV) => p.1 = Sum.inr q.1 ∧ RpS (A.z Z2) f' (m'.take m.length) H' p.2 q.2) kvs fs := fun {kvs fs} t lt => by
    induction t with
    | nil => exact .nil
    | cons h t ih =>
      rw [List.all_cons, Bool.and_eq_true] at lt
      exact .cons ⟨h.1, one lt.1 h.2⟩ (ih lt.2)
  have allD : ∀ {κ : Type} {kvs : List (κ × V)} {fs : List (κ × SV)}, Paired (fun (p : κ × V) (q : κ × SV) => p.1 = q.1 ∧ RpS A f' m' H' p.2 q.2) kvs fs → (fs.all fun p => p.2.lt m.length) = true → Paired (fun (p : κ × V) (q : κ × SV) => p.1 = q.1 ∧ RpS (A.z Z2) f' (m'.take m.length) H' p.2 q.2) kvs fs := fun {κ kvs fs} t lt => by
    induction t with
    | nil => exact .nil
    | cons h t ih =>
      rw [List.all_cons, Bool.and_eq_true] at lt
      exact .cons ⟨h.1, one lt.1 h.2⟩ (ih lt.2)
  refine ⟨⟨fun l o e => ?_, fun l1 l2 o1 o2 e1 e2 n1 n2 z => R'.inj _ _ _ _ (take_get e1).2 (take_get e2).2 n1 n2 z, fun a z => ?_, fun a z lv => ?_⟩, hb⟩
  · obtain ⟨h1, e⟩ := take_get e
    have r := R'.ob l o e
    have lt : o.lt m.length = true := ok l o h1 e
    cases o with
    | lst xs => obtain ⟨vs, ev, rv⟩ := r; exact ⟨vs, ev, rpAll_box hb rv⟩
    | dk fs =>
      obtain ⟨kvs, ek, t⟩ := r
      exact ⟨kvs, ek, allD t lt⟩
    | dt fs =>
      obtain ⟨kvs, ek, t⟩ := r
      exact ⟨kvs, ek, allD t lt⟩
    | rcd fs =>
      obtain ⟨kvs, ek, t⟩ := r
      refine ⟨kvs, ek, ?_⟩
      have lt : (fs.all fun p => p.2.lt m.length) = true := lt
      exact all t lt
    | ins _ _ => exact r.elim
    | dead => exact True.intro
  · rcases hz a z with z | ⟨l, o, _, e, n, h⟩
    · exact R'.zt a z
    · rw [← h]
      exact (R'.ob l o e).there' n
  · rcases hz a z with z | ⟨l, o, hle, e, n, h⟩
    · exact R'.zl a z (live_take lv)
    · obtain ⟨l', o', e', n', h'⟩ := lv
      obtain ⟨h1, e'⟩ := take_get e'
      have := R'.inj l l' o o' e e' n n' (h.trans h'.symm)
      omega
theorem Fra.take (F : Fra f m H f' m' H') : Fra f m H f' (m'.take m.length) H' := by
  have hl : (m'.take m.length).length = m.length := by rw [List.length_take]; have := F.len; omega
  refine ⟨F.agree, fun l o h e n => ?_, F.keep, Nat.le_of_eq hl.symm, fun l e => ?_, F.mono⟩
  · have := (take_get e).1
    omega
  · rw [List.getElem?_take_of_lt (List.getElem?_eq_some_iff.mp e).1]
    exact F.dead l e
/-- a def's end: from what is wanted of the call, what is wanted of the body -/
theorem finish_ok {W : WX} {σ : L2.St} {keep : Bool} {x : SV} {Q : VK} (R : RS A f m H) (h : Po A W σ (RlV A true) f m H (finish keep m x m') Q) : ∀ f' H' v, RS A f' m' H' → Fra f m H f' m' H' → RlV A true H f' m' H' v x → Q v H' := by
  intro f' H' v R' F r
  unfold finish at h
  split at h
  · exact h f' H' v R' F r
  split at h
  case isFalse => exact h.elim
  rename_i ok
  have hl : (m'.take m.length).length = m.length := by rw [List.length_take]; have := F.len; omega
  have old : ∀ l o, l < m.length → m'[l]? = some o → o.lt m.length = true := fun l o h1 e => by
    rcases ok.2 l o h1 e with q | q
    · exact rpO_lt R q
    · exact q
  obtain ⟨T, B⟩ := trunc (Z2 := A.Z) R' F.len old fun b z => .inl z
  have fin : ∀ {a : Addr} {l : Nat} {xs : List PyData}, ¬ l < m.length → m'[l]? = some (.lst xs) → RlV A true H f' (m'.take m.length) H' (.ref (f' l)) (.d (.list xs)) := fun {a l xs} hlt e => by
    obtain ⟨vs, ev, rv⟩ := R'.ob l _ e
    have nB : ¬ Box A f' (m'.take m.length) (f' l) := fun z => by
      rcases z with z | ⟨l', o', e', n', h'⟩
      · exact R'.zl _ z (live_at e)
      · obtain ⟨h1, e'⟩ := take_get e'
        have := R'.inj _ _ _ _ e' e n' (fun z => nomatch z) h'
        omega
    refine ⟨.lst ev nB (rpAll_box B rv), fun _ a ea => ?_⟩
    cases ea
    obtain ⟨T2, B2⟩ := trunc (Z2 := fun b => A.Z b ∨ b = f' l) R' F.len old fun b z => z.elim .inl fun z => .inr ⟨l, _, by omega, e, (fun z => nomatch z), z.symm⟩
    exact ⟨F.new l _ (by omega) e (fun z => nomatch z), T2, vs, ev, rpAll_box B2 rv⟩
  split at h
  · rename_i y
    refine h f' H' v T F.take ⟨rp_box B r.1, fun z => ?_⟩
    have fr := r.2 z
    cases y with
    | list ds =>
      intro a ea
      obtain ⟨h1, h2, vs, h3, h4⟩ := fr a ea
      obtain ⟨T2, B2⟩ := trunc (A := A.plus a) (Z2 := fun b => A.Z b ∨ b = a) h2 F.len old fun b z => .inl z
      exact ⟨h1, T2, vs, h3, rpAll_box B2 h4⟩
    | _ => exact True.intro
  · rename_i l
    obtain ⟨rfl, hlt2⟩ := r.1
    split at h
    · rename_i hlt
      exact h f' H' _ T F.take ⟨⟨rfl, by rw [hl]; exact hlt⟩, fun _ => True.intro⟩
    · rename_i hlt
      split at h
      · rename_i xs e
        exact h f' H' _ T F.take (fin (a := f' l) hlt e)
      · exact h.elim
  · exact h f' H' v T F.take ⟨r.1, fun _ => True.intro⟩
  · exact h.elim
end
section
variable {P : Program} {w : World} {K : PySem.W.Frag} {mg : Str → Option Value} {base : Heap}
/-- a def of the text by its body's reading -/
theorem funG {x qual : Str} {st : Stmt} {f : Addr} {fd : FuncData} {N ps : List Str} {k : Nat} {sp : Sp} (F : Fun K x qual st f fd) (S : FnScope N ps (defScope st)) (len : ∀ vs H Q E, sp vs H Q E → vs.length = ps.length)
    (body : ∀ (cdv : Value) (A : Around) (outer : List Env) (s : Shared) (H : Hp) (vs : List V) (Q : VK) (E : XK), A.guards = some [] → Room k (A.deeper (envOfC qual (defScope st) s.heap.objs.size f cdv)) → sp vs H Q E →
      ∃ t, PSs (cxOf (L2.CX P w) P w K mg base N qual (defScope st) f cdv A outer s H E) (defBody st) t ∧ t { nx := fun _ H' => Q .non H', rt := Q } (start N vs) H) : FnG P w K mg base (L2.CX P w) (k + 1) f fd ps sp := by
  obtain ⟨oc, od, kV, doc, pm, an, cdv, ct, osl, e, lk, hcd⟩ := F.ex
  subst e
  exact fnG_of lk hcd S len fun A outer s H vs Q E hg hr hsp => body cdv A outer s H vs Q E hg hr hsp
end
/-! ### defs -/
/-- what is looked at in a def's scope -/
def scOk (N P : List Str) (sc : Scope) : Bool :=
  (match sc.kind with | .function => true | _ => false) && (!sc.isCoroutine && !sc.isGenerator) && (decide N.Nodup && decide (N.take P.length = P)) && (P.all fun x => match sc.names.lookup x with | some .local => true | some .cell => true | _ => false) && sc.names.all fun y => match y.2 with | .free => false | _ => true
theorem scOk_is {N P : List Str} {sc : Scope} (h : scOk N P sc = true) : FnScope N P sc := by
  unfold scOk at h
  simp only [Bool.and_eq_true, Bool.not_eq_true', decide_eq_true_eq, List.all_eq_true] at h
  obtain ⟨⟨⟨⟨h1, h2, h3⟩, h4, h5⟩, h6⟩, h7⟩ := h
  refine ⟨?_, h2, h3, h4, h5, fun x hx => ?_, fun y hy z => ?_⟩
  · split at h1
    · assumption
    · cases h1
  · have q := h6 x hx
    split at q
    · exact .inl (by assumption)
    · exact .inr (by assumption)
    · cases q
  · have q := h7 y hy
    rw [z] at q; cases q
structure Entry where
  g : Nat
  F : Fn
  st : Stmt
def tabG (T : List Entry) (g : Nat) : Option Fn := (T.find? fun e => e.g == g).map (·.F)
def ctxOf (T : List Entry) (gc : List (Str × Const)) (e : Entry) : Ctx := { N := e.F.ns, sc := defScope e.st, raw := defScope e.st, G := tabG T, gc := gc }
def okE (T : List Entry) (gc : List (Str × Const)) (e : Entry) : Bool := scOk e.F.ns e.F.ps (defScope e.st) && mSs (ctxOf T gc e) e.F.body (defBody e.st)
structure DefOk (K : PySem.W.Frag) (mg : Str → Option Value) (e : Entry) : Prop where
  ex : ∃ f fd, mg e.F.nm = some (.ref f) ∧ PySem.W.keepIn K (.ref f) = true ∧ Fun K e.F.nm e.F.nm e.st f fd ∧ Binds K fd e.F.ps []
section
variable {P : Program} {w : World} {mg : Str → Option Value} {base : Heap} {A : Ads} {T : List Entry} {gc : List (Str × Const)}
theorem find_mem {T : List Entry} {g : Nat} {F : Fn} (h : tabG T g = some F) : ∃ e ∈ T, e.F = F ∧ e.g = g := by
  obtain ⟨e, h1, h2⟩ := Option.map_eq_some_iff.mp h
  have hg := List.find?_some h1
  exact ⟨e, List.mem_of_find?_eq_some h1, h2, by simpa using hg⟩
theorem spI_len {n g : Nat} {F : Fn} (hF : tabG T g = some F) {vs : List V} {H : Hp} {Q : VK} {E : XK} (h : spI A (tabG T) n g vs H Q E) : vs.length = F.ps.length := by
  obtain ⟨Z, f, m, xs, R, r, h⟩ := h
  cases n with
  | zero => exact h.elim
  | succ n =>
    unfold callI at h
    rw [hF] at h
    dsimp only at h
    split at h
    · rw [paired_len r]; assumption
    · exact h.elim
theorem re_start {Z : Addr → Prop} {f : Nat → Addr} {m : Sto} {H : Hp} : ∀ {vs : List V} {xs : List SV} {k : Nat}, Paired (RpS (A.z Z) f m H) vs xs → RE (A.z Z) f m H (vs.map some ++ List.replicate k none) (xs.map some ++ List.replicate k none) := fun {vs xs k} r => by
  refine ⟨by simp [paired_len r], fun i x e => ?_⟩
  induction r generalizing i with
  | nil =>
    rw [List.map_nil, List.nil_append] at e
    obtain ⟨_, h⟩ := List.getElem?_eq_some_iff.mp e
    rw [List.getElem_replicate] at h
    cases h
  | cons h t ih =>
    cases i with
    | zero =>
      cases e
      exact ⟨_, rfl, h⟩
    | succ i => exact ih i e
theorem body_ok {Z : Addr → Prop} {f : Nat → Addr} {m : Sto} {H : Hp} {Q : VK} {E : XK} {keep : Bool} {F : Fl} (R : RS (A.z Z) f m H) (h : Po (A.z Z) (fun cl d _ H => E cl d H) [] (RlV (A.z Z) true) f m H (finX keep m F) Q) :
    PoF (A.z Z) (fun cl d _ H => E cl d H) f m H F { nx := fun _ H' => Q .non H', rt := Q } := by
  cases F with
  | bad => exact h
  | next r m' => exact fun f' H' σ' a b c => finish_ok R h f' H' .non a b ⟨.non, fun _ => True.intro⟩
  | ret x m' => exact fun f' H' v a b c => finish_ok R h f' H' v a b c
  | brk r m' => exact h.elim
  | cont r m' => exact h.elim
  | exc x r m' =>
    intro f' H' σ' cl d a b c e
    have h : Po (A.z Z) (fun cl d _ H => E cl d H) [] (RlV (A.z Z) true) f m H (match finish keep m (.d .none) m' with
      | .ok _ m'' => .exc x m''
      | _ => .bad) Q := h
    unfold finish at h
    split at h
    · rename_i q
      split at q
      · cases q
        exact h f' H' cl d a b e
      · split at q
        · rename_i ok
          cases q
          refine h f' H' cl d (trunc (Z2 := Z) a b.len (fun l o h1 e => ?_) fun b z => .inl z).1 b.take e
          rcases ok.2 l o h1 e with q | q
          · exact rpO_lt R q
          · exact q
        · cases q
    · exact h.elim
theorem fun_look {K : PySem.W.Frag} {x q : Str} {st : Stmt} {f : Addr} {fd : FuncData} (F : Fun K x q st f fd) : ∃ oc od osl, K.lookup f = some ⟨oc, od, .func fd, osl⟩ := by
  obtain ⟨oc, od, kV, doc, pm, an, cdv, ct, osl, _, lk, _⟩ := F.ex
  exact ⟨oc, od, osl, lk⟩
theorem fns_ok (hT : ∀ e ∈ T, okE T gc e = true ∧ DefOk A.K mg e) (hb : ∀ x ∈ bltNames, mg x = none) (hgc : ∀ x k, gc.lookup x = some k → ∃ u, mg x = some u ∧ RelV (vOf k) u) :
    ∀ n g F, tabG T g = some F → ∃ f fd, mg F.nm = some (.ref f) ∧ PySem.W.keepIn A.K (.ref f) = true ∧ Binds A.K fd F.ps [] ∧ FnG P w A.K mg base (L2.CX P w) n f fd F.ps (spI A (tabG T) n g) ∧ ∃ oc od osl, A.K.lookup f = some ⟨oc, od, .func fd, osl⟩
  | 0, g, F, hF => by
    obtain ⟨e, he, rfl, rfl⟩ := find_mem hF
    obtain ⟨_, ⟨f, fd, h1, h2, h3, h4⟩⟩ := hT e he
    exact ⟨f, fd, h1, h2, h4, ⟨fun vs H Q E h => by obtain ⟨Z, f, m, xs, R, r, h⟩ := h; exact h.elim, fun A outer s H args us vs Q E hgd hr e0 hbd hv hs => by obtain ⟨Z, f, m, xs, R, r, h⟩ := hs; exact h.elim⟩, fun_look h3⟩
  | n + 1, g, F, hF => by
    have ih := fns_ok hT hb hgc n
    obtain ⟨e, he, e1, rfl⟩ := find_mem hF
    obtain ⟨okc, ⟨f, fd, h1, h2, h3, h4⟩⟩ := hT e he
    subst e1
    unfold okE at okc
    rw [Bool.and_eq_true] at okc
    have S := scOk_is okc.1
    refine ⟨f, fd, h1, h2, h4, funG h3 S (fun vs H Q E h => spI_len hF h) fun cdv A' outer s H vs Q E hgd hr hs => ?_, fun_look h3⟩
    have hlen := spI_len hF hs
    obtain ⟨Z, f0, m, xs, R, r, h⟩ := hs
    unfold callI at h
    rw [hF] at h
    dsimp only at h
    split at h
    case isFalse => exact h.elim
    have ih' : ∀ g F, tabG T g = some F → ∃ f fd, mg F.nm = some (.ref f) ∧ PySem.W.keepIn A.K (.ref f) = true ∧ Binds A.K fd F.ps [] ∧ FnG P w A.K mg base (L2.CX P w) n f fd F.ps (spI A (tabG T) n g) := fun g F hg => by
      obtain ⟨f, fd, a, b, c, d, _⟩ := ih g F hg
      exact ⟨f, fd, a, b, c, d⟩
    have ok : OkX A (ctxOf T gc e) (cxOf (L2.CX P w) P w A.K mg base e.F.ns e.F.nm (defScope e.st) f cdv A' outer s H E) n n (fun cl d _ H => E cl d H) := {
      N := rfl
      sc := rfl
      nd := S.nd
      calm := rfl
      K := rfl
      room := hr
      gd := hgd
      take := takes_of rfl rfl rfl rfl
      po := passes_of rfl
      st := fun x hx => by
        refine ⟨?_, .inl rfl⟩
        have hx : (match (defScope e.st).names.lookup x with | some .local => true | some .cell => true | _ => false) = true := hx
        split at hx
        · exact .inl (by assumption)
        · exact .inr (by assumption)
        · cases hx
      blt := hb
      gc := hgc
      fn := ih' }
    refine ⟨_, sSs e.F.body A _ _ n n _ _ ok okc.2 Z, f0, m, _, R, ?_, body_ok R h⟩
    have : L2.start e.F.ns vs = vs.map some ++ List.replicate (e.F.ns.length - xs.length) none := by unfold L2.start; rw [paired_len r]
    rw [this]
    exact re_start r
/-! ### the end -/
structure DefK (K : PySem.W.Frag) (x : Str) (st : Stmt) : Prop where
  ex : ∃ (f : Addr) (oc : Value) (od an : Option Addr) (sl : Array (Option Value)) (kV dc pm cd ct : Value), PySem.W.nsIn K mainGlobals x = some (some (.ref f)) ∧ K.lookup f = some ⟨oc, od, .func (PySem.W.fnOf x x (defArgs st) (defBody st) (defScope st) .none kV dc pm an cd ct), sl⟩ ∧ PySem.W.codeIn K cd x = true ∧ PySem.W.keepIn K (.ref f) = true
theorem defK_mk {K : PySem.W.Frag} {x : Str} {st : Stmt} {f : Addr} {oc : Value} {od an : Option Addr} {sl : Array (Option Value)} {kV dc pm cd ct : Value} (a : PySem.W.nsIn K mainGlobals x = some (some (.ref f))) (l : K.lookup f = some ⟨oc, od, .func (PySem.W.fnOf x x (defArgs st) (defBody st) (defScope st) .none kV dc pm an cd ct), sl⟩) (c : PySem.W.codeIn K cd x = true) (k : PySem.W.keepIn K (.ref f) = true) : DefK K x st :=
  ⟨f, oc, od, an, sl, kV, dc, pm, cd, ct, a, l, c, k⟩
/-- its parameters bind one to one -/
def Plain (st : Stmt) (ps : List Str) : Prop := ∀ (x : Str) (kV doc pm : Value) (an : Option Addr) (cdv ct : Value) (us : List Value), us.length = ps.length → bindArgs (PySem.W.fnOf x x (defArgs st) (defBody st) (defScope st) .none kV doc pm an cdv ct) ⟨us, []⟩ = pure (ps.zip us)
structure TabK (K : PySem.W.Frag) (T : List Entry) (gc : List (Str × Const)) : Prop where
  defs : ∀ e ∈ T, DefK K e.F.nm e.st
  blt : ∀ x ∈ bltNames, PySem.W.nsIn K mainGlobals x = some none
  gcs : ∀ x k, gc.lookup x = some k → ∃ u, PySem.W.nsIn K mainGlobals x = some (some u) ∧ RelV (vOf k) u
theorem tab_end {l : PySem.W.OpenLaw} {K : PySem.W.Frag} {h : Heap} {fa : Addr} {g0 n : Nat} {F0 : Fn} {x0 : Str} (hT : T.all (okE T gc) = true) (hP : ∀ e ∈ T, Plain e.st e.F.ps) (h0 : tabG T g0 = some F0) (hps : F0.ps = [x0]) (KX : K.In h) (G : h.Ns mainGlobals mg) (hfa : mg F0.nm = some (.ref fa)) (B : TabK K T gc) :
    ∃ fd : FuncData, (∀ (s : Shared) (u : Value), BindsTo s fd ⟨[u], []⟩ [(x0, u)]) ∧ ∀ base : Heap, K.In base → base.Ns mainGlobals mg → FnG l.prog w K mg base (L2.CX l.prog w) n fa fd [x0] (spI ⟨K, fun _ => 0, fun _ => 0, fun _ => False⟩ (tabG T) n g0) := by
  have dk : ∀ e ∈ T, DefOk K mg e := fun e he => by
    obtain ⟨f, oc, od, an, sl, kV, dc, pm, cd, ct, a, l, c, k⟩ := B.defs e he
    have F1 := fun_mk (st := e.st) l c k
    exact ⟨_, _, PySem.W.mg_of KX G a, k, F1, F1.binds (fun kV doc pm an cdv ct us hl => hP e he _ kV doc pm an cdv ct us hl)⟩
  have all : ∀ e ∈ T, okE T gc e = true ∧ DefOk K mg e := fun e he => ⟨List.all_eq_true.mp hT e he, dk e he⟩
  have main := fun base => fns_ok (P := l.prog) (w := w) (base := base) (A := ⟨K, fun _ => 0, fun _ => 0, fun _ => False⟩) (gc := gc) all (fun x hx => PySem.W.mg_none_of KX G (B.blt x hx)) (fun x k hx => by
    obtain ⟨u, h1, h2⟩ := B.gcs x k hx
    exact ⟨u, PySem.W.mg_of KX G h1, h2⟩) n g0 F0 h0
  obtain ⟨e, he, e1, e2⟩ := find_mem h0
  subst e1
  obtain ⟨f, oc, od, an, sl, kV, dc, pm, cd, ct, a, lk, c, k⟩ := B.defs e he
  have ef : fa = f := by
    have := hfa.symm.trans (PySem.W.mg_of KX G a)
    cases this; rfl
  subst ef
  refine ⟨PySem.W.fnOf e.F.nm e.F.nm (defArgs e.st) (defBody e.st) (defScope e.st) .none kV dc pm an cd ct, fun s u => .of_eq ?_, fun base hbase hns => ?_⟩
  · have := hP e he e.F.nm kV dc pm an cd ct [u] (by rw [hps]; rfl)
    rw [hps] at this
    exact this
  · obtain ⟨f', fd', a', _, _, d', oc', od', osl', lk'⟩ := main base
    have ef : f' = fa := by
      have := a'.symm.trans hfa
      cases this; rfl
    subst ef
    have q := lk'.symm.trans lk
    have q : fd' = PySem.W.fnOf e.F.nm e.F.nm (defArgs e.st) (defBody e.st) (defScope e.st) .none kV dc pm an cd ct := by
      injection q with q
      injection q with _ _ q _
      injection q
    rw [hps, q] at d'
    exact d'
theorem sp_end {K : PySem.W.Frag} {g0 n : Nat} (hE : ∀ ns : List Int, ns.length ≤ 63 → ∃ m, callI (tabG T) n g0 [.ext ns] [] = .ok (.d (.bool true)) m) (H : Hp) (a : Addr) (ns : List Int) (hl : ns.length ≤ 63) (hO : Only H) (hS : SqL K H a (ns.map V.int)) :
    spI ⟨K, fun _ => 0, fun _ => 0, fun _ => False⟩ (tabG T) n g0 [.ref a] H (fun v _ => v = .bl true) fun _ _ _ => False := by
  obtain ⟨m', e⟩ := hE ns hl
  have nb : ∀ b, ¬ Box ((⟨K, fun _ => 0, fun _ => 0, fun _ => False⟩ : Ads).z fun _ => False) (fun _ => 0) [] b := fun b z => by
    rcases z with z | ⟨l, o, e, _⟩
    · exact z
    · simp at e
  refine ⟨fun _ => False, fun _ => 0, [], [.ext ns], ⟨fun l o e => by simp at e, fun l l' o o' e => by simp at e, fun a z => z.elim, fun a z => z.elim⟩, .cons ⟨a, rfl, ?_⟩ .nil, ?_⟩
  · rcases hS with z | z
    · rcases hO a with q | ⟨o, xs, q⟩
      · rcases z with z | ⟨o, z⟩
        · rw [q] at z; cases z
        · rw [q] at z; cases z
      · rcases z with z | ⟨o', z⟩
        · rw [q] at z; cases z
        · exact .inl ⟨nb a, o', z⟩
    · exact .inr z
  · rw [e]
    exact fun f' H' v R F r => (Rq.of r.1).bool
end
end Pil

set_option Elab.async false
set_option linter.all false
set_option autoImplicit false
set_option maxRecDepth 100000
set_option maxHeartbeats 4000000
namespace Pil
open PySem PySem.Spec PyProof.Rows L2
/-! ### calls, in short -/
section
variable {G : Nat → Option Fn} {n g : Nat} {F : Fn} {xs : List SV} {m m' : Sto}
theorem callI_s (h : G g = some F) (hl : xs.length = F.ps.length) : callI G (n + 1) g xs m = finX F.keep m (exs (callI G n) F.body (xs.map some ++ List.replicate (F.ns.length - xs.length) none) m) := by
  show (match G g with
    | none => Out.bad
    | some F => if xs.length = F.ps.length then finX F.keep m (exs (callI G n) F.body (xs.map some ++ List.replicate (F.ns.length - xs.length) none) m) else .bad) = _
  rw [h]
  exact if_pos hl
/-- old places keep to themselves -/
theorem old_of {a b c : Sto} (hl : b.length = a.length) (h : ∀ o ∈ b, o.lt a.length = true) {rest : Sto} : OkOld (a ++ rest) (b ++ (rest ++ c)) := by
  refine ⟨by simp only [List.length_append]; omega, fun l o h1 e => ?_⟩
  by_cases h2 : l < b.length
  · rw [List.getElem?_append_left h2] at e
    refine .inr ?_
    have := h o (List.mem_of_getElem? e)
    have up : ∀ {x : SV}, x.lt a.length = true → x.lt (a ++ rest).length = true := fun {x} q => by
      cases x with
      | ref l =>
        have q : l < a.length := of_decide_eq_true q
        exact decide_eq_true (by rw [List.length_append]; omega)
      | _ => rfl
    cases o with
    | rcd fs =>
      have this : (fs.all fun p => p.2.lt a.length) = true := this
      show (fs.all fun p => p.2.lt (a ++ rest).length) = true
      rw [List.all_eq_true] at this ⊢
      exact fun p hp => up (this p hp)
    | dk fs =>
      have this : (fs.all fun p => p.2.lt a.length) = true := this
      show (fs.all fun p => p.2.lt (a ++ rest).length) = true
      rw [List.all_eq_true] at this ⊢
      exact fun p hp => up (this p hp)
    | dt fs =>
      have this : (fs.all fun p => p.2.lt a.length) = true := this
      show (fs.all fun p => p.2.lt (a ++ rest).length) = true
      rw [List.all_eq_true] at this ⊢
      exact fun p hp => up (this p hp)
    | ins c fs =>
      have this : (fs.all fun p => p.2.lt a.length) = true := this
      show (fs.all fun p => p.2.lt (a ++ rest).length) = true
      rw [List.all_eq_true] at this ⊢
      exact fun p hp => up (this p hp)
    | _ => rfl
  · have h1' : l - b.length < rest.length := by rw [List.length_append] at h1; omega
    rw [List.getElem?_append_right (by omega), List.getElem?_append_left h1'] at e
    refine .inl ?_
    rw [List.getElem?_append_right (by omega), ← hl]
    exact e
theorem fin_d {y : PyData} (h : OkOld m m') : finish false m (.d y) m' = .ok (.d y) (m'.take m.length) := by
  unfold finish
  rw [if_neg Bool.false_ne_true, if_pos h]
theorem fin_l {l : Nat} {ys : List PyData} (h : OkOld m m') (hl : m.length ≤ l) (e : m'[l]? = some (.lst ys)) : finish false m (.ref l) m' = .ok (.d (.list ys)) (m'.take m.length) := by
  unfold finish
  rw [if_neg Bool.false_ne_true, if_pos h]
  dsimp only
  rw [if_neg (by omega), e]
end
/-! ### the deck of numbers -/
structure Deck where
  cs : List Int
  a : Int
  s : Int
def Deck.st (k : Deck) : Sto := [.lst (k.cs.map .int), .rcd [("cells", .ref 0), ("at", .d (.int k.a)), ("sum", .d (.int k.s))]]
structure Deck.Ok (k : Deck) (B : Int) : Prop where
  len : k.cs.length ≤ 63
  lo : 0 ≤ k.a
  hi : k.a ≤ B
theorem deck_old {k k' : Deck} {rest c : Sto} : OkOld (k.st ++ rest) (k'.st ++ (rest ++ c)) := old_of (a := k.st) (b := k'.st) rfl fun o ho => by
  have ho : o ∈ [Ob.lst (k'.cs.map .int), .rcd [("cells", .ref 0), ("at", .d (.int k'.a)), ("sum", .d (.int k'.s))]] := ho
  rcases List.mem_cons.mp ho with rfl | ho
  · rfl
  · rcases List.mem_cons.mp ho with rfl | ho
    · rfl
    · cases ho
theorem deck_take {k k' : Deck} {rest c : Sto} : (k'.st ++ (rest ++ c)).take (k.st ++ rest).length = k'.st ++ rest := by
  rw [← List.append_assoc]
  exact List.take_left' (by simp [Deck.st])
/-- a def that draws, at its end -/
theorem fin_deck {k k' : Deck} {rest c : Sto} {y : PyData} : finX false (k.st ++ rest) (.ret (.d y) (k'.st ++ (rest ++ c))) = .ok (.d y) (k'.st ++ rest) := by
  show finish false _ _ _ = _
  rw [fin_d deck_old, deck_take]
theorem fin_deckL {k k' : Deck} {rest c : Sto} {i : Nat} {ys : List PyData} (h : c[i]? = some (.lst ys)) : finX false (k.st ++ rest) (.ret (.ref ((k.st ++ rest).length + i)) (k'.st ++ (rest ++ c))) = .ok (.d (.list ys)) (k'.st ++ rest) := by
  show finish false _ _ _ = _
  rw [fin_l deck_old (by omega) ?_, deck_take]
  rw [← List.append_assoc, List.getElem?_append_right (by simp [Deck.st]), ← h]
  congr 1
  simp [Deck.st]
def F6 : Fn := { nm := "_law_draw", ps := ["_law_deck_here", "_law_most"], ns := ["_law_deck_here", "_law_most", "_law_at", "_law_cells", "_law_seed", "_law_number"], keep := false, body := (.cons (.sti (.var 0) (.cst (.str "at")) (.bin .add (.idx (.var 0) (.cst (.str "at"))) (.cst (.int 1))))
  (.cons (.set 2 (.idx (.var 0) (.cst (.str "at"))))
  (.cons (.set 3 (.idx (.var 0) (.cst (.str "cells"))))
  (.cons (.set 4 (.bin .add (.idx (.var 0) (.cst (.str "sum"))) (.var 2)))
  (.cons (.iff (.cmp .ne (.var 3) (.lst .nil))
 (.cons (.set 4 (.mth .pop (.var 3) (.cons (.cst (.int 0)) .nil)))
  (.cons (.iff (.cmp .ge (.var 4) (.bin .pow (.cst (.int 10)) (.cst (.int 18))))
 (.cons (.expr (.mth .insert (.var 3) (.cons (.cst (.int 0)) (.cons (.bin .fdiv (.var 4) (.var 1)) .nil))))
  (.cons (.ret (.bin .mod (.var 4) (.var 1)))
  .nil))
 .nil)
  .nil))
 .nil)
  (.cons (.set 5 (.bin .mod (.bin .add (.bin .add (.bin .mul (.bin .mod (.var 4) (.cst (.int 2147483647))) (.cst (.int 48271))) (.bin .mul (.bin .mul (.cst (.int 69621)) (.var 2)) (.var 2))) (.cst (.int 7919))) (.cst (.int 2147483629))))
  (.cons (.set 5 (.bin .mod (.bin .mul (.var 5) (.var 5)) (.cst (.int 2147483587))))
  (.cons (.ret (.bin .mod (.bin .fdiv (.bin .mod (.bin .mul (.var 5) (.bin .add (.var 5) (.cst (.int 39373)))) (.cst (.int 2147483563))) (.cst (.int 64))) (.var 1)))
  .nil)))))))) }
/-! ### operations, one rule each -/
section
variable {i j : Int} {x y : Str} {b c : Bool} {xs ys : List PyData} {u v : PyData}
theorem bop_addI : bop .add (.int i) (.int j) = some (.int (i + j)) := rfl
theorem bop_subI : bop .sub (.int i) (.int j) = some (.int (i - j)) := rfl
theorem bop_mulI (h : small64 i = true ∨ small64 j = true) : bop .mul (.int i) (.int j) = some (.int (i * j)) := by
  show (if small64 i || small64 j then _ else _) = _
  rw [if_pos (by rw [Bool.or_eq_true]; exact h)]
theorem bop_modI (h : 0 < j) : bop .mod (.int i) (.int j) = some (.int (i % j)) := if_pos h
theorem bop_fdivI (h : 0 < j) (h2 : j < 1073741824) : bop .fdiv (.int i) (.int j) = some (.int (i / j)) := by
  show (if decide (0 < j) && decide (j < 1073741824) then _ else _) = _
  rw [decide_eq_true h, decide_eq_true h2]; rfl
theorem bop_pow18 : bop .pow (.int 10) (.int 18) = some (.int 1000000000000000000) := by simp [bop]
theorem bop_addS (h : x.length + y.length ≤ 16777216) : bop .add (.str x) (.str y) = some (.str (x ++ y)) := if_pos (decide_eq_true h)
theorem bop_addT (h : xs.length + ys.length ≤ 16777216) : bop .add (.tuple xs) (.tuple ys) = some (.tuple (xs ++ ys)) := if_pos (decide_eq_true h)
theorem bop_addL (h : xs.length + ys.length ≤ 16777216) : bop .add (.list xs) (.list ys) = some (.list (xs ++ ys)) := if_pos (decide_eq_true h)
theorem cop_eq : cop .eq u v = eqD u v := rfl
theorem cop_ne : cop .ne u v = (eqD u v).map not := rfl
theorem cop_ltI : cop .lt (.int i) (.int j) = some (decide (i < j)) := rfl
theorem cop_leI : cop .le (.int i) (.int j) = some (decide (i ≤ j)) := rfl
theorem cop_gtI : cop .gt (.int i) (.int j) = some (decide (j < i)) := rfl
theorem cop_geI : cop .ge (.int i) (.int j) = some (decide (j ≤ i)) := rfl
theorem eqD_ii : eqD (.int i) (.int j) = some (i == j) := rfl
theorem eqD_ss : eqD (.str x) (.str y) = some (x == y) := rfl
theorem eqD_bb : eqD (.bool b) (.bool c) = some (b == c) := rfl
theorem fits_lit {n : Nat} (h : n ≤ 16777216) : fitsN n = true := decide_eq_true h
theorem small_of (h : -(2 ^ 64) < i) (h2 : i < 2 ^ 64) : small64 i = true := by
  unfold small64
  rw [decide_eq_true h, decide_eq_true h2]; rfl
end
/-! ### data that can be compared -/
structure Fine (n : Nat) (d : PyData) : Prop where
  lay : d.canLay0 = true
  dep : d.depth ≤ n
theorem Fine.shaped {n : Nat} {d : PyData} (h : Fine n d) (hn : n ≤ 64) : SeqAt.shaped d = true := by
  unfold SeqAt.shaped
  rw [h.lay, Bool.true_and]
  exact decide_eq_true (Nat.le_trans h.dep hn)
theorem Fine.mono {n k : Nat} {d : PyData} (h : Fine n d) (hn : n ≤ k) : Fine k d := ⟨h.lay, Nat.le_trans h.dep hn⟩
theorem fine_int {n : Nat} {i : Int} : Fine n (.int i) := ⟨by simp [PyData.canLay0], by simp [PyData.depth]⟩
theorem fine_bool {n : Nat} {i : Bool} : Fine n (.bool i) := ⟨by simp [PyData.canLay0], by simp [PyData.depth]⟩
theorem fine_none {n : Nat} : Fine n .none := ⟨by simp [PyData.canLay0], by simp [PyData.depth]⟩
theorem fine_str {n : Nat} {x : Str} (h : PyData.strOk x = true) : Fine n (.str x) := ⟨by simp [PyData.canLay0, h], by simp [PyData.depth]⟩
theorem fine_all {n : Nat} : ∀ {xs : List PyData}, (∀ x ∈ xs, Fine n x) → PyData.canLayAll0 xs = true ∧ PyData.depthAll xs ≤ n
  | [], _ => ⟨by simp [PyData.canLayAll0], by simp [PyData.depthAll]⟩
  | x :: xs, h => by
    obtain ⟨h1, h2⟩ := fine_all (xs := xs) fun y hy => h y (List.mem_cons_of_mem _ hy)
    have h3 := h x List.mem_cons_self
    exact ⟨by simp [PyData.canLayAll0, h1, h3.lay], by simp only [PyData.depthAll]; exact Nat.max_le.mpr ⟨h3.dep, h2⟩⟩
theorem fine_list {n : Nat} {xs : List PyData} (h : ∀ x ∈ xs, Fine n x) : Fine (n + 1) (.list xs) := by
  obtain ⟨h1, h2⟩ := fine_all h
  exact ⟨by simp [PyData.canLay0, h1], by simp only [PyData.depth]; omega⟩
theorem fine_tup {n : Nat} {xs : List PyData} (h : ∀ x ∈ xs, Fine n x) : Fine (n + 1) (.tuple xs) := by
  obtain ⟨h1, h2⟩ := fine_all h
  exact ⟨by simp [PyData.canLay0, h1], by simp only [PyData.depth]; omega⟩
theorem fine_ints {xs : List Int} : Fine 1 (.list (xs.map .int)) := fine_list fun x hx => by
  obtain ⟨i, _, rfl⟩ := List.mem_map.mp hx
  exact fine_int
theorem fine_nil {n : Nat} : Fine (n + 1) (.list []) := fine_list fun x hx => by cases hx
theorem eqD_nil {xs : List PyData} {n : Nat} (h : Fine n (.list xs)) (hn : n ≤ 64) : eqD (.list xs) (.list []) = some xs.isEmpty := by
  have h2 : SeqAt.shaped (.list []) = true := fine_nil (n := 0) |>.shaped (by decide)
  show (if SeqAt.shaped (.list xs) && SeqAt.shaped (.list []) then some (PyData.eqv (.list xs) (.list [])) else none) = _
  rw [h.shaped hn, h2]
  cases xs <;> simp [PyData.eqv, PyData.eqvAll]
theorem set0 {a b : Ob} {r : Sto} : List.set (a :: r) 0 b = b :: r := rfl
theorem set1 {a b c : Ob} {r : Sto} : List.set (a :: c :: r) 1 b = a :: b :: r := rfl
def drawN (seed at_ most : Int) : Int :=
  let n1 := (seed % 2147483647 * 48271 + 69621 * at_ * at_ + 7919) % 2147483629
  let n2 := n1 * n1 % 2147483587
  n2 * (n2 + 39373) % 2147483563 / 64 % most
theorem drawN_lo {x y z : Int} (h : 0 < z) : 0 ≤ drawN x y z := Int.emod_nonneg _ (by omega)
theorem drawN_hi {x y z : Int} (h : 0 < z) : drawN x y z < z := Int.emod_lt_of_pos _ h
section
variable {x y z w : SV}
theorem dk_cells : List.lookup ("cells" : Str) [(("cells" : Str), x), ("at", y), ("sum", z)] = some x := rfl
theorem dk_at : List.lookup ("at" : Str) [(("cells" : Str), x), ("at", y), ("sum", z)] = some y := rfl
theorem dk_sum : List.lookup ("sum" : Str) [(("cells" : Str), x), ("at", y), ("sum", z)] = some z := rfl
theorem dk_put : putF ("at" : Str) w [(("cells" : Str), x), ("at", y), ("sum", z)] = [(("cells" : Str), x), ("at", w), ("sum", z)] := rfl
end
theorem draw_ok {G : Nat → Option Fn} {n : Nat} (h6 : G 6 = some F6) {k : Deck} {B most : Int} (hk : k.Ok B) (hB : B < 2 ^ 60) (h0 : 0 < most) (h1 : most < 2 ^ 30) (rest : Sto) :
    ∃ (r : Int) (k' : Deck), callI G (n + 1) 6 [.ref 1, .d (.int most)] (k.st ++ rest) = .ok (.d (.int r)) (k'.st ++ rest) ∧ 0 ≤ r ∧ r < most ∧ k'.Ok (B + 1) := by
  obtain ⟨cs, a, s⟩ := k
  obtain ⟨hl, ha, hb⟩ := hk
  dsimp only at hl ha hb
  rw [callI_s h6 rfl]
  have fin : ∀ {cs' : List Int} {r : Int}, cs'.length ≤ 63 → 0 ≤ r → r < most → exs (callI G n) F6.body ([SV.ref 1, .d (.int most)].map some ++ List.replicate (F6.ns.length - 2) none) ((Deck.mk cs a s).st ++ rest) = .ret (.d (.int r)) ((Deck.mk cs' (a + 1) s).st ++ rest) →
      ∃ (r : Int) (k' : Deck), finX F6.keep ((Deck.mk cs a s).st ++ rest) (exs (callI G n) F6.body ([SV.ref 1, .d (.int most)].map some ++ List.replicate (F6.ns.length - 2) none) ((Deck.mk cs a s).st ++ rest)) = .ok (.d (.int r)) (k'.st ++ rest) ∧ 0 ≤ r ∧ r < most ∧ k'.Ok (B + 1) := fun {cs' r} q1 q2 q3 e => by
    rw [e]
    have := fin_deck (k := ⟨cs, a, s⟩) (k' := ⟨cs', a + 1, s⟩) (rest := rest) (c := []) (y := .int r)
    rw [List.append_nil] at this
    exact ⟨r, _, this, q2, q3, ⟨q1, by show 0 ≤ a + 1; omega, by show a + 1 ≤ B + 1; omega⟩⟩
  have en : eqD (.list (cs.map .int)) (.list []) = some (cs.map PyData.int).isEmpty := eqD_nil fine_ints (by decide)
  have s1 : small64 48271 = true := by decide
  have s2 : small64 69621 = true := by decide
  have s3 : small64 (a + 1) = true := small_of (by omega) (by omega)
  have s4 : ∀ x : Int, small64 (x % 2147483629) = true := fun x => small_of (by omega) (by omega)
  have s5 : ∀ x : Int, small64 (x % 2147483587) = true := fun x => small_of (by omega) (by omega)
  have h1' : most < 1073741824 := h1
  cases cs with
  | nil =>
    refine fin (cs' := []) (r := drawN (s + (a + 1)) (a + 1) most) (by decide) (drawN_lo h0) (drawN_hi h0) ?_
    have en : eqD (.list []) (.list []) = some true := en
    simp only [F6, Deck.st, exs, ex, ev, evs, evo, evT, evI, Fl.of, Out.bind, Out.of, Out.nox, dat, datX, datP, datAll, dOf, seqI, lockM, openM, Fl.open_, boxK, freshE, retOk, asgT, asgTs, List.map_cons, List.map_nil, List.cons_append, List.nil_append, List.getElem?_cons_zero, List.getElem?_cons_succ, List.length_cons, List.length_nil, List.replicate, Option.bind_some, Option.map_some, Option.isSome_some, List.set_cons_zero, List.set_cons_succ, Nat.zero_add, Nat.reduceAdd, Nat.reduceSub, Nat.reduceLT, Nat.reduceLeDiff, Nat.reduceEqDiff, Int.reduceNeg, Int.reduceLT, Int.reduceLE, Int.reduceAdd, Int.reduceSub, decide_true, decide_false, Bool.and_self, Bool.and_true, Bool.true_and, Bool.and_false, Bool.false_and, Bool.or_true, Bool.true_or, Bool.or_false, Bool.false_or, Bool.not_true, Bool.not_false, ↓reduceIte, Bool.false_eq_true, truD, bop_addI, bop_subI, bop_mulI, bop_modI, bop_fdivI, bop_pow18, bop_addS, bop_addT, bop_addL, cop_eq, cop_ne, cop_ltI, cop_leI, cop_gtI, cop_geI, eqD_ii, eqD_ss, eqD_bb, fits_lit, recvOk, recvOk.isL, isMut, isDic, dk_cells, dk_at, dk_sum, dk_put, List.take, killR, List.foldl, List.zip, List.zipWith, en, s1, s2, s3, s4, s5, or_true, true_or, h0, h1']
    rfl
  | cons c cs =>
    have en : eqD (.list (.int c :: cs.map .int)) (.list []) = some false := en
    have pp : ∀ xs : List PyData, mmu .pop (.int c :: xs) [.int 0] = some (xs, .int c) := fun xs => by
      simp only [mmu]
      rw [if_pos (by decide)]
      simp [seqIndex?]
    by_cases hc : 1000000000000000000 ≤ c
    · refine fin (cs' := c / most :: cs) (r := c % most) hl (Int.emod_nonneg _ (by omega)) (Int.emod_lt_of_pos _ h0) ?_
      have ins : mmu .insert (cs.map .int) [.int 0, .int (c / most)] = some (.int (c / most) :: cs.map .int, .none) := by
        simp only [mmu]
        rw [if_pos ?_]
        simp at hl ⊢
        omega
      simp only [F6, Deck.st, exs, ex, ev, evs, evo, evT, evI, Fl.of, Out.bind, Out.of, Out.nox, dat, datX, datP, datAll, dOf, seqI, lockM, openM, Fl.open_, boxK, freshE, retOk, asgT, asgTs, List.map_cons, List.map_nil, List.cons_append, List.nil_append, List.getElem?_cons_zero, List.getElem?_cons_succ, List.length_cons, List.length_nil, List.replicate, Option.bind_some, Option.map_some, Option.isSome_some, List.set_cons_zero, List.set_cons_succ, Nat.zero_add, Nat.reduceAdd, Nat.reduceSub, Nat.reduceLT, Nat.reduceLeDiff, Nat.reduceEqDiff, Int.reduceNeg, Int.reduceLT, Int.reduceLE, Int.reduceAdd, Int.reduceSub, decide_true, decide_false, Bool.and_self, Bool.and_true, Bool.true_and, Bool.and_false, Bool.false_and, Bool.or_true, Bool.true_or, Bool.or_false, Bool.false_or, Bool.not_true, Bool.not_false, ↓reduceIte, Bool.false_eq_true, truD, bop_addI, bop_subI, bop_mulI, bop_modI, bop_fdivI, bop_pow18, bop_addS, bop_addT, bop_addL, cop_eq, cop_ne, cop_ltI, cop_leI, cop_gtI, cop_geI, eqD_ii, eqD_ss, eqD_bb, fits_lit, recvOk, recvOk.isL, isMut, isDic, dk_cells, dk_at, dk_sum, dk_put, List.take, killR, List.foldl, List.zip, List.zipWith, en, pp, ins, s1, s2, s3, s4, s5, or_true, true_or, h0, h1', hc]
    · refine fin (cs' := cs) (r := drawN c (a + 1) most) (by simp at hl; omega) (drawN_lo h0) (drawN_hi h0) ?_
      simp only [F6, Deck.st, exs, ex, ev, evs, evo, evT, evI, Fl.of, Out.bind, Out.of, Out.nox, dat, datX, datP, datAll, dOf, seqI, lockM, openM, Fl.open_, boxK, freshE, retOk, asgT, asgTs, List.map_cons, List.map_nil, List.cons_append, List.nil_append, List.getElem?_cons_zero, List.getElem?_cons_succ, List.length_cons, List.length_nil, List.replicate, Option.bind_some, Option.map_some, Option.isSome_some, List.set_cons_zero, List.set_cons_succ, Nat.zero_add, Nat.reduceAdd, Nat.reduceSub, Nat.reduceLT, Nat.reduceLeDiff, Nat.reduceEqDiff, Int.reduceNeg, Int.reduceLT, Int.reduceLE, Int.reduceAdd, Int.reduceSub, decide_true, decide_false, Bool.and_self, Bool.and_true, Bool.true_and, Bool.and_false, Bool.false_and, Bool.or_true, Bool.true_or, Bool.or_false, Bool.false_or, Bool.not_true, Bool.not_false, ↓reduceIte, Bool.false_eq_true, truD, bop_addI, bop_subI, bop_mulI, bop_modI, bop_fdivI, bop_pow18, bop_addS, bop_addT, bop_addL, cop_eq, cop_ne, cop_ltI, cop_leI, cop_gtI, cop_geI, eqD_ii, eqD_ss, eqD_bb, fits_lit, recvOk, recvOk.isL, isMut, isDic, dk_cells, dk_at, dk_sum, dk_put, List.take, killR, List.foldl, List.zip, List.zipWith, en, pp, s1, s2, s3, s4, s5, or_true, true_or, h0, h1', hc]
      rfl
end Pil

set_option Elab.async false
set_option linter.all false
set_option autoImplicit false
set_option maxRecDepth 100000
set_option maxHeartbeats 4000000
namespace Pil
open PySem PySem.Spec PyProof.Rows L2
/-! ### what is wanted behind a run -/
def OutP {α : Type} (o : Out α) (K : α → Sto → Prop) : Prop := ∃ a m, o = .ok a m ∧ K a m
def FlP (F : Fl) (N : Rho → Sto → Prop) (R : SV → Sto → Prop) : Prop := match F with
  | .next r m => N r m
  | .ret x m => R x m
  | _ => False
section
variable {α β : Type} {C : Nat → List SV → Sto → Out SV} {m : Sto} {r : Rho} {N : Rho → Sto → Prop} {R : SV → Sto → Prop}
theorem OutP.ok {a : α} {K : α → Sto → Prop} (h : K a m) : OutP (.ok a m) K := ⟨a, m, rfl, h⟩
theorem OutP.bind {o : Out α} {f : α → Sto → Out β} {K : β → Sto → Prop} (h : OutP o fun a m => OutP (f a m) K) : OutP (o.bind f) K := by
  obtain ⟨a, m, rfl, h⟩ := h
  exact h
theorem OutP.nox {o : Out α} {K : α → Sto → Prop} (h : OutP o K) : OutP o.nox K := by
  obtain ⟨a, m, rfl, h⟩ := h
  exact ⟨a, m, rfl, h⟩
theorem OutP.imp {o : Out α} {K K' : α → Sto → Prop} (h : OutP o K) (k : ∀ a m, K a m → K' a m) : OutP o K' := by
  obtain ⟨a, m, e, h⟩ := h
  exact ⟨a, m, e, k a m h⟩
theorem FlP.of {o : Out α} {f : α → Sto → Fl} (h : OutP o fun a m => FlP (f a m) N R) : FlP (Fl.of o r f) N R := by
  obtain ⟨a, m, rfl, h⟩ := h
  exact h
theorem FlP.next (h : N r m) : FlP (.next r m) N R := h
theorem FlP.ret {x : SV} (h : R x m) : FlP (.ret x m) N R := h
theorem FlP.imp {F : Fl} {N' : Rho → Sto → Prop} {R' : SV → Sto → Prop} (h : FlP F N R) (k : ∀ r m, N r m → N' r m) (k' : ∀ x m, R x m → R' x m) : FlP F N' R' := by
  cases F <;> first
    | exact k _ _ h
    | exact k' _ _ h
    | exact h.elim
theorem ok_bind {a : α} {f : α → Sto → Out β} : (Out.ok a m).bind f = f a m := rfl
theorem ok_of {a : α} {f : α → Sto → Fl} : Fl.of (.ok a m) r f = f a m := rfl
theorem of_some {a : α} : Out.of (some a) m = .ok a m := rfl
theorem exs_nil : exs C .nil r m = .next r m := rfl
/-- one statement, then the rest -/
theorem FlP.seq {s : S} {ss : Ss} (h : FlP (ex C s r m) (fun r' m' => FlP (exs C ss r' m') N R) R) : FlP (exs C (.cons s ss) r m) N R := by
  show FlP (match ex C s r m with | .next r' m' => exs C ss r' m' | f => f) N R
  cases e : ex C s r m with
  | next r' m' => rw [e] at h; exact h
  | ret x m' => rw [e] at h; exact h
  | _ => rw [e] at h; exact h.elim
theorem open_none {xs : List PyData} {F : Fl} : Fl.open_ none xs F = F := by cases F <;> rfl
theorem FlP.for0 {step : PyData → Rho → Sto → Fl} {kill : List Nat} : ∀ {xs : List PyData} {r : Rho} {m : Sto} (I : List PyData → Rho → Sto → Prop), I xs r m → (∀ x xs r m, I (x :: xs) r m → FlP (step x r m) (fun r' m' => I xs (killR kill r') m') R) → (∀ r m, I [] r m → N r m) → FlP (forL step kill xs r m) N R
  | [], r, m, I, h0, hs, hd => hd r m h0
  | x :: xs, r, m, I, h0, hs, hd => by
    have h := hs x xs r m h0
    show FlP (match step x r m with
      | .next r' m' => forL step kill xs (killR kill r') m'
      | .cont r' m' => forL step kill xs (killR kill r') m'
      | .brk r' m' => .next r' m'
      | .ret x m' => .ret x m'
      | .exc x r' m' => .exc x r' m'
      | .bad => .bad) N R
    cases e : step x r m with
    | next r' m' => rw [e] at h; exact FlP.for0 I h hs hd
    | ret x m' => rw [e] at h; exact h
    | _ => rw [e] at h; exact h.elim
/-- by the number of the turn -/
theorem FlP.forI {step : PyData → Rho → Sto → Fl} {kill : List Nat} {xs : List PyData} {r : Rho} {m : Sto} (I : Nat → Rho → Sto → Prop) (h0 : I 0 r m) (hs : ∀ i x r m, xs[i]? = some x → I i r m → FlP (step x r m) (fun r' m' => I (i + 1) (killR kill r') m') R) (hd : ∀ r m, I xs.length r m → N r m) : FlP (forL step kill xs r m) N R := by
  refine FlP.for0 (fun ys r m => ∃ i, ys = xs.drop i ∧ i ≤ xs.length ∧ I i r m) ⟨0, rfl, Nat.zero_le _, h0⟩ (fun x ys r m ⟨i, e, hi, h⟩ => ?_) fun r m ⟨i, e, hi, h⟩ => ?_
  · have hx : xs[i]? = some x := by
      rw [← List.head?_drop, ← e]; rfl
    have hlt : i < xs.length := (List.getElem?_eq_some_iff.mp hx).1
    refine (hs i x r m hx h).imp (fun r' m' q => ⟨i + 1, ?_, hlt, q⟩) fun _ _ q => q
    rw [← List.tail_drop, ← e]; rfl
  · have : i = xs.length := by
      have := congrArg List.length e
      rw [List.length_nil, List.length_drop] at this
      omega
    subst this
    exact hd r m h
theorem FlP.while {tst : Rho → Sto → Out Bool} {step : Rho → Sto → Fl} {kill : List Nat} : ∀ {fuel : Nat} {r : Rho} {m : Sto} (I : Nat → Rho → Sto → Prop) (k : Nat), k < fuel → I k r m → (∀ j r m, I j r m → OutP (tst r m) fun b m1 => if b = true then FlP (step r m1) (fun r' m' => ∃ i, i < j ∧ I i (killR kill r') m') R else N r m1) → FlP (whlL tst step kill fuel r m) N R
  | 0, _, _, _, _, hk, _, _ => by omega
  | fuel + 1, r, m, I, k, hk, h0, hs => by
    obtain ⟨b, m1, e, h⟩ := hs k r m h0
    show FlP (Fl.of (tst r m) r fun b m1 => match b with
      | false => .next r m1
      | true => match step r m1 with
        | .next r' m' => whlL tst step kill fuel (killR kill r') m'
        | .cont r' m' => whlL tst step kill fuel (killR kill r') m'
        | .brk r' m' => .next r' m'
        | .ret x m' => .ret x m'
        | .exc x r' m' => .exc x r' m'
        | .bad => .bad) N R
    rw [e]
    cases b with
    | false => rw [if_neg Bool.false_ne_true] at h; exact h
    | true =>
      rw [if_pos rfl] at h
      show FlP (match step r m1 with
        | .next r' m' => whlL tst step kill fuel (killR kill r') m'
        | .cont r' m' => whlL tst step kill fuel (killR kill r') m'
        | .brk r' m' => .next r' m'
        | .ret x m' => .ret x m'
        | .exc x r' m' => .exc x r' m'
        | .bad => .bad) N R
      cases e2 : step r m1 with
      | next r' m' =>
        rw [e2] at h
        obtain ⟨i, hi, q⟩ := h
        exact FlP.while I i (by omega) q hs
      | ret x m' => rw [e2] at h; exact h
      | _ => rw [e2] at h; exact h.elim
theorem OutP.comp {tst : PyData → Sto → Out Bool} {elt : PyData → Sto → Out PyData} : ∀ {xs : List PyData} {m : Sto} {K : List PyData → Sto → Prop} (I : List PyData → List PyData → Sto → Prop), I xs [] m → (∀ x xs ys m, I (x :: xs) ys m → OutP (tst x m) fun b m1 => if b = true then OutP (elt x m1) fun y m2 => I xs (ys ++ [y]) m2 else I xs ys m1) → (∀ ys m, I [] ys m → K ys m) → OutP (compL tst elt xs m) K := by
  have key : ∀ (xs : List PyData) (m : Sto) (ys : List PyData) (K : List PyData → Sto → Prop) (I : List PyData → List PyData → Sto → Prop), I xs ys m → (∀ x xs ys m, I (x :: xs) ys m → OutP (tst x m) fun b m1 => if b = true then OutP (elt x m1) fun y m2 => I xs (ys ++ [y]) m2 else I xs ys m1) → (∀ ys m, I [] ys m → K ys m) → OutP (compL tst elt xs m) fun zs m => K (ys ++ zs) m := by
    intro xs
    induction xs with
    | nil => exact fun m ys K I h0 hs hd => ⟨[], m, rfl, by show K (ys ++ []) m; rw [List.append_nil]; exact hd ys m h0⟩
    | cons x xs ih =>
      intro m ys K I h0 hs hd
      obtain ⟨b, m1, e, h⟩ := hs x xs ys m h0
      show OutP ((tst x m).bind fun b m1 => match b with
        | true => (elt x m1).bind fun y m2 => (compL tst elt xs m2).bind fun ys m3 => .ok (y :: ys) m3
        | false => compL tst elt xs m1) _
      rw [e]
      cases b with
      | false =>
        rw [if_neg Bool.false_ne_true] at h
        exact ih m1 ys K I h hs hd
      | true =>
        rw [if_pos rfl] at h
        obtain ⟨y, m2, e2, h⟩ := h
        show OutP ((elt x m1).bind fun y m2 => (compL tst elt xs m2).bind fun ys m3 => .ok (y :: ys) m3) _
        rw [e2]
        obtain ⟨zs, m3, e3, h⟩ := ih m2 (ys ++ [y]) K I h hs hd
        refine ⟨y :: zs, m3, ?_, ?_⟩
        · show (compL tst elt xs m2).bind _ = _
          rw [e3]; rfl
        · rw [List.append_assoc] at h
          exact h
  intro xs m K I h0 hs hd
  have := key xs m [] K I h0 hs hd
  exact this
end
/-! ### rules as rewritings -/
section
variable {i : Nat} {x : PyData} {xs : List PyData} {t : Tg} {ts : Tgs} {r : Rho}
theorem asgT_nm : asgT (.nm i) x r = if i < r.length then some (r.set i (some (.d x))) else none := rfl
theorem asgT_tup : asgT (.tp ts) (.tuple xs) r = asgTs ts xs r := rfl
theorem asgT_lst : asgT (.tp ts) (.list xs) r = asgTs ts xs r := rfl
theorem asgTs_nil : asgTs .nil [] r = some r := rfl
theorem asgTs_cons : asgTs (.cons t ts) (x :: xs) r = (asgT t x r).bind fun r' => asgTs ts xs r' := rfl
end
section
variable {α β : Type} {C : Nat → List SV → Sto → Out SV} {m : Sto} {r : Rho} {N : Rho → Sto → Prop} {R : SV → Sto → Prop} {K : SV → Sto → Prop}
theorem outP_ok {a : α} {K : α → Sto → Prop} : OutP (.ok a m) K ↔ K a m := ⟨(fun ⟨_, _, e, h⟩ => by cases e; exact h), fun h => ⟨a, m, rfl, h⟩⟩
theorem outP_bad {K : α → Sto → Prop} : OutP (.bad : Out α) K ↔ False := ⟨(fun ⟨_, _, e, _⟩ => by cases e), False.elim⟩
theorem outP_of {o : Option α} {K : α → Sto → Prop} : OutP (Out.of o m) K ↔ ∃ a, o = some a ∧ K a m := by
  cases o with
  | none => exact ⟨fun h => (outP_bad.mp h).elim, (fun ⟨_, e, _⟩ => by cases e)⟩
  | some a => exact ⟨fun h => ⟨a, rfl, outP_ok.mp h⟩, fun ⟨b, e, h⟩ => by cases e; exact outP_ok.mpr h⟩
theorem outP_bind {o : Out α} {f : α → Sto → Out β} {K : β → Sto → Prop} : OutP (o.bind f) K ↔ OutP o fun a m => OutP (f a m) K := by
  cases o with
  | bad => exact ⟨(fun ⟨_, _, e, _⟩ => by cases e), (fun ⟨_, _, e, _⟩ => by cases e)⟩
  | exc _ _ => exact ⟨(fun ⟨_, _, e, _⟩ => by cases e), (fun ⟨_, _, e, _⟩ => by cases e)⟩
  | ok a m => exact ⟨fun h => outP_ok.mpr h, fun h => outP_ok.mp h⟩
theorem outP_nox {o : Out α} {K : α → Sto → Prop} : OutP o.nox K ↔ OutP o K := by
  cases o with
  | exc _ _ => exact ⟨(fun ⟨_, _, e, _⟩ => by cases e), (fun ⟨_, _, e, _⟩ => by cases e)⟩
  | _ => exact Iff.rfl
theorem flP_of {o : Out α} {f : α → Sto → Fl} : FlP (Fl.of o r f) N R ↔ OutP o fun a m => FlP (f a m) N R := by
  cases o with
  | bad => exact ⟨False.elim, (fun ⟨_, _, e, _⟩ => by cases e)⟩
  | exc _ _ => exact ⟨False.elim, (fun ⟨_, _, e, _⟩ => by cases e)⟩
  | ok a m => exact ⟨fun h => outP_ok.mpr h, fun h => outP_ok.mp h⟩
theorem flP_next : FlP (.next r m) N R ↔ N r m := Iff.rfl
theorem flP_ret {x : SV} : FlP (.ret x m) N R ↔ R x m := Iff.rfl
theorem flP_bad : FlP .bad N R ↔ False := Iff.rfl
theorem flP_nil : FlP (exs C .nil r m) N R ↔ N r m := Iff.rfl
theorem flP_cons {s : S} {ss : Ss} : FlP (exs C (.cons s ss) r m) N R ↔ FlP (ex C s r m) (fun r' m' => FlP (exs C ss r' m') N R) R := by
  show FlP (match ex C s r m with | .next r' m' => exs C ss r' m' | f => f) N R ↔ _
  cases e : ex C s r m <;> exact Iff.rfl
theorem flP_iff {d : E} {a b : Ss} : FlP (ex C (.iff d a b) r m) N R ↔ OutP (ev C d r m) fun x m1 => ∃ t, (dat m1 x).bind truD = some t ∧ (t = true → FlP (exs C a r m1) N R) ∧ (t = false → FlP (exs C b r m1) N R) := by
  show FlP (Fl.of (ev C d r m) r fun x m1 => match (dat m1 x).bind truD with
    | some true => exs C a r m1
    | some false => exs C b r m1
    | none => .bad) N R ↔ _
  rw [flP_of]
  have : ∀ (x : SV) (m1 : Sto), FlP (match (dat m1 x).bind truD with
    | some true => exs C a r m1
    | some false => exs C b r m1
    | none => .bad) N R ↔ ∃ t, (dat m1 x).bind truD = some t ∧ (t = true → FlP (exs C a r m1) N R) ∧ (t = false → FlP (exs C b r m1) N R) := fun x m1 => by
    cases (dat m1 x).bind truD with
    | none => exact ⟨False.elim, (fun ⟨_, e, _⟩ => by cases e)⟩
    | some t => cases t with
      | true => exact ⟨fun h => ⟨true, rfl, fun _ => h, (fun z => by cases z)⟩, fun ⟨_, e, h, _⟩ => by cases e; exact h rfl⟩
      | false => exact ⟨fun h => ⟨false, rfl, (fun z => by cases z), fun _ => h⟩, fun ⟨_, e, _, h⟩ => by cases e; exact h rfl⟩
  simp only [this]
theorem flP_retS {e : E} : FlP (ex C (.ret e) r m) N R ↔ OutP (ev C e r m) fun x m1 => retOk e x = true ∧ R x m1 := by
  show FlP (Fl.of (ev C e r m) r fun x m1 => if retOk e x then .ret x m1 else .bad) N R ↔ _
  rw [flP_of]
  have : ∀ (x : SV) (m1 : Sto), FlP (if retOk e x then .ret x m1 else .bad) N R ↔ retOk e x = true ∧ R x m1 := fun x m1 => by
    by_cases h : retOk e x = true
    · rw [if_pos h]; exact ⟨fun q => ⟨h, q⟩, fun q => q.2⟩
    · rw [if_neg h]; exact ⟨False.elim, fun q => h q.1⟩
  simp only [this]
theorem outP_and {a b : E} : OutP (ev C (.and2 a b) r m) K ↔ OutP (ev C a r m) fun x m1 => ∃ t, x = .d (.bool t) ∧ (t = true → OutP (ev C b r m1) K) ∧ (t = false → K (.d (.bool false)) m1) := by
  show OutP ((ev C a r m).bind fun x m1 => match x with
    | .d (.bool true) => ev C b r m1
    | .d (.bool false) => .ok (.d (.bool false)) m1
    | _ => .bad) K ↔ _
  rw [outP_bind]
  have : ∀ (x : SV) (m1 : Sto), OutP (match x with
    | .d (.bool true) => ev C b r m1
    | .d (.bool false) => .ok (.d (.bool false)) m1
    | _ => .bad) K ↔ ∃ t, x = .d (.bool t) ∧ (t = true → OutP (ev C b r m1) K) ∧ (t = false → K (.d (.bool false)) m1) := fun x m1 => by
    split
    · exact ⟨fun h => ⟨true, rfl, fun _ => h, (fun z => by cases z)⟩, fun ⟨_, e, h, _⟩ => by cases e; exact h rfl⟩
    · exact ⟨fun h => ⟨false, rfl, (fun z => by cases z), fun _ => outP_ok.mp h⟩, fun ⟨_, e, _, h⟩ => by cases e; exact outP_ok.mpr (h rfl)⟩
    · rename_i n1 n2
      exact ⟨fun h => (outP_bad.mp h).elim, fun ⟨t, e, _⟩ => by subst e; cases t; exact (n2 rfl).elim; exact (n1 rfl).elim⟩
  simp only [this]
theorem outP_or {a b : E} : OutP (ev C (.or2 a b) r m) K ↔ OutP (ev C a r m) fun x m1 => ∃ t, x = .d (.bool t) ∧ (t = false → OutP (ev C b r m1) K) ∧ (t = true → K (.d (.bool true)) m1) := by
  show OutP ((ev C a r m).bind fun x m1 => match x with
    | .d (.bool false) => ev C b r m1
    | .d (.bool true) => .ok (.d (.bool true)) m1
    | _ => .bad) K ↔ _
  rw [outP_bind]
  have : ∀ (x : SV) (m1 : Sto), OutP (match x with
    | .d (.bool false) => ev C b r m1
    | .d (.bool true) => .ok (.d (.bool true)) m1
    | _ => .bad) K ↔ ∃ t, x = .d (.bool t) ∧ (t = false → OutP (ev C b r m1) K) ∧ (t = true → K (.d (.bool true)) m1) := fun x m1 => by
    split
    · exact ⟨fun h => ⟨false, rfl, fun _ => h, (fun z => by cases z)⟩, fun ⟨_, e, h, _⟩ => by cases e; exact h rfl⟩
    · exact ⟨fun h => ⟨true, rfl, (fun z => by cases z), fun _ => outP_ok.mp h⟩, fun ⟨_, e, _, h⟩ => by cases e; exact outP_ok.mpr (h rfl)⟩
    · rename_i n1 n2
      exact ⟨fun h => (outP_bad.mp h).elim, fun ⟨t, e, _⟩ => by subst e; cases t; exact (n1 rfl).elim; exact (n2 rfl).elim⟩
  simp only [this]
theorem outP_ite {d a b : E} : OutP (ev C (.ite d a b) r m) K ↔ OutP (ev C d r m) fun x m1 => ∃ t, (dat m1 x).bind truD = some t ∧ (t = true → OutP (ev C a r m1) K) ∧ (t = false → OutP (ev C b r m1) K) := by
  show OutP ((ev C d r m).bind fun x m1 => match (dat m1 x).bind truD with
    | some true => ev C a r m1
    | some false => ev C b r m1
    | none => .bad) K ↔ _
  rw [outP_bind]
  have : ∀ (x : SV) (m1 : Sto), OutP (match (dat m1 x).bind truD with
    | some true => ev C a r m1
    | some false => ev C b r m1
    | none => .bad) K ↔ ∃ t, (dat m1 x).bind truD = some t ∧ (t = true → OutP (ev C a r m1) K) ∧ (t = false → OutP (ev C b r m1) K) := fun x m1 => by
    cases (dat m1 x).bind truD with
    | none => exact ⟨fun h => (outP_bad.mp h).elim, (fun ⟨_, e, _⟩ => by cases e)⟩
    | some t => cases t with
      | true => exact ⟨fun h => ⟨true, rfl, fun _ => h, (fun z => by cases z)⟩, fun ⟨_, e, h, _⟩ => by cases e; exact h rfl⟩
      | false => exact ⟨fun h => ⟨false, rfl, (fun z => by cases z), fun _ => h⟩, fun ⟨_, e, _, h⟩ => by cases e; exact h rfl⟩
  simp only [this]
theorem outP_cmp2 {o p : CO} {a b d : E} : OutP (ev C (.cmp2 o p a b d) r m) K ↔ OutP (ev C a r m) fun x m1 => OutP (ev C b r m1) fun y m2 => ∃ t, ((dat m2 x).bind fun u => (dat m2 y).bind fun v => cop o u v) = some t ∧
    (t = true → OutP (ev C d r m2) fun z m4 => ∃ k, ((dat m4 y).bind fun u => (dat m4 z).bind fun v => cop p u v) = some k ∧ K (.d (.bool k)) m4) ∧ (t = false → K (.d (.bool false)) m2) := by
  show OutP ((ev C a r m).bind fun x m1 => (ev C b r m1).bind fun y m2 =>
      (Out.of ((dat m2 x).bind fun u => (dat m2 y).bind fun v => cop o u v) m2).bind fun k m3 => match k with
        | true => (ev C d r m3).bind fun z m4 => Out.of ((dat m4 y).bind fun u => (dat m4 z).bind fun v => (cop p u v).map fun k => .d (.bool k)) m4
        | false => .ok (.d (.bool false)) m3) K ↔ _
  simp only [outP_bind, outP_of]
  have : ∀ (y : SV) (t : Bool) (m2 : Sto), OutP (match t with
        | true => (ev C d r m2).bind fun z m4 => Out.of ((dat m4 y).bind fun u => (dat m4 z).bind fun v => (cop p u v).map fun k => .d (.bool k)) m4
        | false => .ok (.d (.bool false)) m2) K ↔ (t = true → OutP (ev C d r m2) fun z m4 => ∃ k, ((dat m4 y).bind fun u => (dat m4 z).bind fun v => cop p u v) = some k ∧ K (.d (.bool k)) m4) ∧ (t = false → K (.d (.bool false)) m2) := fun y t m2 => by
    cases t with
    | false => exact ⟨fun h => ⟨(fun z => by cases z), fun _ => outP_ok.mp h⟩, fun h => outP_ok.mpr (h.2 rfl)⟩
    | true =>
      have e : ∀ (z : SV) (m4 : Sto), OutP (Out.of ((dat m4 y).bind fun u => (dat m4 z).bind fun v => (cop p u v).map fun k => SV.d (.bool k)) m4) K ↔ ∃ k, ((dat m4 y).bind fun u => (dat m4 z).bind fun v => cop p u v) = some k ∧ K (.d (.bool k)) m4 := fun z m4 => by
        rw [outP_of]
        cases dat m4 y with
        | none => exact ⟨(fun ⟨_, e, _⟩ => by cases e), (fun ⟨_, e, _⟩ => by cases e)⟩
        | some u => cases dat m4 z with
          | none => exact ⟨(fun ⟨_, e, _⟩ => by cases e), (fun ⟨_, e, _⟩ => by cases e)⟩
          | some v =>
            show (∃ a, (cop p u v).map _ = some a ∧ _) ↔ ∃ k, cop p u v = some k ∧ _
            cases cop p u v with
            | none => exact ⟨(fun ⟨_, e, _⟩ => by cases e), (fun ⟨_, e, _⟩ => by cases e)⟩
            | some k => exact ⟨(fun ⟨_, e, h⟩ => by cases e; exact ⟨k, rfl, h⟩), fun ⟨_, e, h⟩ => by cases e; exact ⟨_, rfl, h⟩⟩
      simp only [outP_bind, e]
      exact ⟨fun h => ⟨fun _ => h, (fun z => by cases z)⟩, fun h => h.1 (by first | trivial | rfl)⟩
  simp only [this]
end
/-! ### the store of a def that draws: the deck, what stood, the def's own boxes -/
section
variable {k : Deck} {rest c : Sto} {o a b d : Ob}
theorem dk_len : k.st.length = 2 := rfl
theorem st_len0 : (k.st ++ rest).length = 2 + rest.length := List.length_append
theorem st_at {i : Nat} : (k.st ++ (rest ++ c))[2 + (rest.length + i)]? = c[i]? := by
  rw [List.getElem?_append_right (by show 2 ≤ _; omega), List.getElem?_append_right (by show rest.length ≤ _ - 2; omega)]
  congr 1
  show 2 + (rest.length + i) - 2 - rest.length = i
  omega
theorem st_get0 : (k.st ++ (rest ++ (a :: c)))[2 + rest.length]? = some a := st_at (i := 0)
theorem st_get1 : (k.st ++ (rest ++ (a :: b :: c)))[2 + (rest.length + 1)]? = some b := st_at (i := 1)
theorem st_get2 : (k.st ++ (rest ++ (a :: b :: d :: c)))[2 + (rest.length + 2)]? = some d := st_at (i := 2)
theorem st_set {i : Nat} : (k.st ++ (rest ++ c)).set (2 + (rest.length + i)) o = k.st ++ (rest ++ c.set i o) := by
  rw [List.set_append_right _ _ (by show 2 ≤ _; omega), List.set_append_right _ _ (by show rest.length ≤ _ - 2; omega)]
  congr 3
  show 2 + (rest.length + i) - 2 - rest.length = i
  omega
theorem st_set0 : (k.st ++ (rest ++ (a :: c))).set (2 + rest.length) o = k.st ++ (rest ++ (o :: c)) := st_set (i := 0)
theorem st_set1 : (k.st ++ (rest ++ (a :: b :: c))).set (2 + (rest.length + 1)) o = k.st ++ (rest ++ (a :: o :: c)) := st_set (i := 1)
theorem st_set2 : (k.st ++ (rest ++ (a :: b :: d :: c))).set (2 + (rest.length + 2)) o = k.st ++ (rest ++ (a :: b :: o :: c)) := st_set (i := 2)
end
section
variable {G : Nat → Option Fn} {n : Nat} {k : Deck} {B : Int} {rest : Sto} {K : SV → Sto → Prop}
theorem draw_p (h6 : G 6 = some F6) {most : Int} (hk : k.Ok B) (hB : B < 2 ^ 60) (h0 : 0 < most) (h1 : most < 2 ^ 30) (h : ∀ (r : Int) (k' : Deck), 0 ≤ r → r < most → k'.Ok (B + 1) → K (.d (.int r)) (k'.st ++ rest)) : OutP (callI G (n + 1) 6 [.ref 1, .d (.int most)] (k.st ++ rest)) K := by
  obtain ⟨r, k', e, h1, h2, h3⟩ := draw_ok (n := n) h6 hk hB h0 h1 rest
  exact ⟨_, _, e, h r k' h1 h2 h3⟩
/-- a def that draws: its body -/
theorem call_deck {g : Nat} {F : Fn} {xs : List SV} (hG : G g = some F) (hk : F.keep = false) (hl : xs.length = F.ps.length) (h : FlP (exs (callI G n) F.body (xs.map some ++ List.replicate (F.ns.length - xs.length) none) (k.st ++ (rest ++ []))) (fun _ m' => ∃ k' c, m' = Deck.st k' ++ (rest ++ c) ∧ K (.d .none) (k'.st ++ rest))
      (fun x m' => ∃ k' c, m' = Deck.st k' ++ (rest ++ c) ∧ ((∃ y, x = .d y ∧ K (.d y) (k'.st ++ rest)) ∨ ∃ i ys, x = .ref (2 + (rest.length + i)) ∧ c[i]? = some (.lst ys) ∧ K (.d (.list ys)) (k'.st ++ rest)))) : OutP (callI G (n + 1) g xs (k.st ++ rest)) K := by
  rw [callI_s hG hl, hk]
  rw [List.append_nil] at h
  cases e : exs (callI G n) F.body (xs.map some ++ List.replicate (F.ns.length - xs.length) none) (k.st ++ rest) with
  | next r m' =>
    rw [e] at h
    obtain ⟨k', c, rfl, h⟩ := h
    exact ⟨_, _, fin_deck, h⟩
  | ret x m' =>
    rw [e] at h
    obtain ⟨k', c, rfl, h⟩ := h
    rcases h with ⟨y, rfl, h⟩ | ⟨i, ys, rfl, e, h⟩
    · exact ⟨_, _, fin_deck, h⟩
    · refine ⟨_, _, ?_, h⟩
      rw [show 2 + (rest.length + i) = (k.st ++ rest).length + i by rw [st_len0]; omega]
      exact fin_deckL e
  | _ => rw [e] at h; exact h.elim
end
end Pil

set_option Elab.async false
set_option linter.all false
set_option autoImplicit false
set_option maxRecDepth 100000
set_option maxHeartbeats 4000000
namespace Pil
open PySem PySem.Spec PyProof.Rows L2
def F5 : Fn := { nm := "_law_deck", ps := ["_law_script"], ns := ["_law_script", "_law_cells"], keep := true, body := (.cons (.set 1 (.box (.blt .list (.cons (.slc (.var 0) .none (.some (.cst (.int 63)))) .nil))))
  (.cons (.ret (.rcd ["cells", "at", "sum"] (.cons (.var 1) (.cons (.cst (.int 0)) (.cons (.bin .add (.bin .mod (.blt .sum (.cons (.var 1) .nil)) (.cst (.int 2147483629))) (.bin .mul (.cst (.int 17)) (.blt .len (.cons (.var 1) .nil)))) .nil)))))
  .nil)) }
def F7 : Fn := { nm := "_law_pick", ps := ["_law_deck_here", "_law_some"], ns := ["_law_deck_here", "_law_some"], keep := false, body := (.cons (.ret (.idx (.var 1) (.call 6 (.cons (.var 0) (.cons (.blt .len (.cons (.var 1) .nil)) .nil)))))
  .nil) }
def F8 : Fn := { nm := "_law_names", ps := ["_law_deck_here", "_law_many"], ns := ["_law_deck_here", "_law_many", "_law_letters", "_law_signs", "_law_way", "_law_word", "_law_at", "_law_long", "_law_words", "_law_found", "_law_k", "_law_some", "_law_spot", "_law_sign", "_law_left", "_law_turned"], keep := false, body := (.cons (.set 2 (.cst (.str "abcdefghijklmnopqrstuvwxyz")))
  (.cons (.set 3 (.bin .add (.var 2) (.cst (.str "0123456789"))))
  (.cons (.set 4 (.call 6 (.cons (.var 0) (.cons (.cst (.int 4)) .nil))))
  (.cons (.set 5 (.bin .add (.idx (.var 2) (.call 6 (.cons (.var 0) (.cons (.cst (.int 26)) .nil)))) (.mth .join (.cst (.str "")) (.cons (.comp [10] (.nm 10) (.rng1 (.cst (.int 7))) .none (.idx (.var 3) (.call 6 (.cons (.var 0) (.cons (.cst (.int 36)) .nil))))) .nil))))
  (.cons (.set 6 (.call 6 (.cons (.var 0) (.cons (.cst (.int 8)) .nil))))
  (.cons (.set 7 (.idx (.lst (.cons (.bin .add (.cst (.int 1)) (.call 6 (.cons (.var 0) (.cons (.cst (.int 8)) .nil)))) (.cons (.bin .add (.bin .add (.var 6) (.cst (.int 1))) (.call 6 (.cons (.var 0) (.cons (.bin .sub (.cst (.int 8)) (.var 6)) .nil)))) .nil))) (.blt .int (.cons (.cmp .eq (.var 4) (.cst (.int 1))) .nil))))
  (.cons (.set 8 (.lst (.cons (.cst (.str "put")) (.cons (.cst (.str "drop")) (.cons (.cst (.str "rules")) (.cons (.cst (.str "mark")) (.cons (.cst (.str "since")) (.cons (.cst (.str "show")) (.cons (.cst (.str "list")) (.cons (.cst (.str "at")) (.cons (.cst (.str "cut")) (.cons (.cst (.str "none")) .nil))))))))))))
  (.cons (.set 9 (.box (.lst .nil)))
  (.cons (.for_ (.nm 10) [10, 11, 12, 13, 14, 15] (.rng1 (.var 1))
 (.cons (.iff (.and2 (.cmp .eq (.var 4) (.cst (.int 2))) (.cmp .lt (.var 1) (.cst (.int 9))))
 (.cons (.expr (.mth .append (.var 9) (.cons (.slc (.var 5) .none (.some (.bin .add (.var 10) (.cst (.int 1))))) .nil)))
  .nil)
 (.cons (.iff (.cmp .eq (.var 4) (.cst (.int 3)))
 (.cons (.expr (.mth .append (.var 9) (.cons (.idx (.var 8) (.var 10)) .nil)))
  .nil)
 (.cons (.set 11 (.idx (.lst (.cons (.var 2) (.cons (.var 3) .nil))) (.blt .int (.cons (.cmp .gt (.var 6) (.cst (.int 0))) .nil))))
  (.cons (.set 12 (.idx (.lst (.cons (.cst (.int 0)) (.cons (.var 6) .nil))) (.blt .int (.cons (.cmp .eq (.var 4) (.cst (.int 1))) .nil))))
  (.cons (.set 13 (.idx (.var 2) (.bin .mod (.bin .add (.mth .sindex (.var 2) (.cons (.idx (.var 5) (.cst (.int 0))) .nil)) (.var 10)) (.cst (.int 26)))))
  (.cons (.iff (.cmp .gt (.var 12) (.cst (.int 0)))
 (.cons (.set 13 (.idx (.var 11) (.bin .mod (.bin .add (.mth .sindex (.var 11) (.cons (.idx (.var 5) (.var 12)) .nil)) (.var 10)) (.blt .len (.cons (.var 11) .nil)))))
  .nil)
 .nil)
  (.cons (.expr (.mth .append (.var 9) (.cons (.bin .add (.bin .add (.slc (.var 5) .none (.some (.var 12))) (.var 13)) (.slc (.var 5) (.some (.bin .add (.var 12) (.cst (.int 1)))) (.some (.var 7)))) .nil)))
  .nil))))))
  .nil))
  .nil))
  (.cons (.set 14 (.box (.blt .list (.cons (.var 9) .nil))))
  (.cons (.set 15 (.box (.lst .nil)))
  (.cons (.whl (.cmp .ne (.var 14) (.lst .nil)) [1, 2, 3, 4, 5, 6, 7, 8, 9, 10, 11, 12, 13]
 (.cons (.expr (.mth .append (.var 15) (.cons (.mth .pop (.var 14) (.cons (.call 6 (.cons (.var 0) (.cons (.blt .len (.cons (.var 14) .nil)) .nil))) .nil)) .nil)))
  .nil))
  (.cons (.ret (.var 15))
  .nil))))))))))))) }
section
variable {G : Nat → Option Fn} {n : Nat}
theorem asInts_map : ∀ xs : List Int, asInts (xs.map .int) = some xs
  | [] => rfl
  | x :: xs => by
    show (asInts (xs.map .int)).map (x :: ·) = _
    rw [asInts_map xs]; rfl
theorem deck_ok (h5 : G 5 = some F5) {ns : List Int} (hl : ns.length ≤ 63) : ∃ k : Deck, callI G (n + 1) 5 [.ext ns] [] = .ok (.ref 1) k.st ∧ k.Ok 0 := by
  have hc : cutD (ns.map PyData.int) none (some 63) = ns.map .int := by
    unfold cutD
    rw [HT.sIx_none]
    show List.take (HT.sIx _ _ (some ((63 : Nat) : Int)) - 0) (List.drop 0 _) = _
    rw [HT.sIx_nat, List.length_map, List.drop_zero, Nat.sub_zero]
    exact List.take_of_length_le (by rw [List.length_map]; omega)
  refine ⟨⟨ns, 0, ns.sum % 2147483629 + 17 * ns.length⟩, ?_, ⟨hl, Int.le_refl _, Int.le_refl _⟩⟩
  rw [callI_s h5 rfl]
  have s17 : small64 17 = true := by decide
  have one : OutP (finX F5.keep [] (exs (callI G n) F5.body ([SV.ext ns].map some ++ List.replicate (F5.ns.length - 1) none) [])) fun x m => x = .ref 1 ∧ m = (⟨ns, 0, ns.sum % 2147483629 + 17 * ns.length⟩ : Deck).st := by
    have body : FlP (exs (callI G n) F5.body ([SV.ext ns].map some ++ List.replicate (F5.ns.length - 1) none) []) (fun _ _ => False) fun x m => x = .ref 1 ∧ m = (⟨ns, 0, ns.sum % 2147483629 + 17 * ns.length⟩ : Deck).st := by
      simp only [F5, ↓flP_retS, ↓flP_iff, ↓outP_and, ↓outP_or, ↓outP_ite, ↓outP_cmp2, flP_of, flP_next, flP_ret, flP_bad, flP_nil, flP_cons, outP_ok, outP_bad, outP_of, outP_bind, outP_nox, ok_bind, ok_of, of_some, open_none, ex, ev, evs, evo, evT, evI, dat, datX, datP, datAll, dOf, seqI, lockM, openM, boxK, freshE, retOk, asgT_nm, asgT_tup, asgT_lst, asgTs_nil, asgTs_cons, List.map_cons, List.map_nil, List.cons_append, List.nil_append, List.getElem?_cons_zero, List.getElem?_cons_succ, List.length_cons, List.length_nil, List.replicate, Option.bind_some, Option.map_some, Option.isSome_some, List.set_cons_zero, List.set_cons_succ, Nat.zero_add, Nat.reduceAdd, Nat.reduceSub, Nat.reduceLT, Nat.reduceLeDiff, Nat.reduceEqDiff, Int.reduceNeg, Int.reduceLT, Int.reduceLE, Int.reduceAdd, Int.reduceSub, decide_true, decide_false, Bool.and_self, Bool.and_true, Bool.true_and, Bool.and_false, Bool.false_and, Bool.or_true, Bool.true_or, Bool.or_false, Bool.false_or, Bool.not_true, Bool.not_false, ↓reduceIte, Bool.false_eq_true, truD, bop_addI, bop_subI, bop_mulI, bop_modI, bop_fdivI, bop_pow18, bop_addT, bop_addL, cop_eq, cop_ne, cop_ltI, cop_leI, cop_gtI, cop_geI, eqD_ii, eqD_ss, eqD_bb, fits_lit, recvOk, recvOk.isL, isMut, isDic, killR, List.foldl, List.append_assoc, List.length_append, Nat.add_assoc, dk_len, st_get0, st_get1, st_get2, st_set0, st_set1, st_set2, Option.some.injEq, exists_eq_left', exists_eq_left, SV.d.injEq, PyData.bool.injEq, SV.ref.injEq, reduceCtorEq, false_and, and_false, exists_false, or_false, false_or, true_and, and_true, true_implies, false_implies, forall_const, beq_self_eq_true, Bool.true_eq_false, slD, hc, bfn, asInts_map, s17, or_true, true_or]
      simp [Deck.st]
    cases e : exs (callI G n) F5.body ([SV.ext ns].map some ++ List.replicate (F5.ns.length - 1) none) [] with
    | ret x m =>
      rw [e] at body
      exact ⟨x, m, rfl, body⟩
    | _ => rw [e] at body; exact body.elim
  obtain ⟨x, m, e, rfl, rfl⟩ := one
  exact e
theorem atI_in {α : Type} {xs : List α} {r : Int} (h0 : 0 ≤ r) (h1 : r < xs.length) : ∃ y ∈ xs, L2.atI xs r = some y := by
  have hj : r.toNat < xs.length := by omega
  refine ⟨xs[r.toNat], List.getElem_mem _, ?_⟩
  unfold L2.atI L2.ixN
  rw [if_pos h0, if_pos h1]
  exact List.getElem?_eq_getElem hj
/-- a value that is given back -/
theorem ret_d {k' : Deck} {rest c : Sto} {P : Sto → Prop} (h : P (k'.st ++ rest)) : ∃ k_1 c', k'.st ++ (rest ++ c) = Deck.st k_1 ++ (rest ++ c') ∧ P (k_1.st ++ rest) := ⟨k', c, rfl, h⟩
theorem ret_d0 {k' : Deck} {rest : Sto} {P : Sto → Prop} (h : P (k'.st ++ rest)) : ∃ k_1 c', k'.st ++ rest = Deck.st k_1 ++ (rest ++ c') ∧ P (k_1.st ++ rest) := ⟨k', [], by rw [List.append_nil], h⟩
theorem ret_l {k' : Deck} {rest c : Sto} {P : List PyData → Sto → Prop} {j i : Nat} {ys : List PyData} (hj : j = 2 + (rest.length + i)) (e : c[i]? = some (.lst ys)) (h : P ys (k'.st ++ rest)) : ∃ k_1 c', k'.st ++ (rest ++ c) = Deck.st k_1 ++ (rest ++ c') ∧ ∃ i zs, j = 2 + (rest.length + i) ∧ c'[i]? = some (.lst zs) ∧ P zs (k_1.st ++ rest) := ⟨k', c, rfl, i, ys, hj, e, h⟩
theorem flP_retOk {e : E} {x : SV} {m : Sto} {N : Rho → Sto → Prop} {R : SV → Sto → Prop} (h : retOk e x = true) : FlP (if retOk e x then .ret x m else .bad) N R ↔ R x m := by rw [if_pos h]; exact Iff.rfl
theorem pick_p (h6 : G 6 = some F6) (h7 : G 7 = some F7) {k : Deck} {B : Int} {rest : Sto} {K : SV → Sto → Prop} {xs : List PyData} (hk : k.Ok B) (hB : B < 2 ^ 60) (h0 : 0 < xs.length) (h1 : xs.length < 2 ^ 30) (hr : ∀ y ∈ xs, retOk (.idx (.var 1) (.call 6 (.cons (.var 0) (.cons (.blt .len (.cons (.var 1) .nil)) .nil)))) (.d y) = true) (h : ∀ y ∈ xs, ∀ k' : Deck, k'.Ok (B + 1) → K (.d y) (k'.st ++ rest)) :
    OutP (callI G (n + 2) 7 [.ref 1, .d (.list xs)] (k.st ++ rest)) K := by
  refine call_deck h7 rfl rfl ?_
  rw [List.append_nil]
  simp only [F7, ↓flP_retS, ↓flP_iff, ↓outP_and, ↓outP_or, ↓outP_ite, ↓outP_cmp2, flP_of, flP_next, flP_ret, flP_bad, flP_nil, flP_cons, outP_ok, outP_bad, outP_of, outP_bind, outP_nox, ok_bind, ok_of, of_some, open_none, ex, ev, evs, evo, evT, evI, dat, datX, datP, datAll, dOf, seqI, lockM, openM, boxK, freshE, retOk, asgT_nm, asgT_tup, asgT_lst, asgTs_nil, asgTs_cons, List.map_cons, List.map_nil, List.cons_append, List.nil_append, List.getElem?_cons_zero, List.getElem?_cons_succ, List.length_cons, List.length_nil, List.replicate, Option.bind_some, Option.map_some, Option.isSome_some, List.set_cons_zero, List.set_cons_succ, Nat.zero_add, Nat.reduceAdd, Nat.reduceSub, Nat.reduceLT, Nat.reduceLeDiff, Nat.reduceEqDiff, Int.reduceNeg, Int.reduceLT, Int.reduceLE, Int.reduceAdd, Int.reduceSub, decide_true, decide_false, Bool.and_self, Bool.and_true, Bool.true_and, Bool.and_false, Bool.false_and, Bool.or_true, Bool.true_or, Bool.or_false, Bool.false_or, Bool.not_true, Bool.not_false, ↓reduceIte, Bool.false_eq_true, truD, bop_addI, bop_subI, bop_mulI, bop_modI, bop_fdivI, bop_pow18, bop_addT, bop_addL, cop_eq, cop_ne, cop_ltI, cop_leI, cop_gtI, cop_geI, eqD_ii, eqD_ss, eqD_bb, fits_lit, recvOk, recvOk.isL, isMut, isDic, killR, List.foldl, List.append_assoc, List.length_append, Nat.add_assoc, dk_len, st_get0, st_get1, st_get2, st_set0, st_set1, st_set2, Option.some.injEq, exists_eq_left', exists_eq_left, SV.d.injEq, PyData.bool.injEq, SV.ref.injEq, reduceCtorEq, false_and, and_false, exists_false, or_false, false_or, true_and, and_true, true_implies, false_implies, forall_const, beq_self_eq_true, Bool.true_eq_false, bfn]
  refine draw_p h6 hk hB ?_ ?_ fun r k' a b hk' => ?_
  · omega
  · omega
  obtain ⟨y, hy, e⟩ := atI_in (xs := xs) a b
  simp only [↓flP_retS, ↓flP_iff, ↓outP_and, ↓outP_or, ↓outP_ite, ↓outP_cmp2, flP_of, flP_next, flP_ret, flP_bad, flP_nil, flP_cons, outP_ok, outP_bad, outP_of, outP_bind, outP_nox, ok_bind, ok_of, of_some, open_none, ex, ev, evs, evo, evT, evI, dat, datX, datP, datAll, dOf, seqI, lockM, openM, boxK, freshE, retOk, asgT_nm, asgT_tup, asgT_lst, asgTs_nil, asgTs_cons, List.map_cons, List.map_nil, List.cons_append, List.nil_append, List.getElem?_cons_zero, List.getElem?_cons_succ, List.length_cons, List.length_nil, List.replicate, Option.bind_some, Option.map_some, Option.isSome_some, List.set_cons_zero, List.set_cons_succ, Nat.zero_add, Nat.reduceAdd, Nat.reduceSub, Nat.reduceLT, Nat.reduceLeDiff, Nat.reduceEqDiff, Int.reduceNeg, Int.reduceLT, Int.reduceLE, Int.reduceAdd, Int.reduceSub, decide_true, decide_false, Bool.and_self, Bool.and_true, Bool.true_and, Bool.and_false, Bool.false_and, Bool.or_true, Bool.true_or, Bool.or_false, Bool.false_or, Bool.not_true, Bool.not_false, ↓reduceIte, Bool.false_eq_true, truD, bop_addI, bop_subI, bop_mulI, bop_modI, bop_fdivI, bop_pow18, bop_addT, bop_addL, cop_eq, cop_ne, cop_ltI, cop_leI, cop_gtI, cop_geI, eqD_ii, eqD_ss, eqD_bb, fits_lit, recvOk, recvOk.isL, isMut, isDic, killR, List.foldl, List.append_assoc, List.length_append, Nat.add_assoc, dk_len, st_get0, st_get1, st_get2, st_set0, st_set1, st_set2, Option.some.injEq, exists_eq_left', exists_eq_left, SV.d.injEq, PyData.bool.injEq, SV.ref.injEq, reduceCtorEq, false_and, and_false, exists_false, or_false, false_or, true_and, and_true, true_implies, false_implies, forall_const, beq_self_eq_true, Bool.true_eq_false, ixD, e]
  exact ⟨hr y hy, ret_d0 (h y hy k' hk')⟩
end
end Pil


set_option Elab.async false
set_option linter.all false
set_option autoImplicit false
set_option maxRecDepth 100000
set_option maxHeartbeats 4000000
namespace Pil
open PySem PySem.Spec PyProof.Rows L2

/-! ### reading in order: simp looks only at what is run now -/
section
variable {α β : Type} {o o' : Out α} {F F' : Fl} {N : Rho → Sto → Prop} {R : SV → Sto → Prop} {r r' : Rho} {m m' : Sto}
theorem outP_cg {K : α → Sto → Prop} (h : o = o') : OutP o K = OutP o' K := by rw [h]
theorem flP_cg (h : F = F') : FlP F N R = FlP F' N R := by rw [h]
theorem bind_cg {f : α → Sto → Out β} (h : o = o') : o.bind f = o'.bind f := by rw [h]
theorem flof_cg {f : α → Sto → Fl} (h : o = o') (hr : r = r') : Fl.of o r f = Fl.of o' r' f := by rw [h, hr]
theorem forL_cg {step : PyData → Rho → Sto → Fl} {kill : List Nat} {xs xs' : List PyData} (h : xs = xs') (hr : r = r') (hm : m = m') : forL step kill xs r m = forL step kill xs' r' m' := by rw [h, hr, hm]
theorem whlL_cg {tst : Rho → Sto → Out Bool} {step : Rho → Sto → Fl} {kill : List Nat} {n : Nat} (hr : r = r') (hm : m = m') : whlL tst step kill n r m = whlL tst step kill n r' m' := by rw [hr, hm]
theorem compL_cg {tst : PyData → Sto → Out Bool} {elt : PyData → Sto → Out PyData} {xs xs' : List PyData} (h : xs = xs') (hm : m = m') : compL tst elt xs m = compL tst elt xs' m' := by rw [h, hm]
end
section
variable {C : Nat → List SV → Sto → Out SV} {m : Sto} {r : Rho} {N : Rho → Sto → Prop} {R : SV → Sto → Prop} {ss : Ss}
/-! one statement, then the rest: an if is asked for by its own name -/
theorem flP_set {i : Nat} {e : E} : FlP (exs C (.cons (.set i e) ss) r m) N R ↔ FlP (ex C (.set i e) r m) (fun r' m' => FlP (exs C ss r' m') N R) R := flP_cons
theorem flP_asg {t : Tg} {e : E} : FlP (exs C (.cons (.asg t e) ss) r m) N R ↔ FlP (ex C (.asg t e) r m) (fun r' m' => FlP (exs C ss r' m') N R) R := flP_cons
theorem flP_par {i j : Nat} {a b : E} : FlP (exs C (.cons (.par i j a b) ss) r m) N R ↔ FlP (ex C (.par i j a b) r m) (fun r' m' => FlP (exs C ss r' m') N R) R := flP_cons
theorem flP_sti {o i e : E} : FlP (exs C (.cons (.sti o i e) ss) r m) N R ↔ FlP (ex C (.sti o i e) r m) (fun r' m' => FlP (exs C ss r' m') N R) R := flP_cons
theorem flP_expr {e : E} : FlP (exs C (.cons (.expr e) ss) r m) N R ↔ FlP (ex C (.expr e) r m) (fun r' m' => FlP (exs C ss r' m') N R) R := flP_cons
theorem flP_for {t : Tg} {ks : List Nat} {it : It} {b : Ss} : FlP (exs C (.cons (.for_ t ks it b) ss) r m) N R ↔ FlP (ex C (.for_ t ks it b) r m) (fun r' m' => FlP (exs C ss r' m') N R) R := flP_cons
theorem flP_whl {c : E} {ks : List Nat} {b : Ss} : FlP (exs C (.cons (.whl c ks b) ss) r m) N R ↔ FlP (ex C (.whl c ks b) r m) (fun r' m' => FlP (exs C ss r' m') N R) R := flP_cons
theorem ret_not_next {e : E} {r' : Rho} {m' : Sto} : ex C (.ret e) r m ≠ .next r' m' := fun q => by
  have q : Fl.of (ev C e r m) r (fun x m1 => if retOk e x then .ret x m1 else .bad) = .next r' m' := q
  cases z : ev C e r m with
  | bad => rw [z] at q; cases q
  | exc x m1 => rw [z] at q; cases q
  | ok x m1 =>
    rw [z] at q
    have q : (if retOk e x then Fl.ret x m1 else .bad) = .next r' m' := q
    split at q <;> cases q
theorem flP_rets {e : E} : FlP (exs C (.cons (.ret e) ss) r m) N R ↔ FlP (ex C (.ret e) r m) N R := by
  rw [flP_cons]
  cases q : ex C (.ret e) r m with
  | next r' m' => exact absurd q ret_not_next
  | _ => exact Iff.rfl
theorem flP_ifs {d : E} {a b : Ss} : FlP (exs C (.cons (.iff d a b) ss) r m) N R ↔ OutP (ev C d r m) fun x m1 => ∃ t, (dat m1 x).bind truD = some t ∧ (t = true → FlP (exs C a r m1) (fun r' m' => FlP (exs C ss r' m') N R) R) ∧ (t = false → FlP (exs C b r m1) (fun r' m' => FlP (exs C ss r' m') N R) R) := flP_cons.trans flP_iff
/-- an if whose ways meet again -/
theorem FlP.ifj {d : E} {a b : Ss} (I : Rho → Sto → Prop) (h : OutP (ev C d r m) fun x m1 => ∃ t, (dat m1 x).bind truD = some t ∧ (t = true → FlP (exs C a r m1) I R) ∧ (t = false → FlP (exs C b r m1) I R)) (k : ∀ r m, I r m → FlP (exs C ss r m) N R) : FlP (exs C (.cons (.iff d a b) ss) r m) N R :=
  flP_cons.mpr ((flP_iff.mpr h).imp k fun _ _ q => q)
end
end Pil

set_option Elab.async false
set_option linter.all false
set_option autoImplicit false
set_option maxRecDepth 100000
set_option maxHeartbeats 4000000
namespace Pil
open PySem PySem.Spec PyProof.Rows L2
section
variable {G : Nat → Option Fn} {n : Nat}
/-! ### texts -/
theorem len_app {x y : Str} : (x ++ y).length = x.length + y.length := by
  show (x.cps ++ y.cps).size = _
  rw [Array.size_append]; rfl
theorem ok_app {x y : Str} (h : PyData.strOk x = true) (h2 : PyData.strOk y = true) : PyData.strOk (x ++ y) = true := by
  show (x.cps ++ y.cps).all _ = true
  rw [Array.all_append, Bool.and_eq_true]
  exact ⟨h, h2⟩
theorem ok_iff {x : Str} : PyData.strOk x = true ↔ ∀ c ∈ x.cps.toList, c < 0x110000 := by
  unfold PyData.strOk
  rw [← Array.all_toList, List.all_eq_true]
  simp
theorem ok_cut {x : Str} {lo hi : Option Int} (h : PyData.strOk x = true) : PyData.strOk (L2.cutS x lo hi) = true := by
  rw [ok_iff] at h ⊢
  unfold L2.cutS
  intro c hc
  exact h c (List.mem_of_mem_drop (List.mem_of_mem_take (by simpa using hc)))
theorem len_cut {x : Str} {lo hi : Option Int} : (L2.cutS x lo hi).length = min (HT.sIx x.length x.length hi - HT.sIx x.length 0 lo) (x.length - HT.sIx x.length 0 lo) := by
  unfold L2.cutS
  show ((x.cps.toList.drop _).take _).toArray.size = _
  rw [List.size_toArray, List.length_take, List.length_drop, Array.length_toList]
  rfl
theorem sIx_of {n d : Nat} {i : Int} (h : 0 ≤ i) : HT.sIx n d (some i) = min i.toNat n := by
  show (if i < 0 then (i + (n : Int)).toNat else min i.toNat n) = _
  rw [if_neg (by omega)]
/-- a text by its signs -/
def tx (l : List Nat) : Str := ⟨l.toArray⟩
theorem tx_len {l : List Nat} : (tx l).length = l.length := List.size_toArray
theorem tx_app {a b : List Nat} : tx a ++ tx b = tx (a ++ b) := by
  show (⟨a.toArray ++ b.toArray⟩ : Str) = ⟨(a ++ b).toArray⟩
  rw [List.append_toArray]
theorem tx_ok {l : List Nat} (h : ∀ c ∈ l, c < 0x110000) : PyData.strOk (tx l) = true := ok_iff.mpr fun c hc => h c (by simpa [tx] using hc)
theorem bop_tx {a b : List Nat} (h : a.length + b.length ≤ 16777216) : bop .add (.str (tx a)) (.str (tx b)) = some (.str (tx (a ++ b))) := by
  rw [bop_addS (by rw [tx_len, tx_len]; exact h), tx_app]
theorem ix_tx {l : List Nat} {i : Int} (h0 : 0 ≤ i) (h1 : i < l.length) (h2 : l.length ≤ 16777216) : ∃ c ∈ l, ixD (.str (tx l)) (.int i) = some (.str (tx [c])) := by
  obtain ⟨c, hc, e⟩ := atI_in h0 h1
  refine ⟨c, hc, ?_⟩
  show (if fitsN (tx l).length then (L2.atI (tx l).cps.toList i).map fun c => PyData.str ⟨#[c]⟩ else none) = _
  rw [if_pos (fits_lit (by rw [tx_len]; exact h2))]
  show (L2.atI l.toArray.toList i).map _ = _
  rw [List.toList_toArray, e]
  rfl
theorem asStrs_map : ∀ xs : List Str, asStrs (xs.map .str) = some xs
  | [] => rfl
  | x :: xs => by
    show (asStrs (xs.map .str)).map (x :: ·) = _
    rw [asStrs_map xs]; rfl
theorem join_tx (cs : List Nat) : Txt.join ("" : Str) (cs.map fun c => tx [c]) = tx cs := by
  unfold Txt.join
  rw [StrLaws.glued_eq_join]
  induction cs with
  | nil => rfl
  | cons c cs ih =>
    cases cs with
    | nil => rfl
    | cons d cs =>
      show tx [c] ++ ("" : Str) ++ Str.join ("" : Str) ((d :: cs).map fun c => tx [c]) = _
      rw [ih, show ("" : Str) = tx [] by decide +kernel, tx_app, tx_app]
      rfl
theorem mfn_join {cs : List Nat} (h : cs.length ≤ 16777216) : mfn .join (.str ("" : Str)) [.list (cs.map fun c => .str (tx [c]))] = some (.str (tx cs)) := by
  have e : (cs.map fun c => PyData.str (tx [c])) = (cs.map fun c => tx [c]).map .str := by rw [List.map_map]; rfl
  show ((asStrs _).bind fun ys => if fitsN ((ys.map (·.length)).sum + ys.length * ("" : Str).length) then some (PyData.str (Txt.join ("" : Str) ys)) else none) = _
  rw [e, asStrs_map]
  show (if _ then _ else _) = _
  rw [join_tx, if_pos (fits_lit ?_)]
  have e1 : ((cs.map fun c => tx [c]).map (·.length)).sum = cs.length := by
    rw [List.map_map]
    clear h e
    induction cs with
    | nil => rfl
    | cons c cs ih =>
      rw [List.map_cons, List.sum_cons, ih]
      show (tx [c]).length + _ = _
      rw [tx_len, List.length_cons]
      exact Nat.add_comm _ _
  have e2 : ("" : Str).length = 0 := by decide +kernel
  rw [e1, e2]
  omega
theorem bfn_intB {b : Bool} : bfn .int [.bool b] = some (.int (if b then 1 else 0)) := rfl
def LETS : List Nat := List.range' 97 26
def DIGS : List Nat := List.range' 48 10
def SIGS : List Nat := LETS ++ DIGS
theorem let_tx : ("abcdefghijklmnopqrstuvwxyz" : Str) = tx LETS := by decide +kernel
theorem dig_tx : ("0123456789" : Str) = tx DIGS := by decide +kernel
theorem sig_add : bop .add (.str (tx LETS)) (.str (tx DIGS)) = some (.str (tx SIGS)) := bop_tx (by decide)
theorem sig_len : SIGS.length = 36 := by decide
theorem let_len : LETS.length = 26 := by decide
theorem sig_lt : ∀ c ∈ SIGS, c < 0x110000 := by decide +kernel
theorem let_sig : ∀ c ∈ LETS, c ∈ SIGS := fun c h => List.mem_append_left _ h
theorem find_all : (LETS.all fun c => match Txt.index0 (tx LETS) (tx [c]) with | some j => decide (j < 26) | none => false) = true ∧ (SIGS.all fun c => match Txt.index0 (tx SIGS) (tx [c]) with | some j => decide (j < 36) | none => false) = true := by decide +kernel
theorem find_let {c : Nat} (h : c ∈ LETS) : ∃ j, mfn .sindex (.str (tx LETS)) [.str (tx [c])] = some (.int ((j : Nat) : Int)) ∧ j < 26 := by
  have := List.all_eq_true.mp find_all.1 c h
  split at this
  · rename_i j e
    exact ⟨j, by show (Txt.index0 _ _).map _ = _; rw [e]; rfl, of_decide_eq_true this⟩
  · cases this
theorem find_sig {c : Nat} (h : c ∈ SIGS) : ∃ j, mfn .sindex (.str (tx SIGS)) [.str (tx [c])] = some (.int ((j : Nat) : Int)) ∧ j < 36 := by
  have := List.all_eq_true.mp find_all.2 c h
  split at this
  · rename_i j e
    exact ⟨j, by show (Txt.index0 _ _).map _ = _; rw [e]; rfl, of_decide_eq_true this⟩
  · cases this
theorem rng_len {a b : Int} : (rngD a b).length = (b - a).toNat := by unfold rngD; rw [List.length_map, List.length_range]
theorem rng_get {a b : Int} {i : Nat} {x : PyData} (h : (rngD a b)[i]? = some x) : x = .int (a + i) ∧ (i : Int) < b - a := by
  unfold rngD at h
  rw [List.getElem?_map] at h
  obtain ⟨j, h1, rfl⟩ := Option.map_eq_some_iff.mp h
  obtain ⟨h2, h3⟩ := List.getElem?_eq_some_iff.mp h1
  rw [List.getElem_range] at h3
  rw [List.length_range] at h2
  subst h3
  exact ⟨rfl, by omega⟩
theorem small62_of {i : Int} (h : -(2 ^ 62) ≤ i) (h2 : i < 2 ^ 62) : small62 i = true := by
  unfold small62
  rw [decide_eq_true h, decide_eq_true h2]; rfl
theorem Deck.Ok.mono {k : Deck} {B B' : Int} (h : k.Ok B) (hb : B ≤ B') : k.Ok B' := ⟨h.len, h.lo, Int.le_trans h.hi hb⟩
/-- a name -/
def IsNm (b : Nat) (d : PyData) : Prop := ∃ s : Str, d = .str s ∧ 1 ≤ s.length ∧ s.length ≤ b ∧ PyData.strOk s = true
theorem IsNm.tx {b : Nat} {l : List Nat} (h1 : 1 ≤ l.length) (h2 : l.length ≤ b) (h3 : ∀ c ∈ l, c < 0x110000) : IsNm b (.str (tx l)) := ⟨_, rfl, by rw [tx_len]; exact h1, by rw [tx_len]; exact h2, tx_ok h3⟩
def nmC (b : Nat) : PyData → Bool
  | .str s => decide (1 ≤ s.length) && decide (s.length ≤ b) && PyData.strOk s
  | _ => false
theorem nm_of {b : Nat} {d : PyData} (h : nmC b d = true) : IsNm b d := by
  cases d with
  | str s =>
    have h : (decide (1 ≤ s.length) && decide (s.length ≤ b) && PyData.strOk s) = true := h
    simp only [Bool.and_eq_true, decide_eq_true_eq] at h
    exact ⟨s, rfl, h.1.1, h.1.2, h.2⟩
  | _ => cases h
/-- a name, sign by sign -/
structure NameOk (l : List Nat) : Prop where
  len : l.length ≤ 8
  hd : ∃ c r, l = c :: r ∧ c ∈ LETS ∧ ∀ x ∈ r, x ∈ SIGS
theorem NameOk.pos {l : List Nat} (h : NameOk l) : 1 ≤ l.length := by
  obtain ⟨c, r, rfl, _⟩ := h.hd
  rw [List.length_cons]; omega
theorem NameOk.sig {l : List Nat} (h : NameOk l) : ∀ c ∈ l, c ∈ SIGS := by
  obtain ⟨c, r, rfl, h1, h2⟩ := h.hd
  intro x hx
  rcases List.mem_cons.mp hx with rfl | hx
  · exact let_sig _ h1
  · exact h2 x hx
theorem NameOk.lt {l : List Nat} (h : NameOk l) : ∀ c ∈ l, c < 0x110000 := fun c hc => sig_lt c (h.sig c hc)
def nameB : List Nat → Bool
  | c :: r => decide (r.length ≤ 7) && LETS.contains c && r.all SIGS.contains
  | [] => false
theorem name_of {l : List Nat} (h : nameB l = true) : NameOk l := by
  cases l with
  | nil => cases h
  | cons c r =>
    have h : (decide (r.length ≤ 7) && LETS.contains c && r.all SIGS.contains) = true := h
    simp only [Bool.and_eq_true, decide_eq_true_eq, List.all_eq_true, List.contains_iff_mem] at h
    exact ⟨by rw [List.length_cons]; omega, c, r, rfl, h.1.2, h.2⟩
def nmD (l : List Nat) : PyData := .str (tx l)
def IsName (d : PyData) : Prop := ∃ l, d = nmD l ∧ NameOk l
theorem IsName.nm {d : PyData} (h : IsName d) : IsNm 8 d := by
  obtain ⟨l, rfl, h⟩ := h
  exact IsNm.tx h.pos h.len h.lt
theorem IsName.fine {n : Nat} {d : PyData} (h : IsName d) : Fine n d := by
  obtain ⟨l, rfl, h⟩ := h
  exact fine_str (tx_ok h.lt)
theorem names_l : ∀ {xs : List PyData}, (∀ x ∈ xs, IsName x) → ∃ ls : List (List Nat), xs = ls.map nmD ∧ ∀ l ∈ ls, NameOk l
  | [], _ => ⟨[], rfl, fun _ h => by cases h⟩
  | x :: xs, h => by
    obtain ⟨ls, rfl, h2⟩ := names_l fun y hy => h y (List.mem_cons_of_mem _ hy)
    obtain ⟨l, rfl, h1⟩ := h x List.mem_cons_self
    exact ⟨l :: ls, rfl, fun y hy => by
      rcases List.mem_cons.mp hy with rfl | hy
      · exact h1
      · exact h2 y hy⟩
def WORDS : List (List Nat) := [[112, 117, 116], [100, 114, 111, 112], [114, 117, 108, 101, 115], [109, 97, 114, 107], [115, 105, 110, 99, 101], [115, 104, 111, 119], [108, 105, 115, 116], [97, 116], [99, 117, 116], [110, 111, 110, 101]]
def words10 : List PyData := [.str "put", .str "drop", .str "rules", .str "mark", .str "since", .str "show", .str "list", .str "at", .str "cut", .str "none"]
theorem words_tx : words10 = WORDS.map nmD := by
  show [PyData.str "put", .str "drop", .str "rules", .str "mark", .str "since", .str "show", .str "list", .str "at", .str "cut", .str "none"] = [nmD [112, 117, 116], nmD [100, 114, 111, 112], nmD [114, 117, 108, 101, 115], nmD [109, 97, 114, 107], nmD [115, 105, 110, 99, 101], nmD [115, 104, 111, 119], nmD [108, 105, 115, 116], nmD [97, 116], nmD [99, 117, 116], nmD [110, 111, 110, 101]]
  unfold nmD
  congr 1
theorem words_nm : ∀ x ∈ words10, IsName x := fun x hx => by
  rw [words_tx] at hx
  obtain ⟨l, hl, rfl⟩ := List.mem_map.mp hx
  exact ⟨l, rfl, name_of (List.all_eq_true.mp (show WORDS.all nameB = true by decide +kernel) l hl)⟩
theorem app_mmu {xs : List PyData} {y : PyData} (h : xs.length < 16777216) : mmu .append xs [y] = some (xs ++ [y], .none) := if_pos (decide_eq_true h)
def cutN (l : List Nat) (lo hi : Option Int) : List Nat := (l.drop (HT.sIx l.length 0 lo)).take (HT.sIx l.length l.length hi - HT.sIx l.length 0 lo)
theorem sl_tx {l : List Nat} {lo hi : Option Int} (h : l.length ≤ 16777216) : slD (.str (tx l)) lo hi = some (.str (tx (cutN l lo hi))) := by
  show (if fitsN (tx l).length then some (PyData.str (L2.cutS (tx l) lo hi)) else none) = _
  rw [if_pos (fits_lit (by rw [tx_len]; exact h))]
  unfold L2.cutS cutN
  show some (PyData.str ⟨((l.toArray.toList.drop (HT.sIx (tx l).length 0 lo)).take _).toArray⟩) = _
  rw [tx_len, List.toList_toArray]
  rfl
theorem cutN_len {l : List Nat} {lo hi : Option Int} : (cutN l lo hi).length = min (HT.sIx l.length l.length hi - HT.sIx l.length 0 lo) (l.length - HT.sIx l.length 0 lo) := by
  unfold cutN
  rw [List.length_take, List.length_drop]
theorem cutN_mem {l : List Nat} {lo hi : Option Int} {c : Nat} (h : c ∈ cutN l lo hi) : c ∈ l := List.mem_of_mem_drop (List.mem_of_mem_take h)
theorem len_bfn {l : List Nat} (h : l.length ≤ 16777216) : bfn .len [.str (tx l)] = some (.int l.length) := by
  show (if fitsN (tx l).length then some (PyData.int (tx l).length) else none) = _
  rw [if_pos (fits_lit (by rw [tx_len]; exact h)), tx_len]
theorem pop_mmu {xs : List PyData} {i : Int} (h0 : 0 ≤ i) (h1 : i < xs.length) (h2 : xs.length < 2 ^ 60) : ∃ y ∈ xs, mmu .pop xs [.int i] = some (xs.eraseIdx i.toNat, y) := by
  have hj : i.toNat < xs.length := by omega
  refine ⟨xs[i.toNat], List.getElem_mem _, ?_⟩
  show (if decide (-(2 ^ 63) ≤ i) && decide (i < 2 ^ 63) then (seqIndex? i xs.length).bind fun k => (xs[k]?).map fun y => (xs.eraseIdx k, y) else none) = _
  rw [decide_eq_true (by omega : -(2 ^ 63) ≤ i), decide_eq_true (by omega : i < 2 ^ 63)]
  have e : seqIndex? i xs.length = some i.toNat := (L2.ixN_seq (by unfold L2.ixN; rw [if_pos h0, if_pos h1])).1
  show (seqIndex? i xs.length).bind _ = _
  rw [e]
  show (xs[i.toNat]?).map _ = _
  rw [List.getElem?_eq_getElem hj]
  rfl
theorem IsNm.fine {b n : Nat} {d : PyData} (h : IsNm b d) : Fine n d := by
  obtain ⟨s, rfl, _, _, h⟩ := h
  exact fine_str h
theorem mem_erase {xs : List PyData} {i : Nat} {x : PyData} (h : x ∈ xs.eraseIdx i) : x ∈ xs := List.mem_of_mem_eraseIdx h
theorem cut_toZ {s : List Nat} {z : Int} (h : 0 ≤ z) : cutN s none (some z) = s.take z.toNat := by
  unfold cutN
  rw [sIx_of h]
  show List.take (min z.toNat s.length - 0) (List.drop 0 s) = _
  rw [List.drop_zero, Nat.sub_zero]
  by_cases h : z.toNat ≤ s.length
  · rw [Nat.min_eq_left h]
  · rw [Nat.min_eq_right (by omega), List.take_length, List.take_of_length_le (by omega)]
theorem names_p (h6 : G 6 = some F6) (h8 : G 8 = some F8) {k : Deck} {B : Int} {rest : Sto} {K : SV → Sto → Prop} {many : Int} (hk : k.Ok B) (hB : B < 2 ^ 59) (h0 : 1 ≤ many) (h1 : many ≤ 10) (h : ∀ (xs : List PyData) (k' : Deck), xs.length = many.toNat → (∀ x ∈ xs, IsName x) → k'.Ok (B + 12 + many) → K (.d (.list xs)) (k'.st ++ rest)) :
    OutP (callI G (n + 2) 8 [.ref 1, .d (.int many)] (k.st ++ rest)) K := by
  refine call_deck h8 rfl rfl ?_
  rw [List.append_nil]
  have s7 : small62 7 = true := by decide
  have sm : small62 many = true := small62_of (by omega) (by omega)
  simp only [F8, ↓flP_retS, ↓flP_iff, ↓outP_and, ↓outP_or, ↓outP_ite, ↓outP_cmp2, flP_of, flP_next, flP_ret, flP_bad, flP_nil, flP_cons, outP_ok, outP_bad, outP_of, outP_bind, outP_nox, ok_bind, ok_of, of_some, open_none, ex, ev, evs, evo, evT, evI, dat, datX, datP, datAll, dOf, seqI, lockM, openM, boxK, freshE, retOk, asgT_nm, asgT_tup, asgT_lst, asgTs_nil, asgTs_cons, List.map_cons, List.map_nil, List.cons_append, List.nil_append, List.getElem?_cons_zero, List.getElem?_cons_succ, List.length_cons, List.length_nil, List.replicate, Option.bind_some, Option.map_some, Option.isSome_some, List.set_cons_zero, List.set_cons_succ, Nat.zero_add, Nat.reduceAdd, Nat.reduceSub, Nat.reduceLT, Nat.reduceLeDiff, Nat.reduceEqDiff, Int.reduceNeg, Int.reduceLT, Int.reduceLE, Int.reduceAdd, Int.reduceSub, decide_true, decide_false, Bool.and_self, Bool.and_true, Bool.true_and, Bool.and_false, Bool.false_and, Bool.or_true, Bool.true_or, Bool.or_false, Bool.false_or, Bool.not_true, Bool.not_false, ↓reduceIte, Bool.false_eq_true, truD, bop_addI, bop_subI, bop_mulI, bop_modI, bop_fdivI, bop_pow18, bop_addT, bop_addL, cop_eq, cop_ne, cop_ltI, cop_leI, cop_gtI, cop_geI, eqD_ii, eqD_ss, eqD_bb, fits_lit, recvOk, recvOk.isL, isMut, isDic, killR, List.foldl, List.append_assoc, List.length_append, Nat.add_assoc, dk_len, st_get0, st_get1, st_get2, st_set0, st_set1, st_set2, Option.some.injEq, exists_eq_left', exists_eq_left, SV.d.injEq, PyData.bool.injEq, SV.ref.injEq, reduceCtorEq, false_and, and_false, exists_false, or_false, false_or, true_and, and_true, true_implies, false_implies, forall_const, beq_self_eq_true, Bool.true_eq_false, let_tx, dig_tx, sig_add, s7, ↓reduceIte]
  refine draw_p h6 hk (by omega) (by omega) (by omega) fun way k1 w0 w1 hk1 => ?_
  refine draw_p h6 hk1 (by omega) (by omega) (by omega) fun r2 k2 a2 b2 hk2 => ?_
  obtain ⟨c0, hc0, e0⟩ := ix_tx (l := LETS) a2 (by rw [let_len]; exact b2) (by decide)
  simp only [↓flP_retS, ↓flP_iff, ↓outP_and, ↓outP_or, ↓outP_ite, ↓outP_cmp2, flP_of, flP_next, flP_ret, flP_bad, flP_nil, flP_cons, outP_ok, outP_bad, outP_of, outP_bind, outP_nox, ok_bind, ok_of, of_some, open_none, ex, ev, evs, evo, evT, evI, dat, datX, datP, datAll, dOf, seqI, lockM, openM, boxK, freshE, retOk, asgT_nm, asgT_tup, asgT_lst, asgTs_nil, asgTs_cons, List.map_cons, List.map_nil, List.cons_append, List.nil_append, List.getElem?_cons_zero, List.getElem?_cons_succ, List.length_cons, List.length_nil, List.replicate, Option.bind_some, Option.map_some, Option.isSome_some, List.set_cons_zero, List.set_cons_succ, Nat.zero_add, Nat.reduceAdd, Nat.reduceSub, Nat.reduceLT, Nat.reduceLeDiff, Nat.reduceEqDiff, Int.reduceNeg, Int.reduceLT, Int.reduceLE, Int.reduceAdd, Int.reduceSub, decide_true, decide_false, Bool.and_self, Bool.and_true, Bool.true_and, Bool.and_false, Bool.false_and, Bool.or_true, Bool.true_or, Bool.or_false, Bool.false_or, Bool.not_true, Bool.not_false, ↓reduceIte, Bool.false_eq_true, truD, bop_addI, bop_subI, bop_mulI, bop_modI, bop_fdivI, bop_pow18, bop_addT, bop_addL, cop_eq, cop_ne, cop_ltI, cop_leI, cop_gtI, cop_geI, eqD_ii, eqD_ss, eqD_bb, fits_lit, recvOk, recvOk.isL, isMut, isDic, killR, List.foldl, List.append_assoc, List.length_append, Nat.add_assoc, dk_len, st_get0, st_get1, st_get2, st_set0, st_set1, st_set2, Option.some.injEq, exists_eq_left', exists_eq_left, SV.d.injEq, PyData.bool.injEq, SV.ref.injEq, reduceCtorEq, false_and, and_false, exists_false, or_false, false_or, true_and, and_true, true_implies, false_implies, forall_const, beq_self_eq_true, Bool.true_eq_false, e0]
  refine OutP.comp (fun xs ys m => ∃ (k' : Deck) (cs : List Nat), m = k'.st ++ rest ∧ k'.Ok (B + 2 + ys.length) ∧ ys = cs.map (fun c => PyData.str (tx [c])) ∧ (∀ c ∈ cs, c ∈ SIGS) ∧ xs.length + ys.length = 7) ⟨k2, [], rfl, hk2.mono (by simp; omega), rfl, (fun c hc => by cases hc), by rw [rng_len]; rfl⟩ ?_ ?_
  · rintro x xs ys m ⟨k', cs, rfl, hk', rfl, hcs, hl⟩
    simp only [↓flP_retS, ↓flP_iff, ↓outP_and, ↓outP_or, ↓outP_ite, ↓outP_cmp2, flP_of, flP_next, flP_ret, flP_bad, flP_nil, flP_cons, outP_ok, outP_bad, outP_of, outP_bind, outP_nox, ok_bind, ok_of, of_some, open_none, ex, ev, evs, evo, evT, evI, dat, datX, datP, datAll, dOf, seqI, lockM, openM, boxK, freshE, retOk, asgT_nm, asgT_tup, asgT_lst, asgTs_nil, asgTs_cons, List.map_cons, List.map_nil, List.cons_append, List.nil_append, List.getElem?_cons_zero, List.getElem?_cons_succ, List.length_cons, List.length_nil, List.replicate, Option.bind_some, Option.map_some, Option.isSome_some, List.set_cons_zero, List.set_cons_succ, Nat.zero_add, Nat.reduceAdd, Nat.reduceSub, Nat.reduceLT, Nat.reduceLeDiff, Nat.reduceEqDiff, Int.reduceNeg, Int.reduceLT, Int.reduceLE, Int.reduceAdd, Int.reduceSub, decide_true, decide_false, Bool.and_self, Bool.and_true, Bool.true_and, Bool.and_false, Bool.false_and, Bool.or_true, Bool.true_or, Bool.or_false, Bool.false_or, Bool.not_true, Bool.not_false, ↓reduceIte, Bool.false_eq_true, truD, bop_addI, bop_subI, bop_mulI, bop_modI, bop_fdivI, bop_pow18, bop_addT, bop_addL, cop_eq, cop_ne, cop_ltI, cop_leI, cop_gtI, cop_geI, eqD_ii, eqD_ss, eqD_bb, fits_lit, recvOk, recvOk.isL, isMut, isDic, killR, List.foldl, List.append_assoc, List.length_append, Nat.add_assoc, dk_len, st_get0, st_get1, st_get2, st_set0, st_set1, st_set2, Option.some.injEq, exists_eq_left', exists_eq_left, SV.d.injEq, PyData.bool.injEq, SV.ref.injEq, reduceCtorEq, false_and, and_false, exists_false, or_false, false_or, true_and, and_true, true_implies, false_implies, forall_const, beq_self_eq_true, Bool.true_eq_false]
    refine draw_p h6 hk' ?_ (by omega) (by omega) fun r3 k3 a3 b3 hk3 => ?_
    · rw [List.length_cons] at hl
      omega
    obtain ⟨c3, hc3, e3⟩ := ix_tx (l := SIGS) a3 (by rw [sig_len]; exact b3) (by decide)
    simp only [↓flP_retS, ↓flP_iff, ↓outP_and, ↓outP_or, ↓outP_ite, ↓outP_cmp2, flP_of, flP_next, flP_ret, flP_bad, flP_nil, flP_cons, outP_ok, outP_bad, outP_of, outP_bind, outP_nox, ok_bind, ok_of, of_some, open_none, ex, ev, evs, evo, evT, evI, dat, datX, datP, datAll, dOf, seqI, lockM, openM, boxK, freshE, retOk, asgT_nm, asgT_tup, asgT_lst, asgTs_nil, asgTs_cons, List.map_cons, List.map_nil, List.cons_append, List.nil_append, List.getElem?_cons_zero, List.getElem?_cons_succ, List.length_cons, List.length_nil, List.replicate, Option.bind_some, Option.map_some, Option.isSome_some, List.set_cons_zero, List.set_cons_succ, Nat.zero_add, Nat.reduceAdd, Nat.reduceSub, Nat.reduceLT, Nat.reduceLeDiff, Nat.reduceEqDiff, Int.reduceNeg, Int.reduceLT, Int.reduceLE, Int.reduceAdd, Int.reduceSub, decide_true, decide_false, Bool.and_self, Bool.and_true, Bool.true_and, Bool.and_false, Bool.false_and, Bool.or_true, Bool.true_or, Bool.or_false, Bool.false_or, Bool.not_true, Bool.not_false, ↓reduceIte, Bool.false_eq_true, truD, bop_addI, bop_subI, bop_mulI, bop_modI, bop_fdivI, bop_pow18, bop_addT, bop_addL, cop_eq, cop_ne, cop_ltI, cop_leI, cop_gtI, cop_geI, eqD_ii, eqD_ss, eqD_bb, fits_lit, recvOk, recvOk.isL, isMut, isDic, killR, List.foldl, List.append_assoc, List.length_append, Nat.add_assoc, dk_len, st_get0, st_get1, st_get2, st_set0, st_set1, st_set2, Option.some.injEq, exists_eq_left', exists_eq_left, SV.d.injEq, PyData.bool.injEq, SV.ref.injEq, reduceCtorEq, false_and, and_false, exists_false, or_false, false_or, true_and, and_true, true_implies, false_implies, forall_const, beq_self_eq_true, Bool.true_eq_false, e3]
    refine ⟨k3, cs ++ [c3], rfl, hk3.mono ?_, by rw [List.map_append]; rfl, fun c hc => ?_, ?_⟩
    · omega
    · rcases List.mem_append.mp hc with hc | hc
      · exact hcs c hc
      · rw [List.mem_singleton] at hc; subst hc; exact hc3
    · rw [List.length_cons] at hl
      omega
  · rintro ys m ⟨k', cs, rfl, hk', rfl, hcs, hl⟩
    rw [List.length_nil, Nat.zero_add, List.length_map] at hl
    rw [List.length_map, hl] at hk'
    have hf : fitsN (cs.map fun c => PyData.str (tx [c])).length = true := fits_lit (by rw [List.length_map, hl]; decide)
    have hj := mfn_join (cs := cs) (by omega)
    have hw : bop .add (.str (tx [c0])) (.str (tx cs)) = some (.str (tx (c0 :: cs))) := bop_tx (by rw [hl]; show 1 + 7 ≤ 16777216; decide)
    simp only [↓flP_retS, ↓flP_iff, ↓outP_and, ↓outP_or, ↓outP_ite, ↓outP_cmp2, flP_of, flP_next, flP_ret, flP_bad, flP_nil, flP_cons, outP_ok, outP_bad, outP_of, outP_bind, outP_nox, ok_bind, ok_of, of_some, open_none, ex, ev, evs, evo, evT, evI, dat, datX, datP, datAll, dOf, seqI, lockM, openM, boxK, freshE, retOk, asgT_nm, asgT_tup, asgT_lst, asgTs_nil, asgTs_cons, List.map_cons, List.map_nil, List.cons_append, List.nil_append, List.getElem?_cons_zero, List.getElem?_cons_succ, List.length_cons, List.length_nil, List.replicate, Option.bind_some, Option.map_some, Option.isSome_some, List.set_cons_zero, List.set_cons_succ, Nat.zero_add, Nat.reduceAdd, Nat.reduceSub, Nat.reduceLT, Nat.reduceLeDiff, Nat.reduceEqDiff, Int.reduceNeg, Int.reduceLT, Int.reduceLE, Int.reduceAdd, Int.reduceSub, decide_true, decide_false, Bool.and_self, Bool.and_true, Bool.true_and, Bool.and_false, Bool.false_and, Bool.or_true, Bool.true_or, Bool.or_false, Bool.false_or, Bool.not_true, Bool.not_false, ↓reduceIte, Bool.false_eq_true, truD, bop_addI, bop_subI, bop_mulI, bop_modI, bop_fdivI, bop_pow18, bop_addT, bop_addL, cop_eq, cop_ne, cop_ltI, cop_leI, cop_gtI, cop_geI, eqD_ii, eqD_ss, eqD_bb, fits_lit, recvOk, recvOk.isL, isMut, isDic, killR, List.foldl, List.append_assoc, List.length_append, Nat.add_assoc, dk_len, st_get0, st_get1, st_get2, st_set0, st_set1, st_set2, Option.some.injEq, exists_eq_left', exists_eq_left, SV.d.injEq, PyData.bool.injEq, SV.ref.injEq, reduceCtorEq, false_and, and_false, exists_false, or_false, false_or, true_and, and_true, true_implies, false_implies, forall_const, beq_self_eq_true, Bool.true_eq_false, hf, hj, hw]
    refine draw_p h6 hk' (by omega) (by omega) (by omega) fun at_ k4 a4 b4 hk4 => ?_
    refine draw_p h6 hk4 (by omega) (by omega) (by omega) fun r5 k5 a5 b5 hk5 => ?_
    simp only [↓flP_retS, ↓flP_iff, ↓outP_and, ↓outP_or, ↓outP_ite, ↓outP_cmp2, flP_of, flP_next, flP_ret, flP_bad, flP_nil, flP_cons, outP_ok, outP_bad, outP_of, outP_bind, outP_nox, ok_bind, ok_of, of_some, open_none, ex, ev, evs, evo, evT, evI, dat, datX, datP, datAll, dOf, seqI, lockM, openM, boxK, freshE, retOk, asgT_nm, asgT_tup, asgT_lst, asgTs_nil, asgTs_cons, List.map_cons, List.map_nil, List.cons_append, List.nil_append, List.getElem?_cons_zero, List.getElem?_cons_succ, List.length_cons, List.length_nil, List.replicate, Option.bind_some, Option.map_some, Option.isSome_some, List.set_cons_zero, List.set_cons_succ, Nat.zero_add, Nat.reduceAdd, Nat.reduceSub, Nat.reduceLT, Nat.reduceLeDiff, Nat.reduceEqDiff, Int.reduceNeg, Int.reduceLT, Int.reduceLE, Int.reduceAdd, Int.reduceSub, decide_true, decide_false, Bool.and_self, Bool.and_true, Bool.true_and, Bool.and_false, Bool.false_and, Bool.or_true, Bool.true_or, Bool.or_false, Bool.false_or, Bool.not_true, Bool.not_false, ↓reduceIte, Bool.false_eq_true, truD, bop_addI, bop_subI, bop_mulI, bop_modI, bop_fdivI, bop_pow18, bop_addT, bop_addL, cop_eq, cop_ne, cop_ltI, cop_leI, cop_gtI, cop_geI, eqD_ii, eqD_ss, eqD_bb, fits_lit, recvOk, recvOk.isL, isMut, isDic, killR, List.foldl, List.append_assoc, List.length_append, Nat.add_assoc, dk_len, st_get0, st_get1, st_get2, st_set0, st_set1, st_set2, Option.some.injEq, exists_eq_left', exists_eq_left, SV.d.injEq, PyData.bool.injEq, SV.ref.injEq, reduceCtorEq, false_and, and_false, exists_false, or_false, false_or, true_and, and_true, true_implies, false_implies, forall_const, beq_self_eq_true, Bool.true_eq_false]
    refine draw_p h6 hk5 (by omega) (by omega) (by omega) fun r6 k6 a6 b6 hk6 => ?_
    have hlong : ∃ L : Int, 0 ≤ L ∧ ixD (.list [.int (1 + r5), .int (at_ + 1 + r6)]) (.int (if (way == 1) = true then 1 else 0)) = some (.int L) := by
      by_cases hw : way = 1
      · subst hw; exact ⟨at_ + 1 + r6, by omega, rfl⟩
      · rw [if_neg (by simpa using hw)]; exact ⟨1 + r5, by omega, rfl⟩
    obtain ⟨L, hL, eL⟩ := hlong
    simp only [↓flP_retS, ↓flP_iff, ↓outP_and, ↓outP_or, ↓outP_ite, ↓outP_cmp2, flP_of, flP_next, flP_ret, flP_bad, flP_nil, flP_cons, outP_ok, outP_bad, outP_of, outP_bind, outP_nox, ok_bind, ok_of, of_some, open_none, ex, ev, evs, evo, evT, evI, dat, datX, datP, datAll, dOf, seqI, lockM, openM, boxK, freshE, retOk, asgT_nm, asgT_tup, asgT_lst, asgTs_nil, asgTs_cons, List.map_cons, List.map_nil, List.cons_append, List.nil_append, List.getElem?_cons_zero, List.getElem?_cons_succ, List.length_cons, List.length_nil, List.replicate, Option.bind_some, Option.map_some, Option.isSome_some, List.set_cons_zero, List.set_cons_succ, Nat.zero_add, Nat.reduceAdd, Nat.reduceSub, Nat.reduceLT, Nat.reduceLeDiff, Nat.reduceEqDiff, Int.reduceNeg, Int.reduceLT, Int.reduceLE, Int.reduceAdd, Int.reduceSub, decide_true, decide_false, Bool.and_self, Bool.and_true, Bool.true_and, Bool.and_false, Bool.false_and, Bool.or_true, Bool.true_or, Bool.or_false, Bool.false_or, Bool.not_true, Bool.not_false, ↓reduceIte, Bool.false_eq_true, truD, bop_addI, bop_subI, bop_mulI, bop_modI, bop_fdivI, bop_pow18, bop_addT, bop_addL, cop_eq, cop_ne, cop_ltI, cop_leI, cop_gtI, cop_geI, eqD_ii, eqD_ss, eqD_bb, fits_lit, recvOk, recvOk.isL, isMut, isDic, killR, List.foldl, List.append_assoc, List.length_append, Nat.add_assoc, dk_len, st_get0, st_get1, st_get2, st_set0, st_set1, st_set2, Option.some.injEq, exists_eq_left', exists_eq_left, SV.d.injEq, PyData.bool.injEq, SV.ref.injEq, reduceCtorEq, false_and, and_false, exists_false, or_false, false_or, true_and, and_true, true_implies, false_implies, forall_const, beq_self_eq_true, Bool.true_eq_false, bfn_intB, eL, sm]
    refine FlP.forI (fun i r m => ∃ (k' : Deck) (found : List PyData), r = _ ∧ m = k'.st ++ (rest ++ [.lst found]) ∧ found.length = i ∧ (∀ x ∈ found, IsName x) ∧ k'.Ok (B + 12)) ⟨k6, [], rfl, rfl, rfl, (fun x hx => by cases hx), hk6.mono (by omega)⟩ ?_ ?_
    · rintro i x r m hx ⟨k', found, rfl, rfl, hlen, hnm, hkf⟩
      obtain ⟨rfl, hi⟩ := rng_get hx
      have hap : ∀ y, mmu .append found [y] = some (found ++ [y], .none) := fun y => app_mmu (by omega)
      have done : ∀ y, IsName y → ∃ (k'' : Deck) (found' : List PyData), k'.st ++ (rest ++ [Ob.lst (found ++ [y])]) = k''.st ++ (rest ++ [.lst found']) ∧ found'.length = i + 1 ∧ (∀ x ∈ found', IsName x) ∧ k''.Ok (B + 12) := fun y hy => ⟨k', found ++ [y], rfl, by rw [List.length_append, hlen]; rfl, fun x hx => by
        rcases List.mem_append.mp hx with hx | hx
        · exact hnm x hx
        · rw [List.mem_singleton] at hx; subst hx; exact hy, hkf⟩
      have hw8 : (c0 :: cs).length = 8 := by rw [List.length_cons, hl]
      have hwl : ∀ c ∈ c0 :: cs, c < 0x110000 := fun c hc => by
        rcases List.mem_cons.mp hc with rfl | hc
        · exact sig_lt _ (let_sig _ hc0)
        · exact sig_lt _ (hcs c hc)
      have hsl : ∀ lo hi, slD (.str (tx (c0 :: cs))) lo hi = some (.str (tx (cutN (c0 :: cs) lo hi))) := fun lo hi => sl_tx (by rw [hw8]; decide)
      by_cases hc : way = 2 ∧ many < 9
      · obtain ⟨rfl, hm9⟩ := hc
        simp only [↓flP_retS, ↓flP_iff, ↓outP_and, ↓outP_or, ↓outP_ite, ↓outP_cmp2, flP_of, flP_next, flP_ret, flP_bad, flP_nil, flP_cons, outP_ok, outP_bad, outP_of, outP_bind, outP_nox, ok_bind, ok_of, of_some, open_none, ex, ev, evs, evo, evT, evI, dat, datX, datP, datAll, dOf, seqI, lockM, openM, boxK, freshE, retOk, asgT_nm, asgT_tup, asgT_lst, asgTs_nil, asgTs_cons, List.map_cons, List.map_nil, List.cons_append, List.nil_append, List.getElem?_cons_zero, List.getElem?_cons_succ, List.length_cons, List.length_nil, List.replicate, Option.bind_some, Option.map_some, Option.isSome_some, List.set_cons_zero, List.set_cons_succ, Nat.zero_add, Nat.reduceAdd, Nat.reduceSub, Nat.reduceLT, Nat.reduceLeDiff, Nat.reduceEqDiff, Int.reduceNeg, Int.reduceLT, Int.reduceLE, Int.reduceAdd, Int.reduceSub, decide_true, decide_false, Bool.and_self, Bool.and_true, Bool.true_and, Bool.and_false, Bool.false_and, Bool.or_true, Bool.true_or, Bool.or_false, Bool.false_or, Bool.not_true, Bool.not_false, ↓reduceIte, Bool.false_eq_true, truD, bop_addI, bop_subI, bop_mulI, bop_modI, bop_fdivI, bop_pow18, bop_addT, bop_addL, cop_eq, cop_ne, cop_ltI, cop_leI, cop_gtI, cop_geI, eqD_ii, eqD_ss, eqD_bb, fits_lit, recvOk, recvOk.isL, isMut, isDic, killR, List.foldl, List.append_assoc, List.length_append, Nat.add_assoc, dk_len, st_get0, st_get1, st_get2, st_set0, st_set1, st_set2, Option.some.injEq, exists_eq_left', exists_eq_left, SV.d.injEq, PyData.bool.injEq, SV.ref.injEq, reduceCtorEq, false_and, and_false, exists_false, or_false, false_or, true_and, and_true, true_implies, false_implies, forall_const, beq_self_eq_true, Bool.true_eq_false, hsl, hap, hm9]
        refine done _ ⟨_, rfl, ?_⟩
        rw [cut_toZ (by omega)]
        obtain ⟨p, hp⟩ : ∃ p, (0 + (i : Int) + 1).toNat = p + 1 := ⟨i, by omega⟩
        rw [hp, List.take_succ_cons]
        exact ⟨by rw [List.length_cons, List.length_take]; omega, c0, _, rfl, hc0, fun x hx => hcs x (List.mem_of_mem_take hx)⟩
      · have hor : (way == 2) = false ∨ ((way == 2) = true ∧ decide (many < 9) = false) := by
          by_cases q : way = 2
          · exact .inr ⟨by rw [q]; rfl, decide_eq_false fun z => hc ⟨q, z⟩⟩
          · exact .inl (beq_eq_false_iff_ne.mpr q)
        by_cases h3 : way = 3
        · subst h3
          obtain ⟨y, hy, ey⟩ := atI_in (xs := words10) (r := 0 + (i : Int)) (by omega) (by show 0 + (i : Int) < 10; omega)
          have ew : ixD (.list words10) (.int (0 + (i : Int))) = some y := ey
          simp only [words10] at ew
          have e32 : ((3 : Int) == 2) = false := by decide
          simp only [↓flP_retS, ↓flP_iff, ↓outP_and, ↓outP_or, ↓outP_ite, ↓outP_cmp2, flP_of, flP_next, flP_ret, flP_bad, flP_nil, flP_cons, outP_ok, outP_bad, outP_of, outP_bind, outP_nox, ok_bind, ok_of, of_some, open_none, ex, ev, evs, evo, evT, evI, dat, datX, datP, datAll, dOf, seqI, lockM, openM, boxK, freshE, retOk, asgT_nm, asgT_tup, asgT_lst, asgTs_nil, asgTs_cons, List.map_cons, List.map_nil, List.cons_append, List.nil_append, List.getElem?_cons_zero, List.getElem?_cons_succ, List.length_cons, List.length_nil, List.replicate, Option.bind_some, Option.map_some, Option.isSome_some, List.set_cons_zero, List.set_cons_succ, Nat.zero_add, Nat.reduceAdd, Nat.reduceSub, Nat.reduceLT, Nat.reduceLeDiff, Nat.reduceEqDiff, Int.reduceNeg, Int.reduceLT, Int.reduceLE, Int.reduceAdd, Int.reduceSub, decide_true, decide_false, Bool.and_self, Bool.and_true, Bool.true_and, Bool.and_false, Bool.false_and, Bool.or_true, Bool.true_or, Bool.or_false, Bool.false_or, Bool.not_true, Bool.not_false, ↓reduceIte, Bool.false_eq_true, truD, bop_addI, bop_subI, bop_mulI, bop_modI, bop_fdivI, bop_pow18, bop_addT, bop_addL, cop_eq, cop_ne, cop_ltI, cop_leI, cop_gtI, cop_geI, eqD_ii, eqD_ss, eqD_bb, fits_lit, recvOk, recvOk.isL, isMut, isDic, killR, List.foldl, List.append_assoc, List.length_append, Nat.add_assoc, dk_len, st_get0, st_get1, st_get2, st_set0, st_set1, st_set2, Option.some.injEq, exists_eq_left', exists_eq_left, SV.d.injEq, PyData.bool.injEq, SV.ref.injEq, reduceCtorEq, false_and, and_false, exists_false, or_false, false_or, true_and, and_true, true_implies, false_implies, forall_const, beq_self_eq_true, Bool.true_eq_false, e32, ew, hap]
          exact done _ (words_nm y hy)
        · have e3 : (way == 3) = false := beq_eq_false_iff_ne.mpr h3
          obtain ⟨SM, eSM, hSM⟩ : ∃ SM : List Nat, ixD (.list [.str (tx LETS), .str (tx SIGS)]) (.int (if decide (0 < at_) = true then 1 else 0)) = some (.str (tx SM)) ∧ (0 < at_ → SM = SIGS) := by
            by_cases q : 0 < at_
            · exact ⟨SIGS, by rw [decide_eq_true q]; rfl, fun _ => rfl⟩
            · exact ⟨LETS, by rw [decide_eq_false q]; rfl, fun z => absurd z q⟩
          obtain ⟨spot, eSp, hsp0, hsp8, hspa⟩ : ∃ spot : Int, ixD (.list [.int 0, .int at_]) (.int (if (way == 1) = true then 1 else 0)) = some (.int spot) ∧ 0 ≤ spot ∧ spot < 8 ∧ (0 < spot → 0 < at_) := by
            by_cases q : way = 1
            · exact ⟨at_, by rw [q]; rfl, a4, b4, id⟩
            · exact ⟨0, by rw [if_neg (by simpa using q)]; rfl, by decide, by decide, fun z => by omega⟩
          have e00 : ixD (.str (tx (c0 :: cs))) (.int 0) = some (.str (tx [c0])) := by
            show (if fitsN (tx (c0 :: cs)).length then _ else _) = _
            rw [if_pos (fits_lit (by rw [tx_len, hw8]; decide))]
            show (L2.atI (c0 :: cs).toArray.toList 0).map _ = _
            rw [List.toList_toArray]
            have : L2.atI (c0 :: cs) 0 = some c0 := by
              unfold L2.atI L2.ixN
              rw [if_pos (Int.le_refl _), if_pos (by rw [hw8]; decide)]
              rfl
            rw [this]; rfl
          obtain ⟨j0, ej0, hj0⟩ := find_let hc0
          obtain ⟨c1, hc1, e1⟩ := ix_tx (l := LETS) (i := ((j0 : Int) + (0 + (i : Int))) % 26) (Int.emod_nonneg _ (by decide)) (by rw [let_len]; exact Int.emod_lt_of_pos _ (by decide)) (by decide)
          have p26 : (0 : Int) < 26 := by decide
          have last : ∀ sg, sg ∈ SIGS → (spot = 0 → sg ∈ LETS) → bop .add (.str (tx (cutN (c0 :: cs) none (some spot)))) (.str (tx [sg])) = some (.str (tx (cutN (c0 :: cs) none (some spot) ++ [sg]))) ∧ bop .add (.str (tx (cutN (c0 :: cs) none (some spot) ++ [sg]))) (.str (tx (cutN (c0 :: cs) (some (spot + 1)) (some L)))) = some (.str (tx (cutN (c0 :: cs) none (some spot) ++ [sg] ++ cutN (c0 :: cs) (some (spot + 1)) (some L)))) ∧ IsName (.str (tx (cutN (c0 :: cs) none (some spot) ++ [sg] ++ cutN (c0 :: cs) (some (spot + 1)) (some L)))) := fun sg hsg hsg0 => by
            have l1 : (cutN (c0 :: cs) none (some spot)).length = spot.toNat := by
              rw [cutN_len, hw8, sIx_of hsp0]
              show min (min _ 8 - 0) (8 - 0) = _
              omega
            have l2 : (cutN (c0 :: cs) (some (spot + 1)) (some L)).length ≤ 7 - spot.toNat := by
              rw [cutN_len, hw8, sIx_of (by omega : 0 ≤ spot + 1)]
              omega
            refine ⟨bop_tx (by rw [l1]; show spot.toNat + 1 ≤ _; omega), bop_tx (by rw [List.length_append, l1]; show spot.toNat + 1 + _ ≤ _; omega), ⟨_, rfl, ?_, ?_⟩⟩
            · rw [List.length_append, List.length_append, l1]; show spot.toNat + 1 + _ ≤ 8; omega
            · rw [cut_toZ hsp0]
              by_cases q : spot = 0
              · subst q
                exact ⟨sg, _, rfl, hsg0 rfl, fun x hx => by
                  have := cutN_mem hx
                  rcases List.mem_cons.mp this with rfl | this
                  · exact let_sig _ hc0
                  · exact hcs x this⟩
              · obtain ⟨p, hp⟩ : ∃ p, spot.toNat = p + 1 := ⟨spot.toNat - 1, by omega⟩
                rw [hp, List.take_succ_cons]
                refine ⟨c0, List.take p cs ++ [sg] ++ cutN (c0 :: cs) (some (spot + 1)) (some L), rfl, hc0, fun x hx => ?_⟩
                rcases List.mem_append.mp hx with hx | hx
                · rcases List.mem_append.mp hx with hx | hx
                  · exact hcs x (List.mem_of_mem_take hx)
                  · rw [List.mem_singleton] at hx; subst hx; exact hsg
                · have := cutN_mem hx
                  rcases List.mem_cons.mp this with rfl | this
                  · exact let_sig _ hc0
                  · exact hcs x this
          by_cases hs : 0 < spot
          · obtain rfl := hSM (hspa hs)
            obtain ⟨cw, hcw, ecw⟩ : ∃ cw ∈ SIGS, ixD (.str (tx (c0 :: cs))) (.int spot) = some (.str (tx [cw])) := by
              obtain ⟨p, hp⟩ : ∃ p, spot.toNat = p + 1 := ⟨spot.toNat - 1, by omega⟩
              have hj : p < cs.length := by omega
              refine ⟨cs[p], hcs _ (List.getElem_mem _), ?_⟩
              show (if fitsN (tx (c0 :: cs)).length then _ else _) = _
              rw [if_pos (fits_lit (by rw [tx_len, hw8]; decide))]
              show (L2.atI (c0 :: cs).toArray.toList spot).map _ = _
              rw [List.toList_toArray]
              have : L2.atI (c0 :: cs) spot = some cs[p] := by
                unfold L2.atI L2.ixN
                rw [if_pos hsp0, if_pos (by rw [hw8]; exact hsp8)]
                show (c0 :: cs)[spot.toNat]? = _
                rw [hp, List.getElem?_cons_succ]
                exact List.getElem?_eq_getElem hj
              rw [this]; rfl
            obtain ⟨j1, ej1, hj1⟩ := find_sig hcw
            obtain ⟨c2, hc2, e2⟩ := ix_tx (l := SIGS) (i := ((j1 : Int) + (0 + (i : Int))) % 36) (Int.emod_nonneg _ (by decide)) (by rw [sig_len]; exact Int.emod_lt_of_pos _ (by decide)) (by decide)
            have ln : bfn .len [.str (tx SIGS)] = some (.int 36) := len_bfn (by decide)
            have p36 : (0 : Int) < 36 := by decide
            obtain ⟨q1, q2, q3⟩ := last c2 hc2 (fun z => by omega)
            have hd : decide (0 < spot) = true := decide_eq_true hs
            simp only [List.append_assoc, List.cons_append, List.nil_append] at q3
            rcases hor with e1' | ⟨e1', e2'⟩
            · simp only [↓flP_retS, ↓flP_iff, ↓outP_and, ↓outP_or, ↓outP_ite, ↓outP_cmp2, flP_of, flP_next, flP_ret, flP_bad, flP_nil, flP_cons, outP_ok, outP_bad, outP_of, outP_bind, outP_nox, ok_bind, ok_of, of_some, open_none, ex, ev, evs, evo, evT, evI, dat, datX, datP, datAll, dOf, seqI, lockM, openM, boxK, freshE, retOk, asgT_nm, asgT_tup, asgT_lst, asgTs_nil, asgTs_cons, List.map_cons, List.map_nil, List.cons_append, List.nil_append, List.getElem?_cons_zero, List.getElem?_cons_succ, List.length_cons, List.length_nil, List.replicate, Option.bind_some, Option.map_some, Option.isSome_some, List.set_cons_zero, List.set_cons_succ, Nat.zero_add, Nat.reduceAdd, Nat.reduceSub, Nat.reduceLT, Nat.reduceLeDiff, Nat.reduceEqDiff, Int.reduceNeg, Int.reduceLT, Int.reduceLE, Int.reduceAdd, Int.reduceSub, decide_true, decide_false, Bool.and_self, Bool.and_true, Bool.true_and, Bool.and_false, Bool.false_and, Bool.or_true, Bool.true_or, Bool.or_false, Bool.false_or, Bool.not_true, Bool.not_false, ↓reduceIte, Bool.false_eq_true, truD, bop_addI, bop_subI, bop_mulI, bop_modI, bop_fdivI, bop_pow18, bop_addT, bop_addL, cop_eq, cop_ne, cop_ltI, cop_leI, cop_gtI, cop_geI, eqD_ii, eqD_ss, eqD_bb, fits_lit, recvOk, recvOk.isL, isMut, isDic, killR, List.foldl, List.append_assoc, List.length_append, Nat.add_assoc, dk_len, st_get0, st_get1, st_get2, st_set0, st_set1, st_set2, Option.some.injEq, exists_eq_left', exists_eq_left, SV.d.injEq, PyData.bool.injEq, SV.ref.injEq, reduceCtorEq, false_and, and_false, exists_false, or_false, false_or, true_and, and_true, true_implies, false_implies, forall_const, beq_self_eq_true, Bool.true_eq_false, e1', e3, bfn_intB, eSM, eSp, e00, ej0, e1, hsl, hap, p26, hd, ecw, ej1, ln, p36, e2, q1, q2]
              exact done _ q3
            · simp only [↓flP_retS, ↓flP_iff, ↓outP_and, ↓outP_or, ↓outP_ite, ↓outP_cmp2, flP_of, flP_next, flP_ret, flP_bad, flP_nil, flP_cons, outP_ok, outP_bad, outP_of, outP_bind, outP_nox, ok_bind, ok_of, of_some, open_none, ex, ev, evs, evo, evT, evI, dat, datX, datP, datAll, dOf, seqI, lockM, openM, boxK, freshE, retOk, asgT_nm, asgT_tup, asgT_lst, asgTs_nil, asgTs_cons, List.map_cons, List.map_nil, List.cons_append, List.nil_append, List.getElem?_cons_zero, List.getElem?_cons_succ, List.length_cons, List.length_nil, List.replicate, Option.bind_some, Option.map_some, Option.isSome_some, List.set_cons_zero, List.set_cons_succ, Nat.zero_add, Nat.reduceAdd, Nat.reduceSub, Nat.reduceLT, Nat.reduceLeDiff, Nat.reduceEqDiff, Int.reduceNeg, Int.reduceLT, Int.reduceLE, Int.reduceAdd, Int.reduceSub, decide_true, decide_false, Bool.and_self, Bool.and_true, Bool.true_and, Bool.and_false, Bool.false_and, Bool.or_true, Bool.true_or, Bool.or_false, Bool.false_or, Bool.not_true, Bool.not_false, ↓reduceIte, Bool.false_eq_true, truD, bop_addI, bop_subI, bop_mulI, bop_modI, bop_fdivI, bop_pow18, bop_addT, bop_addL, cop_eq, cop_ne, cop_ltI, cop_leI, cop_gtI, cop_geI, eqD_ii, eqD_ss, eqD_bb, fits_lit, recvOk, recvOk.isL, isMut, isDic, killR, List.foldl, List.append_assoc, List.length_append, Nat.add_assoc, dk_len, st_get0, st_get1, st_get2, st_set0, st_set1, st_set2, Option.some.injEq, exists_eq_left', exists_eq_left, SV.d.injEq, PyData.bool.injEq, SV.ref.injEq, reduceCtorEq, false_and, and_false, exists_false, or_false, false_or, true_and, and_true, true_implies, false_implies, forall_const, beq_self_eq_true, Bool.true_eq_false, e1', e2', e3, bfn_intB, eSM, eSp, e00, ej0, e1, hsl, hap, p26, hd, ecw, ej1, ln, p36, e2, q1, q2]
              exact done _ q3
          · obtain ⟨q1, q2, q3⟩ := last c1 (let_sig _ hc1) (fun _ => hc1)
            have hd : decide (0 < spot) = false := decide_eq_false hs
            simp only [List.append_assoc, List.cons_append, List.nil_append] at q3
            rcases hor with e1' | ⟨e1', e2'⟩
            · simp only [↓flP_retS, ↓flP_iff, ↓outP_and, ↓outP_or, ↓outP_ite, ↓outP_cmp2, flP_of, flP_next, flP_ret, flP_bad, flP_nil, flP_cons, outP_ok, outP_bad, outP_of, outP_bind, outP_nox, ok_bind, ok_of, of_some, open_none, ex, ev, evs, evo, evT, evI, dat, datX, datP, datAll, dOf, seqI, lockM, openM, boxK, freshE, retOk, asgT_nm, asgT_tup, asgT_lst, asgTs_nil, asgTs_cons, List.map_cons, List.map_nil, List.cons_append, List.nil_append, List.getElem?_cons_zero, List.getElem?_cons_succ, List.length_cons, List.length_nil, List.replicate, Option.bind_some, Option.map_some, Option.isSome_some, List.set_cons_zero, List.set_cons_succ, Nat.zero_add, Nat.reduceAdd, Nat.reduceSub, Nat.reduceLT, Nat.reduceLeDiff, Nat.reduceEqDiff, Int.reduceNeg, Int.reduceLT, Int.reduceLE, Int.reduceAdd, Int.reduceSub, decide_true, decide_false, Bool.and_self, Bool.and_true, Bool.true_and, Bool.and_false, Bool.false_and, Bool.or_true, Bool.true_or, Bool.or_false, Bool.false_or, Bool.not_true, Bool.not_false, ↓reduceIte, Bool.false_eq_true, truD, bop_addI, bop_subI, bop_mulI, bop_modI, bop_fdivI, bop_pow18, bop_addT, bop_addL, cop_eq, cop_ne, cop_ltI, cop_leI, cop_gtI, cop_geI, eqD_ii, eqD_ss, eqD_bb, fits_lit, recvOk, recvOk.isL, isMut, isDic, killR, List.foldl, List.append_assoc, List.length_append, Nat.add_assoc, dk_len, st_get0, st_get1, st_get2, st_set0, st_set1, st_set2, Option.some.injEq, exists_eq_left', exists_eq_left, SV.d.injEq, PyData.bool.injEq, SV.ref.injEq, reduceCtorEq, false_and, and_false, exists_false, or_false, false_or, true_and, and_true, true_implies, false_implies, forall_const, beq_self_eq_true, Bool.true_eq_false, e1', e3, bfn_intB, eSM, eSp, e00, ej0, e1, hsl, hap, p26, hd, q1, q2]
              exact done _ q3
            · simp only [↓flP_retS, ↓flP_iff, ↓outP_and, ↓outP_or, ↓outP_ite, ↓outP_cmp2, flP_of, flP_next, flP_ret, flP_bad, flP_nil, flP_cons, outP_ok, outP_bad, outP_of, outP_bind, outP_nox, ok_bind, ok_of, of_some, open_none, ex, ev, evs, evo, evT, evI, dat, datX, datP, datAll, dOf, seqI, lockM, openM, boxK, freshE, retOk, asgT_nm, asgT_tup, asgT_lst, asgTs_nil, asgTs_cons, List.map_cons, List.map_nil, List.cons_append, List.nil_append, List.getElem?_cons_zero, List.getElem?_cons_succ, List.length_cons, List.length_nil, List.replicate, Option.bind_some, Option.map_some, Option.isSome_some, List.set_cons_zero, List.set_cons_succ, Nat.zero_add, Nat.reduceAdd, Nat.reduceSub, Nat.reduceLT, Nat.reduceLeDiff, Nat.reduceEqDiff, Int.reduceNeg, Int.reduceLT, Int.reduceLE, Int.reduceAdd, Int.reduceSub, decide_true, decide_false, Bool.and_self, Bool.and_true, Bool.true_and, Bool.and_false, Bool.false_and, Bool.or_true, Bool.true_or, Bool.or_false, Bool.false_or, Bool.not_true, Bool.not_false, ↓reduceIte, Bool.false_eq_true, truD, bop_addI, bop_subI, bop_mulI, bop_modI, bop_fdivI, bop_pow18, bop_addT, bop_addL, cop_eq, cop_ne, cop_ltI, cop_leI, cop_gtI, cop_geI, eqD_ii, eqD_ss, eqD_bb, fits_lit, recvOk, recvOk.isL, isMut, isDic, killR, List.foldl, List.append_assoc, List.length_append, Nat.add_assoc, dk_len, st_get0, st_get1, st_get2, st_set0, st_set1, st_set2, Option.some.injEq, exists_eq_left', exists_eq_left, SV.d.injEq, PyData.bool.injEq, SV.ref.injEq, reduceCtorEq, false_and, and_false, exists_false, or_false, false_or, true_and, and_true, true_implies, false_implies, forall_const, beq_self_eq_true, Bool.true_eq_false, e1', e2', e3, bfn_intB, eSM, eSp, e00, ej0, e1, hsl, hap, p26, hd, q1, q2]
              exact done _ q3
    · rintro r m ⟨k', found, rfl, rfl, hlen, hnm, hkf⟩
      rw [rng_len, Int.sub_zero] at hlen
      simp only [↓flP_retS, ↓flP_iff, ↓outP_and, ↓outP_or, ↓outP_ite, ↓outP_cmp2, flP_of, flP_next, flP_ret, flP_bad, flP_nil, flP_cons, outP_ok, outP_bad, outP_of, outP_bind, outP_nox, ok_bind, ok_of, of_some, open_none, ex, ev, evs, evo, evT, evI, dat, datX, datP, datAll, dOf, seqI, lockM, openM, boxK, freshE, retOk, asgT_nm, asgT_tup, asgT_lst, asgTs_nil, asgTs_cons, List.map_cons, List.map_nil, List.cons_append, List.nil_append, List.getElem?_cons_zero, List.getElem?_cons_succ, List.length_cons, List.length_nil, List.replicate, Option.bind_some, Option.map_some, Option.isSome_some, List.set_cons_zero, List.set_cons_succ, Nat.zero_add, Nat.reduceAdd, Nat.reduceSub, Nat.reduceLT, Nat.reduceLeDiff, Nat.reduceEqDiff, Int.reduceNeg, Int.reduceLT, Int.reduceLE, Int.reduceAdd, Int.reduceSub, decide_true, decide_false, Bool.and_self, Bool.and_true, Bool.true_and, Bool.and_false, Bool.false_and, Bool.or_true, Bool.true_or, Bool.or_false, Bool.false_or, Bool.not_true, Bool.not_false, ↓reduceIte, Bool.false_eq_true, truD, bop_addI, bop_subI, bop_mulI, bop_modI, bop_fdivI, bop_pow18, bop_addT, bop_addL, cop_eq, cop_ne, cop_ltI, cop_leI, cop_gtI, cop_geI, eqD_ii, eqD_ss, eqD_bb, fits_lit, recvOk, recvOk.isL, isMut, isDic, killR, List.foldl, List.append_assoc, List.length_append, Nat.add_assoc, dk_len, st_get0, st_get1, st_get2, st_set0, st_set1, st_set2, Option.some.injEq, exists_eq_left', exists_eq_left, SV.d.injEq, PyData.bool.injEq, SV.ref.injEq, reduceCtorEq, false_and, and_false, exists_false, or_false, false_or, true_and, and_true, true_implies, false_implies, forall_const, beq_self_eq_true, Bool.true_eq_false, bfn]
      refine FlP.while (fun j r m => ∃ (k' : Deck) (left turned : List PyData), r = _ ∧ m = k'.st ++ (rest ++ [.lst found, .lst left, .lst turned]) ∧ left.length = j ∧ left.length + turned.length = many.toNat ∧ (∀ x ∈ left, IsName x) ∧ (∀ x ∈ turned, IsName x) ∧ k'.Ok (B + 12 + turned.length)) found.length (by omega) ⟨k', found, [], rfl, rfl, rfl, by rw [hlen]; rfl, hnm, (fun x hx => by cases hx), hkf.mono (by simp)⟩ ?_
      rintro j r m ⟨kd, left, turned, rfl, rfl, hj, hsum, hnl, hnt, hkd⟩
      have he : eqD (.list left) (.list []) = some left.isEmpty := eqD_nil (fine_list fun x hx => (hnl x hx).fine (n := 0)) (by decide)
      cases left with
      | nil =>
        have he : eqD (.list []) (.list []) = some true := he
        simp only [↓flP_retS, ↓flP_iff, ↓outP_and, ↓outP_or, ↓outP_ite, ↓outP_cmp2, flP_of, flP_next, flP_ret, flP_bad, flP_nil, flP_cons, outP_ok, outP_bad, outP_of, outP_bind, outP_nox, ok_bind, ok_of, of_some, open_none, ex, ev, evs, evo, evT, evI, dat, datX, datP, datAll, dOf, seqI, lockM, openM, boxK, freshE, retOk, asgT_nm, asgT_tup, asgT_lst, asgTs_nil, asgTs_cons, List.map_cons, List.map_nil, List.cons_append, List.nil_append, List.getElem?_cons_zero, List.getElem?_cons_succ, List.length_cons, List.length_nil, List.replicate, Option.bind_some, Option.map_some, Option.isSome_some, List.set_cons_zero, List.set_cons_succ, Nat.zero_add, Nat.reduceAdd, Nat.reduceSub, Nat.reduceLT, Nat.reduceLeDiff, Nat.reduceEqDiff, Int.reduceNeg, Int.reduceLT, Int.reduceLE, Int.reduceAdd, Int.reduceSub, decide_true, decide_false, Bool.and_self, Bool.and_true, Bool.true_and, Bool.and_false, Bool.false_and, Bool.or_true, Bool.true_or, Bool.or_false, Bool.false_or, Bool.not_true, Bool.not_false, ↓reduceIte, Bool.false_eq_true, truD, bop_addI, bop_subI, bop_mulI, bop_modI, bop_fdivI, bop_pow18, bop_addT, bop_addL, cop_eq, cop_ne, cop_ltI, cop_leI, cop_gtI, cop_geI, eqD_ii, eqD_ss, eqD_bb, fits_lit, recvOk, recvOk.isL, isMut, isDic, killR, List.foldl, List.append_assoc, List.length_append, Nat.add_assoc, dk_len, st_get0, st_get1, st_get2, st_set0, st_set1, st_set2, Option.some.injEq, exists_eq_left', exists_eq_left, SV.d.injEq, PyData.bool.injEq, SV.ref.injEq, reduceCtorEq, false_and, and_false, exists_false, or_false, false_or, true_and, and_true, true_implies, false_implies, forall_const, beq_self_eq_true, Bool.true_eq_false, he]
        rw [List.length_nil, Nat.zero_add] at hsum
        exact ⟨kd, _, rfl, 2, turned, rfl, rfl, h turned kd hsum hnt (hkd.mono (by omega))⟩
      | cons a0 left =>
        have he : eqD (.list (a0 :: left)) (.list []) = some false := he
        generalize hlf : a0 :: left = lf at *
        have hpos : 0 < lf.length := by rw [← hlf]; exact Nat.succ_pos _
        simp only [↓flP_retS, ↓flP_iff, ↓outP_and, ↓outP_or, ↓outP_ite, ↓outP_cmp2, flP_of, flP_next, flP_ret, flP_bad, flP_nil, flP_cons, outP_ok, outP_bad, outP_of, outP_bind, outP_nox, ok_bind, ok_of, of_some, open_none, ex, ev, evs, evo, evT, evI, dat, datX, datP, datAll, dOf, seqI, lockM, openM, boxK, freshE, retOk, asgT_nm, asgT_tup, asgT_lst, asgTs_nil, asgTs_cons, List.map_cons, List.map_nil, List.cons_append, List.nil_append, List.getElem?_cons_zero, List.getElem?_cons_succ, List.length_cons, List.length_nil, List.replicate, Option.bind_some, Option.map_some, Option.isSome_some, List.set_cons_zero, List.set_cons_succ, Nat.zero_add, Nat.reduceAdd, Nat.reduceSub, Nat.reduceLT, Nat.reduceLeDiff, Nat.reduceEqDiff, Int.reduceNeg, Int.reduceLT, Int.reduceLE, Int.reduceAdd, Int.reduceSub, decide_true, decide_false, Bool.and_self, Bool.and_true, Bool.true_and, Bool.and_false, Bool.false_and, Bool.or_true, Bool.true_or, Bool.or_false, Bool.false_or, Bool.not_true, Bool.not_false, ↓reduceIte, Bool.false_eq_true, truD, bop_addI, bop_subI, bop_mulI, bop_modI, bop_fdivI, bop_pow18, bop_addT, bop_addL, cop_eq, cop_ne, cop_ltI, cop_leI, cop_gtI, cop_geI, eqD_ii, eqD_ss, eqD_bb, fits_lit, recvOk, recvOk.isL, isMut, isDic, killR, List.foldl, List.append_assoc, List.length_append, Nat.add_assoc, dk_len, st_get0, st_get1, st_get2, st_set0, st_set1, st_set2, Option.some.injEq, exists_eq_left', exists_eq_left, SV.d.injEq, PyData.bool.injEq, SV.ref.injEq, reduceCtorEq, false_and, and_false, exists_false, or_false, false_or, true_and, and_true, true_implies, false_implies, forall_const, beq_self_eq_true, Bool.true_eq_false, he, bfn]
        refine draw_p h6 hkd ?_ ?_ ?_ fun r7 k7 a7 b7 hk7 => ?_
        · omega
        · omega
        · omega
        obtain ⟨y, hy, ey⟩ := pop_mmu (xs := lf) a7 b7 (by omega)
        have hap : mmu .append turned [y] = some (turned ++ [y], .none) := app_mmu (by omega)
        simp only [↓flP_retS, ↓flP_iff, ↓outP_and, ↓outP_or, ↓outP_ite, ↓outP_cmp2, flP_of, flP_next, flP_ret, flP_bad, flP_nil, flP_cons, outP_ok, outP_bad, outP_of, outP_bind, outP_nox, ok_bind, ok_of, of_some, open_none, ex, ev, evs, evo, evT, evI, dat, datX, datP, datAll, dOf, seqI, lockM, openM, boxK, freshE, retOk, asgT_nm, asgT_tup, asgT_lst, asgTs_nil, asgTs_cons, List.map_cons, List.map_nil, List.cons_append, List.nil_append, List.getElem?_cons_zero, List.getElem?_cons_succ, List.length_cons, List.length_nil, List.replicate, Option.bind_some, Option.map_some, Option.isSome_some, List.set_cons_zero, List.set_cons_succ, Nat.zero_add, Nat.reduceAdd, Nat.reduceSub, Nat.reduceLT, Nat.reduceLeDiff, Nat.reduceEqDiff, Int.reduceNeg, Int.reduceLT, Int.reduceLE, Int.reduceAdd, Int.reduceSub, decide_true, decide_false, Bool.and_self, Bool.and_true, Bool.true_and, Bool.and_false, Bool.false_and, Bool.or_true, Bool.true_or, Bool.or_false, Bool.false_or, Bool.not_true, Bool.not_false, ↓reduceIte, Bool.false_eq_true, truD, bop_addI, bop_subI, bop_mulI, bop_modI, bop_fdivI, bop_pow18, bop_addT, bop_addL, cop_eq, cop_ne, cop_ltI, cop_leI, cop_gtI, cop_geI, eqD_ii, eqD_ss, eqD_bb, fits_lit, recvOk, recvOk.isL, isMut, isDic, killR, List.foldl, List.append_assoc, List.length_append, Nat.add_assoc, dk_len, st_get0, st_get1, st_get2, st_set0, st_set1, st_set2, Option.some.injEq, exists_eq_left', exists_eq_left, SV.d.injEq, PyData.bool.injEq, SV.ref.injEq, reduceCtorEq, false_and, and_false, exists_false, or_false, false_or, true_and, and_true, true_implies, false_implies, forall_const, beq_self_eq_true, Bool.true_eq_false, ey, hap]
        have hel : (lf.eraseIdx r7.toNat).length = lf.length - 1 := List.length_eraseIdx_of_lt (by omega)
        refine ⟨j - 1, by omega, k7, lf.eraseIdx r7.toNat, turned ++ [y], rfl, by omega, by rw [hel, List.length_append, List.length_singleton]; omega, fun x hx => hnl x (mem_erase hx), fun x hx => ?_, hk7.mono ?_⟩
        · rcases List.mem_append.mp hx with hx | hx
          · exact hnt x hx
          · rw [List.mem_singleton] at hx; subst hx; exact hnl _ hy
        · rw [List.length_append, List.length_singleton]; omega
end
end Pil


set_option Elab.async false
set_option linter.all false
set_option autoImplicit false
set_option maxRecDepth 100000
set_option maxHeartbeats 4000000
namespace Pil
open PySem PySem.Spec PyProof.Rows L2
def F9 : Fn := { nm := "_law_count", ps := ["_law_deck_here", "_law_way"], ns := ["_law_deck_here", "_law_way"], keep := false, body := (.cons (.iff (.cmp .eq (.var 1) (.cst (.int 0)))
 (.cons (.ret (.bin .add (.cst (.int 1)) (.call 6 (.cons (.var 0) (.cons (.cst (.int 9)) .nil)))))
  .nil)
 .nil)
  (.cons (.iff (.cmp .eq (.var 1) (.cst (.int 1)))
 (.cons (.ret (.cst (.int 1)))
  .nil)
 .nil)
  (.cons (.iff (.cmp .eq (.var 1) (.cst (.int 2)))
 (.cons (.ret (.bin .add (.bin .add (.cst (.int 1)) (.bin .mul (.call 6 (.cons (.var 0) (.cons (.cst (.int 999)) .nil))) (.bin .pow (.cst (.int 10)) (.cst (.int 6))))) (.call 6 (.cons (.var 0) (.cons (.bin .pow (.cst (.int 10)) (.cst (.int 6))) .nil)))))
  .nil)
 .nil)
  (.cons (.ret (.idx (.lst (.cons (.bin .pow (.cst (.int 10)) (.cst (.int 9))) (.cons (.cst (.int 1)) .nil))) (.call 6 (.cons (.var 0) (.cons (.cst (.int 2)) .nil)))))
  .nil)))) }
def F10 : Fn := { nm := "_law_pile", ps := ["_law_deck_here", "_law_names_here", "_law_known", "_law_most"], ns := ["_law_deck_here", "_law_names_here", "_law_known", "_law_most", "_law_begin", "_law_other", "_law_many", "_law_pile_here", "_law_k", "_law_name"], keep := false, body := (.cons (.set 4 (.tup .nil))
  (.cons (.iff (.and2 (.cmp .ne (.var 2) (.lst .nil)) (.cmp .eq (.call 6 (.cons (.var 0) (.cons (.cst (.int 2)) .nil))) (.cst (.int 1))))
 (.cons (.set 5 (.call 7 (.cons (.var 0) (.cons (.var 2) .nil))))
  (.cons (.set 4 (.slc (.var 5) .none (.some (.call 6 (.cons (.var 0) (.cons (.bin .add (.blt .len (.cons (.var 5) .nil)) (.cst (.int 1))) .nil))))))
  .nil))
 .nil)
  (.cons (.set 6 (.blt .max (.cons (.cst (.int 1)) (.cons (.bin .sub (.bin .add (.cst (.int 1)) (.call 6 (.cons (.var 0) (.cons (.var 3) .nil)))) (.blt .len (.cons (.var 4) .nil))) .nil))))
  (.cons (.set 7 (.var 4))
  (.cons (.for_ (.nm 8) [2, 3, 4, 5, 6, 8, 9] (.rng1 (.var 6))
 (.cons (.set 9 (.call 7 (.cons (.var 0) (.cons (.var 1) .nil))))
  (.cons (.iff (.and2 (.cmp .ne (.var 7) (.tup .nil)) (.cmp .eq (.call 6 (.cons (.var 0) (.cons (.cst (.int 5)) .nil))) (.cst (.int 0))))
 (.cons (.set 9 (.idx (.var 7) (.neg (.cst (.int 1)))))
  .nil)
 .nil)
  (.cons (.set 7 (.bin .add (.var 7) (.tup (.cons (.var 9) .nil))))
  .nil))))
  (.cons (.ret (.slc (.var 7) .none (.some (.cst (.int 12)))))
  .nil)))))) }
def F11 : Fn := { nm := "_law_samples", ps := ["_law_deck_here", "_law_names_here", "_law_many", "_law_most"], ns := ["_law_deck_here", "_law_names_here", "_law_many", "_law_most", "_law_way", "_law_found", "_law_k", "_law_pile_here", "_law_one", "_law_count_here"], keep := false, body := (.cons (.set 4 (.call 6 (.cons (.var 0) (.cons (.cst (.int 4)) .nil))))
  (.cons (.set 5 (.box (.lst .nil)))
  (.cons (.for_ (.nm 6) [2, 6, 7, 8, 9] (.rng1 (.var 2))
 (.cons (.set 7 (.call 10 (.cons (.var 0) (.cons (.var 1) (.cons (.comp [8, 9] (.tp (.cons (.nm 8) (.cons (.nm 9) .nil))) (.seq (.var 5)) .none (.var 8)) (.cons (.var 3) .nil))))))
  (.cons (.expr (.mth .append (.var 5) (.cons (.tup (.cons (.var 7) (.cons (.blt .min (.cons (.bin .pow (.cst (.int 10)) (.cst (.int 9))) (.cons (.call 9 (.cons (.var 0) (.cons (.var 4) .nil))) .nil))) .nil))) .nil)))
  .nil)))
  (.cons (.ret (.blt .tuple (.cons (.var 5) .nil)))
  .nil)))) }
def F12 : Fn := { nm := "_law_forty", ps := ["_law_deck_here"], ns := ["_law_deck_here", "_law_letter", "_law_k"], keep := false, body := (.cons (.set 1 (.idx (.cst (.str "abcdefghijklmnopqrstuvwxyz")) (.call 6 (.cons (.var 0) (.cons (.cst (.int 26)) .nil)))))
  (.cons (.iff (.cmp .eq (.call 6 (.cons (.var 0) (.cons (.cst (.int 2)) .nil))) (.cst (.int 1)))
 (.cons (.ret (.lst (.cons (.cst (.str "a")) (.cons (.cst (.str "b")) (.cons (.cst (.str "ab")) (.cons (.cst (.str "ba")) (.cons (.cst (.str "aba")) (.cons (.cst (.str "bab")) .nil))))))))
  .nil)
 .nil)
  (.cons (.ret (.comp [2] (.nm 2) (.rng1 (.cst (.int 40))) .none (.bin .add (.var 1) (.blt .str (.cons (.var 2) .nil)))))
  .nil))) }
def F13 : Fn := { nm := "_law_world", ps := ["_law_deck_here"], ns := ["_law_deck_here", "_law_great", "_law_far", "_law_names_here", "_law_many"], keep := false, body := (.cons (.set 1 (.cmp .eq (.call 6 (.cons (.var 0) (.cons (.cst (.int 8)) .nil))) (.cst (.int 5))))
  (.cons (.set 2 (.cmp .eq (.call 6 (.cons (.var 0) (.cons (.cst (.int 8)) .nil))) (.cst (.int 3))))
  (.cons (.set 3 (.call 8 (.cons (.var 0) (.cons (.idx (.lst (.cons (.bin .add (.cst (.int 2)) (.call 6 (.cons (.var 0) (.cons (.cst (.int 6)) .nil)))) (.cons (.cst (.int 10)) .nil))) (.blt .int (.cons (.var 1) .nil))) .nil))))
  (.cons (.iff (.var 2)
 (.cons (.set 3 (.call 12 (.cons (.var 0) .nil)))
  .nil)
 .nil)
  (.cons (.set 4 (.idx (.lst (.cons (.call 6 (.cons (.var 0) (.cons (.cst (.int 9)) .nil))) (.cons (.cst (.int 40)) .nil))) (.blt .int (.cons (.var 1) .nil))))
  (.cons (.ret (.tup (.cons (.var 3) (.cons (.call 11 (.cons (.var 0) (.cons (.var 3) (.cons (.var 4) (.cons (.idx (.lst (.cons (.bin .add (.cst (.int 1)) (.call 6 (.cons (.var 0) (.cons (.cst (.int 6)) .nil)))) (.cons (.cst (.int 12)) .nil))) (.blt .int (.cons (.var 1) .nil))) .nil))))) .nil))))
  .nil)))))) }
section
variable {G : Nat → Option Fn} {n : Nat}
/-! ### piles, samples -/
abbrev Pile := List (List Nat)
abbrev Smp := Pile × Int
def plD (p : Pile) : PyData := .tuple (p.map nmD)
def smD (s : Smp) : PyData := .tuple [plD s.1, .int s.2]
def ssD (S : List Smp) : PyData := .tuple (S.map smD)
theorem bop_pow6 : bop .pow (.int 10) (.int 6) = some (.int 1000000) := by simp [bop]
theorem bop_pow9 : bop .pow (.int 10) (.int 9) = some (.int 1000000000) := by simp [bop]
theorem bfn_max2 {i j : Int} : bfn .max [.int i, .int j] = some (.int (if j > i then j else i)) := rfl
theorem bfn_min2 {i j : Int} : bfn .min [.int i, .int j] = some (.int (if j < i then j else i)) := rfl
theorem bfn_tupL {xs : List PyData} : bfn .tuple [.list xs] = some (.tuple xs) := rfl
theorem bfn_tupT {xs : List PyData} : bfn .tuple [.tuple xs] = some (.tuple xs) := rfl
theorem bfn_listL {xs : List PyData} : bfn .list [.list xs] = some (.list xs) := rfl
theorem bfn_listT {xs : List PyData} : bfn .list [.tuple xs] = some (.list xs) := rfl
theorem bfn_lenL {xs : List PyData} : bfn .len [.list xs] = some (.int xs.length) := rfl
theorem bfn_lenT {xs : List PyData} : bfn .len [.tuple xs] = some (.int xs.length) := rfl
theorem bfn_intI {i : Int} : bfn .int [.int i] = some (.int i) := rfl
theorem cutD_to {α : Type} {xs : List α} {z : Int} (h : 0 ≤ z) : cutD xs none (some z) = xs.take z.toNat := by
  unfold cutD
  rw [sIx_of h]
  show List.take (min z.toNat xs.length - 0) (List.drop 0 xs) = _
  rw [List.drop_zero, Nat.sub_zero]
  by_cases h : z.toNat ≤ xs.length
  · rw [Nat.min_eq_left h]
  · rw [Nat.min_eq_right (by omega), List.take_length, List.take_of_length_le (by omega)]
theorem cutD_from {α : Type} {xs : List α} {z : Int} (h : 0 ≤ z) : cutD xs (some z) none = xs.drop z.toNat := by
  unfold cutD
  rw [sIx_of h]
  show List.take (xs.length - min z.toNat xs.length) (List.drop (min z.toNat xs.length) xs) = _
  by_cases h : z.toNat ≤ xs.length
  · rw [Nat.min_eq_left h, List.take_of_length_le (by rw [List.length_drop]; exact Nat.le_refl _)]
  · rw [Nat.min_eq_right (by omega), Nat.sub_self, List.drop_of_length_le (show xs.length ≤ z.toNat by omega)]
    rfl
/-- a piece of something drawn from -/
theorem pick_m (h6 : G 6 = some F6) (h7 : G 7 = some F7) {k : Deck} {B : Int} {rest : Sto} {K : SV → Sto → Prop} {α : Type} {f : α → PyData} {xs : List α} (hk : k.Ok B) (hB : B < 2 ^ 60) (h0 : 0 < xs.length) (h1 : xs.length < 2 ^ 30) (hr : ∀ y ∈ xs, ∀ e, retOk e (.d (f y)) = true) (h : ∀ y ∈ xs, ∀ k' : Deck, k'.Ok (B + 1) → K (.d (f y)) (k'.st ++ rest)) :
    OutP (callI G (n + 2) 7 [.ref 1, .d (.list (xs.map f))] (k.st ++ rest)) K :=
  pick_p h6 h7 hk hB (by rw [List.length_map]; exact h0) (by rw [List.length_map]; exact h1) (fun y hy => by
    obtain ⟨x, hx, rfl⟩ := List.mem_map.mp hy
    exact hr x hx _) fun y hy k' hk' => by
    obtain ⟨x, hx, rfl⟩ := List.mem_map.mp hy
    exact h x hx k' hk'
theorem pick_t (h6 : G 6 = some F6) (h7 : G 7 = some F7) {k : Deck} {B : Int} {rest : Sto} {K : SV → Sto → Prop} {α : Type} {f : α → PyData} {xs : List α} (hk : k.Ok B) (hB : B < 2 ^ 60) (h0 : 0 < xs.length) (h1 : xs.length < 2 ^ 30) (hr : ∀ y ∈ xs, ∀ e, retOk e (.d (f y)) = true) (h : ∀ y ∈ xs, ∀ k' : Deck, k'.Ok (B + 1) → K (.d (f y)) (k'.st ++ rest)) :
    OutP (callI G (n + 2) 7 [.ref 1, .d (.tuple (xs.map f))] (k.st ++ rest)) K := by
  refine call_deck h7 rfl rfl ?_
  rw [List.append_nil]
  simp only [F7, ↓flP_retS, ↓outP_and, ↓outP_or, ↓outP_ite, ↓outP_cmp2, flP_of, flP_next, flP_ret, flP_bad, flP_nil, outP_ok, outP_bad, outP_of, outP_bind, outP_nox, ok_bind, ok_of, of_some, open_none, ex, ev, evs, evo, evT, evI, dat, datX, datP, datAll, dOf, seqI, lockM, openM, boxK, freshE, retOk, asgT_nm, asgT_tup, asgT_lst, asgTs_nil, asgTs_cons, List.map_cons, List.map_nil, List.cons_append, List.nil_append, List.getElem?_cons_zero, List.getElem?_cons_succ, List.length_cons, List.length_nil, List.replicate, Option.bind_some, Option.map_some, Option.isSome_some, List.set_cons_zero, List.set_cons_succ, Nat.zero_add, Nat.reduceAdd, Nat.reduceSub, Nat.reduceLT, Nat.reduceLeDiff, Nat.reduceEqDiff, Int.reduceNeg, Int.reduceLT, Int.reduceLE, Int.reduceAdd, Int.reduceSub, decide_true, decide_false, Bool.and_self, Bool.and_true, Bool.true_and, Bool.and_false, Bool.false_and, Bool.or_true, Bool.true_or, Bool.or_false, Bool.false_or, Bool.not_true, Bool.not_false, ↓reduceIte, Bool.false_eq_true, truD, bop_addI, bop_subI, bop_mulI, bop_modI, bop_fdivI, bop_pow18, bop_addT, bop_addL, cop_eq, cop_ne, cop_ltI, cop_leI, cop_gtI, cop_geI, eqD_ii, eqD_ss, eqD_bb, fits_lit, recvOk, recvOk.isL, isMut, isDic, killR, List.foldl, List.append_assoc, List.length_append, Nat.add_assoc, dk_len, st_get0, st_get1, st_get2, st_set0, st_set1, st_set2, Option.some.injEq, exists_eq_left', exists_eq_left, SV.d.injEq, PyData.bool.injEq, SV.ref.injEq, reduceCtorEq, false_and, and_false, exists_false, or_false, false_or, true_and, and_true, true_implies, false_implies, forall_const, beq_self_eq_true, Bool.true_eq_false, flP_set, flP_asg, flP_par, flP_sti, flP_expr, flP_for, flP_whl, flP_rets, bop_pow6, bop_pow9, bfn_max2, bfn_min2, bfn_tupL, bfn_tupT, bfn_lenL, bfn_lenT, bfn_listL, bfn_listT, bfn_intB, bfn_intI, SV.d.injEq, PyData.str.injEq, PyData.int.injEq]
  refine draw_p h6 hk hB ?_ ?_ fun r k' a b hk' => ?_
  · rw [List.length_map]; omega
  · rw [List.length_map]; omega
  obtain ⟨y, hy, e⟩ := atI_in (xs := xs.map f) a b
  obtain ⟨x, hx, rfl⟩ := List.mem_map.mp hy
  simp only [↓flP_retS, ↓outP_and, ↓outP_or, ↓outP_ite, ↓outP_cmp2, flP_of, flP_next, flP_ret, flP_bad, flP_nil, outP_ok, outP_bad, outP_of, outP_bind, outP_nox, ok_bind, ok_of, of_some, open_none, ex, ev, evs, evo, evT, evI, dat, datX, datP, datAll, dOf, seqI, lockM, openM, boxK, freshE, retOk, asgT_nm, asgT_tup, asgT_lst, asgTs_nil, asgTs_cons, List.map_cons, List.map_nil, List.cons_append, List.nil_append, List.getElem?_cons_zero, List.getElem?_cons_succ, List.length_cons, List.length_nil, List.replicate, Option.bind_some, Option.map_some, Option.isSome_some, List.set_cons_zero, List.set_cons_succ, Nat.zero_add, Nat.reduceAdd, Nat.reduceSub, Nat.reduceLT, Nat.reduceLeDiff, Nat.reduceEqDiff, Int.reduceNeg, Int.reduceLT, Int.reduceLE, Int.reduceAdd, Int.reduceSub, decide_true, decide_false, Bool.and_self, Bool.and_true, Bool.true_and, Bool.and_false, Bool.false_and, Bool.or_true, Bool.true_or, Bool.or_false, Bool.false_or, Bool.not_true, Bool.not_false, ↓reduceIte, Bool.false_eq_true, truD, bop_addI, bop_subI, bop_mulI, bop_modI, bop_fdivI, bop_pow18, bop_addT, bop_addL, cop_eq, cop_ne, cop_ltI, cop_leI, cop_gtI, cop_geI, eqD_ii, eqD_ss, eqD_bb, fits_lit, recvOk, recvOk.isL, isMut, isDic, killR, List.foldl, List.append_assoc, List.length_append, Nat.add_assoc, dk_len, st_get0, st_get1, st_get2, st_set0, st_set1, st_set2, Option.some.injEq, exists_eq_left', exists_eq_left, SV.d.injEq, PyData.bool.injEq, SV.ref.injEq, reduceCtorEq, false_and, and_false, exists_false, or_false, false_or, true_and, and_true, true_implies, false_implies, forall_const, beq_self_eq_true, Bool.true_eq_false, flP_set, flP_asg, flP_par, flP_sti, flP_expr, flP_for, flP_whl, flP_rets, bop_pow6, bop_pow9, bfn_max2, bfn_min2, bfn_tupL, bfn_tupT, bfn_lenL, bfn_lenT, bfn_listL, bfn_listT, bfn_intB, bfn_intI, SV.d.injEq, PyData.str.injEq, PyData.int.injEq, ixD, e]
  exact ⟨hr x hx (.var 0), ret_d0 (h x hx k' hk')⟩
theorem count_p (h6 : G 6 = some F6) (h9 : G 9 = some F9) {k : Deck} {B : Int} {rest : Sto} {K : SV → Sto → Prop} {way : Int} (hk : k.Ok B) (hB : B < 2 ^ 59) (h : ∀ (c : Int) (k' : Deck), 1 ≤ c → c ≤ 1000000000 → k'.Ok (B + 2) → K (.d (.int c)) (k'.st ++ rest)) :
    OutP (callI G (n + 2) 9 [.ref 1, .d (.int way)] (k.st ++ rest)) K := by
  refine call_deck h9 rfl rfl ?_
  rw [List.append_nil]
  by_cases q0 : way = 0
  · subst q0
    simp only [F9, ↓flP_retS, ↓outP_and, ↓outP_or, ↓outP_ite, ↓outP_cmp2, flP_of, flP_next, flP_ret, flP_bad, flP_nil, outP_ok, outP_bad, outP_of, outP_bind, outP_nox, ok_bind, ok_of, of_some, open_none, ex, ev, evs, evo, evT, evI, dat, datX, datP, datAll, dOf, seqI, lockM, openM, boxK, freshE, retOk, asgT_nm, asgT_tup, asgT_lst, asgTs_nil, asgTs_cons, List.map_cons, List.map_nil, List.cons_append, List.nil_append, List.getElem?_cons_zero, List.getElem?_cons_succ, List.length_cons, List.length_nil, List.replicate, Option.bind_some, Option.map_some, Option.isSome_some, List.set_cons_zero, List.set_cons_succ, Nat.zero_add, Nat.reduceAdd, Nat.reduceSub, Nat.reduceLT, Nat.reduceLeDiff, Nat.reduceEqDiff, Int.reduceNeg, Int.reduceLT, Int.reduceLE, Int.reduceAdd, Int.reduceSub, decide_true, decide_false, Bool.and_self, Bool.and_true, Bool.true_and, Bool.and_false, Bool.false_and, Bool.or_true, Bool.true_or, Bool.or_false, Bool.false_or, Bool.not_true, Bool.not_false, ↓reduceIte, Bool.false_eq_true, truD, bop_addI, bop_subI, bop_mulI, bop_modI, bop_fdivI, bop_pow18, bop_addT, bop_addL, cop_eq, cop_ne, cop_ltI, cop_leI, cop_gtI, cop_geI, eqD_ii, eqD_ss, eqD_bb, fits_lit, recvOk, recvOk.isL, isMut, isDic, killR, List.foldl, List.append_assoc, List.length_append, Nat.add_assoc, dk_len, st_get0, st_get1, st_get2, st_set0, st_set1, st_set2, Option.some.injEq, exists_eq_left', exists_eq_left, SV.d.injEq, PyData.bool.injEq, SV.ref.injEq, reduceCtorEq, false_and, and_false, exists_false, or_false, false_or, true_and, and_true, true_implies, false_implies, forall_const, beq_self_eq_true, Bool.true_eq_false, flP_set, flP_asg, flP_par, flP_sti, flP_expr, flP_for, flP_whl, flP_rets, bop_pow6, bop_pow9, bfn_max2, bfn_min2, bfn_tupL, bfn_tupT, bfn_lenL, bfn_lenT, bfn_listL, bfn_listT, bfn_intB, bfn_intI, SV.d.injEq, PyData.str.injEq, PyData.int.injEq, flP_ifs]
    refine draw_p h6 hk (by omega) (by omega) (by omega) fun r1 k1 a1 b1 hk1 => ?_
    simp only [↓flP_retS, ↓outP_and, ↓outP_or, ↓outP_ite, ↓outP_cmp2, flP_of, flP_next, flP_ret, flP_bad, flP_nil, outP_ok, outP_bad, outP_of, outP_bind, outP_nox, ok_bind, ok_of, of_some, open_none, ex, ev, evs, evo, evT, evI, dat, datX, datP, datAll, dOf, seqI, lockM, openM, boxK, freshE, retOk, asgT_nm, asgT_tup, asgT_lst, asgTs_nil, asgTs_cons, List.map_cons, List.map_nil, List.cons_append, List.nil_append, List.getElem?_cons_zero, List.getElem?_cons_succ, List.length_cons, List.length_nil, List.replicate, Option.bind_some, Option.map_some, Option.isSome_some, List.set_cons_zero, List.set_cons_succ, Nat.zero_add, Nat.reduceAdd, Nat.reduceSub, Nat.reduceLT, Nat.reduceLeDiff, Nat.reduceEqDiff, Int.reduceNeg, Int.reduceLT, Int.reduceLE, Int.reduceAdd, Int.reduceSub, decide_true, decide_false, Bool.and_self, Bool.and_true, Bool.true_and, Bool.and_false, Bool.false_and, Bool.or_true, Bool.true_or, Bool.or_false, Bool.false_or, Bool.not_true, Bool.not_false, ↓reduceIte, Bool.false_eq_true, truD, bop_addI, bop_subI, bop_mulI, bop_modI, bop_fdivI, bop_pow18, bop_addT, bop_addL, cop_eq, cop_ne, cop_ltI, cop_leI, cop_gtI, cop_geI, eqD_ii, eqD_ss, eqD_bb, fits_lit, recvOk, recvOk.isL, isMut, isDic, killR, List.foldl, List.append_assoc, List.length_append, Nat.add_assoc, dk_len, st_get0, st_get1, st_get2, st_set0, st_set1, st_set2, Option.some.injEq, exists_eq_left', exists_eq_left, SV.d.injEq, PyData.bool.injEq, SV.ref.injEq, reduceCtorEq, false_and, and_false, exists_false, or_false, false_or, true_and, and_true, true_implies, false_implies, forall_const, beq_self_eq_true, Bool.true_eq_false, flP_set, flP_asg, flP_par, flP_sti, flP_expr, flP_for, flP_whl, flP_rets, bop_pow6, bop_pow9, bfn_max2, bfn_min2, bfn_tupL, bfn_tupT, bfn_lenL, bfn_lenT, bfn_listL, bfn_listT, bfn_intB, bfn_intI, SV.d.injEq, PyData.str.injEq, PyData.int.injEq, flP_ifs]
    exact ret_d0 (h _ _ (by omega) (by omega) (hk1.mono (by omega)))
  have e0 : (way == 0) = false := beq_eq_false_iff_ne.mpr q0
  by_cases q1 : way = 1
  · subst q1
    simp only [F9, ↓flP_retS, ↓outP_and, ↓outP_or, ↓outP_ite, ↓outP_cmp2, flP_of, flP_next, flP_ret, flP_bad, flP_nil, outP_ok, outP_bad, outP_of, outP_bind, outP_nox, ok_bind, ok_of, of_some, open_none, ex, ev, evs, evo, evT, evI, dat, datX, datP, datAll, dOf, seqI, lockM, openM, boxK, freshE, retOk, asgT_nm, asgT_tup, asgT_lst, asgTs_nil, asgTs_cons, List.map_cons, List.map_nil, List.cons_append, List.nil_append, List.getElem?_cons_zero, List.getElem?_cons_succ, List.length_cons, List.length_nil, List.replicate, Option.bind_some, Option.map_some, Option.isSome_some, List.set_cons_zero, List.set_cons_succ, Nat.zero_add, Nat.reduceAdd, Nat.reduceSub, Nat.reduceLT, Nat.reduceLeDiff, Nat.reduceEqDiff, Int.reduceNeg, Int.reduceLT, Int.reduceLE, Int.reduceAdd, Int.reduceSub, decide_true, decide_false, Bool.and_self, Bool.and_true, Bool.true_and, Bool.and_false, Bool.false_and, Bool.or_true, Bool.true_or, Bool.or_false, Bool.false_or, Bool.not_true, Bool.not_false, ↓reduceIte, Bool.false_eq_true, truD, bop_addI, bop_subI, bop_mulI, bop_modI, bop_fdivI, bop_pow18, bop_addT, bop_addL, cop_eq, cop_ne, cop_ltI, cop_leI, cop_gtI, cop_geI, eqD_ii, eqD_ss, eqD_bb, fits_lit, recvOk, recvOk.isL, isMut, isDic, killR, List.foldl, List.append_assoc, List.length_append, Nat.add_assoc, dk_len, st_get0, st_get1, st_get2, st_set0, st_set1, st_set2, Option.some.injEq, exists_eq_left', exists_eq_left, SV.d.injEq, PyData.bool.injEq, SV.ref.injEq, reduceCtorEq, false_and, and_false, exists_false, or_false, false_or, true_and, and_true, true_implies, false_implies, forall_const, beq_self_eq_true, Bool.true_eq_false, flP_set, flP_asg, flP_par, flP_sti, flP_expr, flP_for, flP_whl, flP_rets, bop_pow6, bop_pow9, bfn_max2, bfn_min2, bfn_tupL, bfn_tupT, bfn_lenL, bfn_lenT, bfn_listL, bfn_listT, bfn_intB, bfn_intI, SV.d.injEq, PyData.str.injEq, PyData.int.injEq, flP_ifs, e0]
    exact ret_d0 (h _ _ (by omega) (by omega) (hk.mono (by omega)))
  have e1 : (way == 1) = false := beq_eq_false_iff_ne.mpr q1
  by_cases q2 : way = 2
  · subst q2
    simp only [F9, ↓flP_retS, ↓outP_and, ↓outP_or, ↓outP_ite, ↓outP_cmp2, flP_of, flP_next, flP_ret, flP_bad, flP_nil, outP_ok, outP_bad, outP_of, outP_bind, outP_nox, ok_bind, ok_of, of_some, open_none, ex, ev, evs, evo, evT, evI, dat, datX, datP, datAll, dOf, seqI, lockM, openM, boxK, freshE, retOk, asgT_nm, asgT_tup, asgT_lst, asgTs_nil, asgTs_cons, List.map_cons, List.map_nil, List.cons_append, List.nil_append, List.getElem?_cons_zero, List.getElem?_cons_succ, List.length_cons, List.length_nil, List.replicate, Option.bind_some, Option.map_some, Option.isSome_some, List.set_cons_zero, List.set_cons_succ, Nat.zero_add, Nat.reduceAdd, Nat.reduceSub, Nat.reduceLT, Nat.reduceLeDiff, Nat.reduceEqDiff, Int.reduceNeg, Int.reduceLT, Int.reduceLE, Int.reduceAdd, Int.reduceSub, decide_true, decide_false, Bool.and_self, Bool.and_true, Bool.true_and, Bool.and_false, Bool.false_and, Bool.or_true, Bool.true_or, Bool.or_false, Bool.false_or, Bool.not_true, Bool.not_false, ↓reduceIte, Bool.false_eq_true, truD, bop_addI, bop_subI, bop_mulI, bop_modI, bop_fdivI, bop_pow18, bop_addT, bop_addL, cop_eq, cop_ne, cop_ltI, cop_leI, cop_gtI, cop_geI, eqD_ii, eqD_ss, eqD_bb, fits_lit, recvOk, recvOk.isL, isMut, isDic, killR, List.foldl, List.append_assoc, List.length_append, Nat.add_assoc, dk_len, st_get0, st_get1, st_get2, st_set0, st_set1, st_set2, Option.some.injEq, exists_eq_left', exists_eq_left, SV.d.injEq, PyData.bool.injEq, SV.ref.injEq, reduceCtorEq, false_and, and_false, exists_false, or_false, false_or, true_and, and_true, true_implies, false_implies, forall_const, beq_self_eq_true, Bool.true_eq_false, flP_set, flP_asg, flP_par, flP_sti, flP_expr, flP_for, flP_whl, flP_rets, bop_pow6, bop_pow9, bfn_max2, bfn_min2, bfn_tupL, bfn_tupT, bfn_lenL, bfn_lenT, bfn_listL, bfn_listT, bfn_intB, bfn_intI, SV.d.injEq, PyData.str.injEq, PyData.int.injEq, flP_ifs, e0, e1]
    refine draw_p h6 hk (by omega) (by omega) (by omega) fun r1 k1 a1 b1 hk1 => ?_
    have s1 : small64 r1 = true := small_of (by omega) (by omega)
    simp only [↓flP_retS, ↓outP_and, ↓outP_or, ↓outP_ite, ↓outP_cmp2, flP_of, flP_next, flP_ret, flP_bad, flP_nil, outP_ok, outP_bad, outP_of, outP_bind, outP_nox, ok_bind, ok_of, of_some, open_none, ex, ev, evs, evo, evT, evI, dat, datX, datP, datAll, dOf, seqI, lockM, openM, boxK, freshE, retOk, asgT_nm, asgT_tup, asgT_lst, asgTs_nil, asgTs_cons, List.map_cons, List.map_nil, List.cons_append, List.nil_append, List.getElem?_cons_zero, List.getElem?_cons_succ, List.length_cons, List.length_nil, List.replicate, Option.bind_some, Option.map_some, Option.isSome_some, List.set_cons_zero, List.set_cons_succ, Nat.zero_add, Nat.reduceAdd, Nat.reduceSub, Nat.reduceLT, Nat.reduceLeDiff, Nat.reduceEqDiff, Int.reduceNeg, Int.reduceLT, Int.reduceLE, Int.reduceAdd, Int.reduceSub, decide_true, decide_false, Bool.and_self, Bool.and_true, Bool.true_and, Bool.and_false, Bool.false_and, Bool.or_true, Bool.true_or, Bool.or_false, Bool.false_or, Bool.not_true, Bool.not_false, ↓reduceIte, Bool.false_eq_true, truD, bop_addI, bop_subI, bop_mulI, bop_modI, bop_fdivI, bop_pow18, bop_addT, bop_addL, cop_eq, cop_ne, cop_ltI, cop_leI, cop_gtI, cop_geI, eqD_ii, eqD_ss, eqD_bb, fits_lit, recvOk, recvOk.isL, isMut, isDic, killR, List.foldl, List.append_assoc, List.length_append, Nat.add_assoc, dk_len, st_get0, st_get1, st_get2, st_set0, st_set1, st_set2, Option.some.injEq, exists_eq_left', exists_eq_left, SV.d.injEq, PyData.bool.injEq, SV.ref.injEq, reduceCtorEq, false_and, and_false, exists_false, or_false, false_or, true_and, and_true, true_implies, false_implies, forall_const, beq_self_eq_true, Bool.true_eq_false, flP_set, flP_asg, flP_par, flP_sti, flP_expr, flP_for, flP_whl, flP_rets, bop_pow6, bop_pow9, bfn_max2, bfn_min2, bfn_tupL, bfn_tupT, bfn_lenL, bfn_lenT, bfn_listL, bfn_listT, bfn_intB, bfn_intI, SV.d.injEq, PyData.str.injEq, PyData.int.injEq, flP_ifs, s1, true_or]
    refine draw_p h6 hk1 (by omega) (by omega) (by omega) fun r2 k2 a2 b2 hk2 => ?_
    simp only [↓flP_retS, ↓outP_and, ↓outP_or, ↓outP_ite, ↓outP_cmp2, flP_of, flP_next, flP_ret, flP_bad, flP_nil, outP_ok, outP_bad, outP_of, outP_bind, outP_nox, ok_bind, ok_of, of_some, open_none, ex, ev, evs, evo, evT, evI, dat, datX, datP, datAll, dOf, seqI, lockM, openM, boxK, freshE, retOk, asgT_nm, asgT_tup, asgT_lst, asgTs_nil, asgTs_cons, List.map_cons, List.map_nil, List.cons_append, List.nil_append, List.getElem?_cons_zero, List.getElem?_cons_succ, List.length_cons, List.length_nil, List.replicate, Option.bind_some, Option.map_some, Option.isSome_some, List.set_cons_zero, List.set_cons_succ, Nat.zero_add, Nat.reduceAdd, Nat.reduceSub, Nat.reduceLT, Nat.reduceLeDiff, Nat.reduceEqDiff, Int.reduceNeg, Int.reduceLT, Int.reduceLE, Int.reduceAdd, Int.reduceSub, decide_true, decide_false, Bool.and_self, Bool.and_true, Bool.true_and, Bool.and_false, Bool.false_and, Bool.or_true, Bool.true_or, Bool.or_false, Bool.false_or, Bool.not_true, Bool.not_false, ↓reduceIte, Bool.false_eq_true, truD, bop_addI, bop_subI, bop_mulI, bop_modI, bop_fdivI, bop_pow18, bop_addT, bop_addL, cop_eq, cop_ne, cop_ltI, cop_leI, cop_gtI, cop_geI, eqD_ii, eqD_ss, eqD_bb, fits_lit, recvOk, recvOk.isL, isMut, isDic, killR, List.foldl, List.append_assoc, List.length_append, Nat.add_assoc, dk_len, st_get0, st_get1, st_get2, st_set0, st_set1, st_set2, Option.some.injEq, exists_eq_left', exists_eq_left, SV.d.injEq, PyData.bool.injEq, SV.ref.injEq, reduceCtorEq, false_and, and_false, exists_false, or_false, false_or, true_and, and_true, true_implies, false_implies, forall_const, beq_self_eq_true, Bool.true_eq_false, flP_set, flP_asg, flP_par, flP_sti, flP_expr, flP_for, flP_whl, flP_rets, bop_pow6, bop_pow9, bfn_max2, bfn_min2, bfn_tupL, bfn_tupT, bfn_lenL, bfn_lenT, bfn_listL, bfn_listT, bfn_intB, bfn_intI, SV.d.injEq, PyData.str.injEq, PyData.int.injEq, flP_ifs]
    exact ret_d0 (h _ _ (by omega) (by omega) (hk2.mono (by omega)))
  have e2 : (way == 2) = false := beq_eq_false_iff_ne.mpr q2
  simp only [F9, ↓flP_retS, ↓outP_and, ↓outP_or, ↓outP_ite, ↓outP_cmp2, flP_of, flP_next, flP_ret, flP_bad, flP_nil, outP_ok, outP_bad, outP_of, outP_bind, outP_nox, ok_bind, ok_of, of_some, open_none, ex, ev, evs, evo, evT, evI, dat, datX, datP, datAll, dOf, seqI, lockM, openM, boxK, freshE, retOk, asgT_nm, asgT_tup, asgT_lst, asgTs_nil, asgTs_cons, List.map_cons, List.map_nil, List.cons_append, List.nil_append, List.getElem?_cons_zero, List.getElem?_cons_succ, List.length_cons, List.length_nil, List.replicate, Option.bind_some, Option.map_some, Option.isSome_some, List.set_cons_zero, List.set_cons_succ, Nat.zero_add, Nat.reduceAdd, Nat.reduceSub, Nat.reduceLT, Nat.reduceLeDiff, Nat.reduceEqDiff, Int.reduceNeg, Int.reduceLT, Int.reduceLE, Int.reduceAdd, Int.reduceSub, decide_true, decide_false, Bool.and_self, Bool.and_true, Bool.true_and, Bool.and_false, Bool.false_and, Bool.or_true, Bool.true_or, Bool.or_false, Bool.false_or, Bool.not_true, Bool.not_false, ↓reduceIte, Bool.false_eq_true, truD, bop_addI, bop_subI, bop_mulI, bop_modI, bop_fdivI, bop_pow18, bop_addT, bop_addL, cop_eq, cop_ne, cop_ltI, cop_leI, cop_gtI, cop_geI, eqD_ii, eqD_ss, eqD_bb, fits_lit, recvOk, recvOk.isL, isMut, isDic, killR, List.foldl, List.append_assoc, List.length_append, Nat.add_assoc, dk_len, st_get0, st_get1, st_get2, st_set0, st_set1, st_set2, Option.some.injEq, exists_eq_left', exists_eq_left, SV.d.injEq, PyData.bool.injEq, SV.ref.injEq, reduceCtorEq, false_and, and_false, exists_false, or_false, false_or, true_and, and_true, true_implies, false_implies, forall_const, beq_self_eq_true, Bool.true_eq_false, flP_set, flP_asg, flP_par, flP_sti, flP_expr, flP_for, flP_whl, flP_rets, bop_pow6, bop_pow9, bfn_max2, bfn_min2, bfn_tupL, bfn_tupT, bfn_lenL, bfn_lenT, bfn_listL, bfn_listT, bfn_intB, bfn_intI, SV.d.injEq, PyData.str.injEq, PyData.int.injEq, flP_ifs, e0, e1, e2]
  refine draw_p h6 hk (by omega) (by omega) (by omega) fun r1 k1 a1 b1 hk1 => ?_
  have hr : r1 = 0 ∨ r1 = 1 := by omega
  rcases hr with rfl | rfl
  · have ei : ixD (.list [.int 1000000000, .int 1]) (.int 0) = some (.int 1000000000) := rfl
    simp only [↓flP_retS, ↓outP_and, ↓outP_or, ↓outP_ite, ↓outP_cmp2, flP_of, flP_next, flP_ret, flP_bad, flP_nil, outP_ok, outP_bad, outP_of, outP_bind, outP_nox, ok_bind, ok_of, of_some, open_none, ex, ev, evs, evo, evT, evI, dat, datX, datP, datAll, dOf, seqI, lockM, openM, boxK, freshE, retOk, asgT_nm, asgT_tup, asgT_lst, asgTs_nil, asgTs_cons, List.map_cons, List.map_nil, List.cons_append, List.nil_append, List.getElem?_cons_zero, List.getElem?_cons_succ, List.length_cons, List.length_nil, List.replicate, Option.bind_some, Option.map_some, Option.isSome_some, List.set_cons_zero, List.set_cons_succ, Nat.zero_add, Nat.reduceAdd, Nat.reduceSub, Nat.reduceLT, Nat.reduceLeDiff, Nat.reduceEqDiff, Int.reduceNeg, Int.reduceLT, Int.reduceLE, Int.reduceAdd, Int.reduceSub, decide_true, decide_false, Bool.and_self, Bool.and_true, Bool.true_and, Bool.and_false, Bool.false_and, Bool.or_true, Bool.true_or, Bool.or_false, Bool.false_or, Bool.not_true, Bool.not_false, ↓reduceIte, Bool.false_eq_true, truD, bop_addI, bop_subI, bop_mulI, bop_modI, bop_fdivI, bop_pow18, bop_addT, bop_addL, cop_eq, cop_ne, cop_ltI, cop_leI, cop_gtI, cop_geI, eqD_ii, eqD_ss, eqD_bb, fits_lit, recvOk, recvOk.isL, isMut, isDic, killR, List.foldl, List.append_assoc, List.length_append, Nat.add_assoc, dk_len, st_get0, st_get1, st_get2, st_set0, st_set1, st_set2, Option.some.injEq, exists_eq_left', exists_eq_left, SV.d.injEq, PyData.bool.injEq, SV.ref.injEq, reduceCtorEq, false_and, and_false, exists_false, or_false, false_or, true_and, and_true, true_implies, false_implies, forall_const, beq_self_eq_true, Bool.true_eq_false, flP_set, flP_asg, flP_par, flP_sti, flP_expr, flP_for, flP_whl, flP_rets, bop_pow6, bop_pow9, bfn_max2, bfn_min2, bfn_tupL, bfn_tupT, bfn_lenL, bfn_lenT, bfn_listL, bfn_listT, bfn_intB, bfn_intI, SV.d.injEq, PyData.str.injEq, PyData.int.injEq, flP_ifs, ei]
    exact ret_d0 (h _ _ (by omega) (by omega) (hk1.mono (by omega)))
  · have ei : ixD (.list [.int 1000000000, .int 1]) (.int 1) = some (.int 1) := rfl
    simp only [↓flP_retS, ↓outP_and, ↓outP_or, ↓outP_ite, ↓outP_cmp2, flP_of, flP_next, flP_ret, flP_bad, flP_nil, outP_ok, outP_bad, outP_of, outP_bind, outP_nox, ok_bind, ok_of, of_some, open_none, ex, ev, evs, evo, evT, evI, dat, datX, datP, datAll, dOf, seqI, lockM, openM, boxK, freshE, retOk, asgT_nm, asgT_tup, asgT_lst, asgTs_nil, asgTs_cons, List.map_cons, List.map_nil, List.cons_append, List.nil_append, List.getElem?_cons_zero, List.getElem?_cons_succ, List.length_cons, List.length_nil, List.replicate, Option.bind_some, Option.map_some, Option.isSome_some, List.set_cons_zero, List.set_cons_succ, Nat.zero_add, Nat.reduceAdd, Nat.reduceSub, Nat.reduceLT, Nat.reduceLeDiff, Nat.reduceEqDiff, Int.reduceNeg, Int.reduceLT, Int.reduceLE, Int.reduceAdd, Int.reduceSub, decide_true, decide_false, Bool.and_self, Bool.and_true, Bool.true_and, Bool.and_false, Bool.false_and, Bool.or_true, Bool.true_or, Bool.or_false, Bool.false_or, Bool.not_true, Bool.not_false, ↓reduceIte, Bool.false_eq_true, truD, bop_addI, bop_subI, bop_mulI, bop_modI, bop_fdivI, bop_pow18, bop_addT, bop_addL, cop_eq, cop_ne, cop_ltI, cop_leI, cop_gtI, cop_geI, eqD_ii, eqD_ss, eqD_bb, fits_lit, recvOk, recvOk.isL, isMut, isDic, killR, List.foldl, List.append_assoc, List.length_append, Nat.add_assoc, dk_len, st_get0, st_get1, st_get2, st_set0, st_set1, st_set2, Option.some.injEq, exists_eq_left', exists_eq_left, SV.d.injEq, PyData.bool.injEq, SV.ref.injEq, reduceCtorEq, false_and, and_false, exists_false, or_false, false_or, true_and, and_true, true_implies, false_implies, forall_const, beq_self_eq_true, Bool.true_eq_false, flP_set, flP_asg, flP_par, flP_sti, flP_expr, flP_for, flP_whl, flP_rets, bop_pow6, bop_pow9, bfn_max2, bfn_min2, bfn_tupL, bfn_tupT, bfn_lenL, bfn_lenT, bfn_listL, bfn_listT, bfn_intB, bfn_intI, SV.d.injEq, PyData.str.injEq, PyData.int.injEq, flP_ifs, ei]
    exact ret_d0 (h _ _ (by omega) (by omega) (hk1.mono (by omega)))
theorem pl_fine {n : Nat} {p : Pile} (h : ∀ x ∈ p, NameOk x) : Fine (n + 1) (plD p) := fine_tup fun y hy => by
  obtain ⟨l, hl, rfl⟩ := List.mem_map.mp hy
  exact fine_str (tx_ok (h l hl).lt)
theorem pls_fine {n : Nat} {ps : List Pile} (h : ∀ p ∈ ps, ∀ x ∈ p, NameOk x) : Fine (n + 2) (.list (ps.map plD)) := fine_list fun y hy => by
  obtain ⟨p, hp, rfl⟩ := List.mem_map.mp hy
  exact pl_fine (h p hp)
theorem eqD_nilT {xs : List PyData} {n : Nat} (h : Fine n (.tuple xs)) (hn : n ≤ 64) : eqD (.tuple xs) (.tuple []) = some xs.isEmpty := by
  have h2 : SeqAt.shaped (.tuple []) = true := (fine_tup (n := 0) (xs := []) fun x hx => by cases hx).shaped (by decide)
  show (if SeqAt.shaped (.tuple xs) && SeqAt.shaped (.tuple []) then some (PyData.eqv (.tuple xs) (.tuple [])) else none) = _
  rw [h.shaped hn, h2]
  cases xs <;> simp [PyData.eqv, PyData.eqvAll]
/-- what stands in a drawn pile -/
structure PileOk (names : List (List Nat)) (p : Pile) : Prop where
  pos : 1 ≤ p.length
  len : p.length ≤ 12
  mem : ∀ x ∈ p, x ∈ names
theorem pile_p (h6 : G 6 = some F6) (h7 : G 7 = some F7) (h10 : G 10 = some F10) {k : Deck} {B : Int} {rest : Sto} {K : SV → Sto → Prop} {names : List (List Nat)} {known : List Pile} {most : Int} (hk : k.Ok B) (hB : B < 2 ^ 58) (hn : ∀ x ∈ names, NameOk x) (hn1 : 1 ≤ names.length) (hn2 : names.length ≤ 100) (hkn : known.length ≤ 1000) (hkp : ∀ p ∈ known, PileOk names p) (h0 : 1 ≤ most) (h1 : most ≤ 12)
    (h : ∀ (p : Pile) (k' : Deck), PileOk names p → k'.Ok (B + 40) → K (.d (plD p)) (k'.st ++ rest)) : OutP (callI G (n + 3) 10 [.ref 1, .d (.list (names.map nmD)), .d (.list (known.map plD)), .d (.int most)] (k.st ++ rest)) K := by
  refine call_deck h10 rfl rfl ?_
  rw [List.append_nil]
  have en : eqD (.list (known.map plD)) (.list []) = some (known.map plD).isEmpty := eqD_nil (pls_fine (n := 0) fun p hp x hx => hn x ((hkp p hp).mem x hx)) (by decide)
  simp only [F10, ↓flP_retS, ↓outP_and, ↓outP_or, ↓outP_ite, ↓outP_cmp2, flP_of, flP_next, flP_ret, flP_bad, flP_nil, outP_ok, outP_bad, outP_of, outP_bind, outP_nox, ok_bind, ok_of, of_some, open_none, ex, ev, evs, evo, evT, evI, dat, datX, datP, datAll, dOf, seqI, lockM, openM, boxK, freshE, retOk, asgT_nm, asgT_tup, asgT_lst, asgTs_nil, asgTs_cons, List.map_cons, List.map_nil, List.cons_append, List.nil_append, List.getElem?_cons_zero, List.getElem?_cons_succ, List.length_cons, List.length_nil, List.replicate, Option.bind_some, Option.map_some, Option.isSome_some, List.set_cons_zero, List.set_cons_succ, Nat.zero_add, Nat.reduceAdd, Nat.reduceSub, Nat.reduceLT, Nat.reduceLeDiff, Nat.reduceEqDiff, Int.reduceNeg, Int.reduceLT, Int.reduceLE, Int.reduceAdd, Int.reduceSub, decide_true, decide_false, Bool.and_self, Bool.and_true, Bool.true_and, Bool.and_false, Bool.false_and, Bool.or_true, Bool.true_or, Bool.or_false, Bool.false_or, Bool.not_true, Bool.not_false, ↓reduceIte, Bool.false_eq_true, truD, bop_addI, bop_subI, bop_mulI, bop_modI, bop_fdivI, bop_pow18, bop_addT, bop_addL, cop_eq, cop_ne, cop_ltI, cop_leI, cop_gtI, cop_geI, eqD_ii, eqD_ss, eqD_bb, fits_lit, recvOk, recvOk.isL, isMut, isDic, killR, List.foldl, List.append_assoc, List.length_append, Nat.add_assoc, dk_len, st_get0, st_get1, st_get2, st_set0, st_set1, st_set2, Option.some.injEq, exists_eq_left', exists_eq_left, SV.d.injEq, PyData.bool.injEq, SV.ref.injEq, reduceCtorEq, false_and, and_false, exists_false, or_false, false_or, true_and, and_true, true_implies, false_implies, forall_const, beq_self_eq_true, Bool.true_eq_false, flP_set, flP_asg, flP_par, flP_sti, flP_expr, flP_for, flP_whl, flP_rets, bop_pow6, bop_pow9, bfn_max2, bfn_min2, bfn_tupL, bfn_tupT, bfn_lenL, bfn_lenT, bfn_listL, bfn_listT, bfn_intB, bfn_intI, SV.d.injEq, PyData.str.injEq, PyData.int.injEq]
  refine FlP.ifj (fun r m => ∃ (beg : Pile) (k' : Deck) (o : Option SV), r = [some (.ref 1), some (.d (.list (names.map nmD))), some (.d (.list (known.map plD))), some (.d (.int most)), some (.d (plD beg)), o, none, none, none, none] ∧ m = k'.st ++ rest ∧ beg.length ≤ 12 ∧ (∀ x ∈ beg, x ∈ names) ∧ k'.Ok (B + 3)) ?_ ?_
  · cases known with
    | nil =>
      have en : eqD (.list []) (.list []) = some true := en
      simp only [↓flP_retS, ↓outP_and, ↓outP_or, ↓outP_ite, ↓outP_cmp2, flP_of, flP_next, flP_ret, flP_bad, flP_nil, outP_ok, outP_bad, outP_of, outP_bind, outP_nox, ok_bind, ok_of, of_some, open_none, ex, ev, evs, evo, evT, evI, dat, datX, datP, datAll, dOf, seqI, lockM, openM, boxK, freshE, retOk, asgT_nm, asgT_tup, asgT_lst, asgTs_nil, asgTs_cons, List.map_cons, List.map_nil, List.cons_append, List.nil_append, List.getElem?_cons_zero, List.getElem?_cons_succ, List.length_cons, List.length_nil, List.replicate, Option.bind_some, Option.map_some, Option.isSome_some, List.set_cons_zero, List.set_cons_succ, Nat.zero_add, Nat.reduceAdd, Nat.reduceSub, Nat.reduceLT, Nat.reduceLeDiff, Nat.reduceEqDiff, Int.reduceNeg, Int.reduceLT, Int.reduceLE, Int.reduceAdd, Int.reduceSub, decide_true, decide_false, Bool.and_self, Bool.and_true, Bool.true_and, Bool.and_false, Bool.false_and, Bool.or_true, Bool.true_or, Bool.or_false, Bool.false_or, Bool.not_true, Bool.not_false, ↓reduceIte, Bool.false_eq_true, truD, bop_addI, bop_subI, bop_mulI, bop_modI, bop_fdivI, bop_pow18, bop_addT, bop_addL, cop_eq, cop_ne, cop_ltI, cop_leI, cop_gtI, cop_geI, eqD_ii, eqD_ss, eqD_bb, fits_lit, recvOk, recvOk.isL, isMut, isDic, killR, List.foldl, List.append_assoc, List.length_append, Nat.add_assoc, dk_len, st_get0, st_get1, st_get2, st_set0, st_set1, st_set2, Option.some.injEq, exists_eq_left', exists_eq_left, SV.d.injEq, PyData.bool.injEq, SV.ref.injEq, reduceCtorEq, false_and, and_false, exists_false, or_false, false_or, true_and, and_true, true_implies, false_implies, forall_const, beq_self_eq_true, Bool.true_eq_false, flP_set, flP_asg, flP_par, flP_sti, flP_expr, flP_for, flP_whl, flP_rets, bop_pow6, bop_pow9, bfn_max2, bfn_min2, bfn_tupL, bfn_tupT, bfn_lenL, bfn_lenT, bfn_listL, bfn_listT, bfn_intB, bfn_intI, SV.d.injEq, PyData.str.injEq, PyData.int.injEq, en]
      exact ⟨[], k, none, rfl, rfl, by decide, (fun x hx => by cases hx), hk.mono (by omega)⟩
    | cons p0 known =>
      have en : eqD (.list (plD p0 :: known.map plD)) (.list []) = some false := en
      simp only [↓flP_retS, ↓outP_and, ↓outP_or, ↓outP_ite, ↓outP_cmp2, flP_of, flP_next, flP_ret, flP_bad, flP_nil, outP_ok, outP_bad, outP_of, outP_bind, outP_nox, ok_bind, ok_of, of_some, open_none, ex, ev, evs, evo, evT, evI, dat, datX, datP, datAll, dOf, seqI, lockM, openM, boxK, freshE, retOk, asgT_nm, asgT_tup, asgT_lst, asgTs_nil, asgTs_cons, List.map_cons, List.map_nil, List.cons_append, List.nil_append, List.getElem?_cons_zero, List.getElem?_cons_succ, List.length_cons, List.length_nil, List.replicate, Option.bind_some, Option.map_some, Option.isSome_some, List.set_cons_zero, List.set_cons_succ, Nat.zero_add, Nat.reduceAdd, Nat.reduceSub, Nat.reduceLT, Nat.reduceLeDiff, Nat.reduceEqDiff, Int.reduceNeg, Int.reduceLT, Int.reduceLE, Int.reduceAdd, Int.reduceSub, decide_true, decide_false, Bool.and_self, Bool.and_true, Bool.true_and, Bool.and_false, Bool.false_and, Bool.or_true, Bool.true_or, Bool.or_false, Bool.false_or, Bool.not_true, Bool.not_false, ↓reduceIte, Bool.false_eq_true, truD, bop_addI, bop_subI, bop_mulI, bop_modI, bop_fdivI, bop_pow18, bop_addT, bop_addL, cop_eq, cop_ne, cop_ltI, cop_leI, cop_gtI, cop_geI, eqD_ii, eqD_ss, eqD_bb, fits_lit, recvOk, recvOk.isL, isMut, isDic, killR, List.foldl, List.append_assoc, List.length_append, Nat.add_assoc, dk_len, st_get0, st_get1, st_get2, st_set0, st_set1, st_set2, Option.some.injEq, exists_eq_left', exists_eq_left, SV.d.injEq, PyData.bool.injEq, SV.ref.injEq, reduceCtorEq, false_and, and_false, exists_false, or_false, false_or, true_and, and_true, true_implies, false_implies, forall_const, beq_self_eq_true, Bool.true_eq_false, flP_set, flP_asg, flP_par, flP_sti, flP_expr, flP_for, flP_whl, flP_rets, bop_pow6, bop_pow9, bfn_max2, bfn_min2, bfn_tupL, bfn_tupT, bfn_lenL, bfn_lenT, bfn_listL, bfn_listT, bfn_intB, bfn_intI, SV.d.injEq, PyData.str.injEq, PyData.int.injEq, en]
      refine draw_p h6 hk (by omega) (by omega) (by omega) fun r1 k1 a1 b1 hk1 => ?_
      simp only [↓flP_retS, ↓outP_and, ↓outP_or, ↓outP_ite, ↓outP_cmp2, flP_of, flP_next, flP_ret, flP_bad, flP_nil, outP_ok, outP_bad, outP_of, outP_bind, outP_nox, ok_bind, ok_of, of_some, open_none, ex, ev, evs, evo, evT, evI, dat, datX, datP, datAll, dOf, seqI, lockM, openM, boxK, freshE, retOk, asgT_nm, asgT_tup, asgT_lst, asgTs_nil, asgTs_cons, List.map_cons, List.map_nil, List.cons_append, List.nil_append, List.getElem?_cons_zero, List.getElem?_cons_succ, List.length_cons, List.length_nil, List.replicate, Option.bind_some, Option.map_some, Option.isSome_some, List.set_cons_zero, List.set_cons_succ, Nat.zero_add, Nat.reduceAdd, Nat.reduceSub, Nat.reduceLT, Nat.reduceLeDiff, Nat.reduceEqDiff, Int.reduceNeg, Int.reduceLT, Int.reduceLE, Int.reduceAdd, Int.reduceSub, decide_true, decide_false, Bool.and_self, Bool.and_true, Bool.true_and, Bool.and_false, Bool.false_and, Bool.or_true, Bool.true_or, Bool.or_false, Bool.false_or, Bool.not_true, Bool.not_false, ↓reduceIte, Bool.false_eq_true, truD, bop_addI, bop_subI, bop_mulI, bop_modI, bop_fdivI, bop_pow18, bop_addT, bop_addL, cop_eq, cop_ne, cop_ltI, cop_leI, cop_gtI, cop_geI, eqD_ii, eqD_ss, eqD_bb, fits_lit, recvOk, recvOk.isL, isMut, isDic, killR, List.foldl, List.append_assoc, List.length_append, Nat.add_assoc, dk_len, st_get0, st_get1, st_get2, st_set0, st_set1, st_set2, Option.some.injEq, exists_eq_left', exists_eq_left, SV.d.injEq, PyData.bool.injEq, SV.ref.injEq, reduceCtorEq, false_and, and_false, exists_false, or_false, false_or, true_and, and_true, true_implies, false_implies, forall_const, beq_self_eq_true, Bool.true_eq_false, flP_set, flP_asg, flP_par, flP_sti, flP_expr, flP_for, flP_whl, flP_rets, bop_pow6, bop_pow9, bfn_max2, bfn_min2, bfn_tupL, bfn_tupT, bfn_lenL, bfn_lenT, bfn_listL, bfn_listT, bfn_intB, bfn_intI, SV.d.injEq, PyData.str.injEq, PyData.int.injEq]
      refine ⟨fun _ => ?_, fun _ => ⟨[], k1, none, rfl, rfl, by decide, (fun x hx => by cases hx), hk1.mono (by omega)⟩⟩
      refine pick_m (f := plD) (xs := p0 :: known) h6 h7 hk1 (by omega) (Nat.succ_pos _) (by omega) (fun _ _ _ => rfl) fun p hp k2 hk2 => ?_
      have hp' := hkp p hp
      have lp := hp'.len
      simp only [↓flP_retS, ↓outP_and, ↓outP_or, ↓outP_ite, ↓outP_cmp2, flP_of, flP_next, flP_ret, flP_bad, flP_nil, outP_ok, outP_bad, outP_of, outP_bind, outP_nox, ok_bind, ok_of, of_some, open_none, ex, ev, evs, evo, evT, evI, dat, datX, datP, datAll, dOf, seqI, lockM, openM, boxK, freshE, retOk, asgT_nm, asgT_tup, asgT_lst, asgTs_nil, asgTs_cons, List.map_cons, List.map_nil, List.cons_append, List.nil_append, List.getElem?_cons_zero, List.getElem?_cons_succ, List.length_cons, List.length_nil, List.replicate, Option.bind_some, Option.map_some, Option.isSome_some, List.set_cons_zero, List.set_cons_succ, Nat.zero_add, Nat.reduceAdd, Nat.reduceSub, Nat.reduceLT, Nat.reduceLeDiff, Nat.reduceEqDiff, Int.reduceNeg, Int.reduceLT, Int.reduceLE, Int.reduceAdd, Int.reduceSub, decide_true, decide_false, Bool.and_self, Bool.and_true, Bool.true_and, Bool.and_false, Bool.false_and, Bool.or_true, Bool.true_or, Bool.or_false, Bool.false_or, Bool.not_true, Bool.not_false, ↓reduceIte, Bool.false_eq_true, truD, bop_addI, bop_subI, bop_mulI, bop_modI, bop_fdivI, bop_pow18, bop_addT, bop_addL, cop_eq, cop_ne, cop_ltI, cop_leI, cop_gtI, cop_geI, eqD_ii, eqD_ss, eqD_bb, fits_lit, recvOk, recvOk.isL, isMut, isDic, killR, List.foldl, List.append_assoc, List.length_append, Nat.add_assoc, dk_len, st_get0, st_get1, st_get2, st_set0, st_set1, st_set2, Option.some.injEq, exists_eq_left', exists_eq_left, SV.d.injEq, PyData.bool.injEq, SV.ref.injEq, reduceCtorEq, false_and, and_false, exists_false, or_false, false_or, true_and, and_true, true_implies, false_implies, forall_const, beq_self_eq_true, Bool.true_eq_false, flP_set, flP_asg, flP_par, flP_sti, flP_expr, flP_for, flP_whl, flP_rets, bop_pow6, bop_pow9, bfn_max2, bfn_min2, bfn_tupL, bfn_tupT, bfn_lenL, bfn_lenT, bfn_listL, bfn_listT, bfn_intB, bfn_intI, SV.d.injEq, PyData.str.injEq, PyData.int.injEq, plD, List.length_map]
      refine draw_p h6 hk2 (by omega) (by omega) (by omega) fun r3 k3 a3 b3 hk3 => ?_
      have es : slD (.tuple (p.map nmD)) none (some r3) = some (plD (p.take r3.toNat)) := by
        show some (PyData.tuple (cutD (p.map nmD) none (some r3))) = _
        rw [cutD_to a3, ← List.map_take]; rfl
      simp only [↓flP_retS, ↓outP_and, ↓outP_or, ↓outP_ite, ↓outP_cmp2, flP_of, flP_next, flP_ret, flP_bad, flP_nil, outP_ok, outP_bad, outP_of, outP_bind, outP_nox, ok_bind, ok_of, of_some, open_none, ex, ev, evs, evo, evT, evI, dat, datX, datP, datAll, dOf, seqI, lockM, openM, boxK, freshE, retOk, asgT_nm, asgT_tup, asgT_lst, asgTs_nil, asgTs_cons, List.map_cons, List.map_nil, List.cons_append, List.nil_append, List.getElem?_cons_zero, List.getElem?_cons_succ, List.length_cons, List.length_nil, List.replicate, Option.bind_some, Option.map_some, Option.isSome_some, List.set_cons_zero, List.set_cons_succ, Nat.zero_add, Nat.reduceAdd, Nat.reduceSub, Nat.reduceLT, Nat.reduceLeDiff, Nat.reduceEqDiff, Int.reduceNeg, Int.reduceLT, Int.reduceLE, Int.reduceAdd, Int.reduceSub, decide_true, decide_false, Bool.and_self, Bool.and_true, Bool.true_and, Bool.and_false, Bool.false_and, Bool.or_true, Bool.true_or, Bool.or_false, Bool.false_or, Bool.not_true, Bool.not_false, ↓reduceIte, Bool.false_eq_true, truD, bop_addI, bop_subI, bop_mulI, bop_modI, bop_fdivI, bop_pow18, bop_addT, bop_addL, cop_eq, cop_ne, cop_ltI, cop_leI, cop_gtI, cop_geI, eqD_ii, eqD_ss, eqD_bb, fits_lit, recvOk, recvOk.isL, isMut, isDic, killR, List.foldl, List.append_assoc, List.length_append, Nat.add_assoc, dk_len, st_get0, st_get1, st_get2, st_set0, st_set1, st_set2, Option.some.injEq, exists_eq_left', exists_eq_left, SV.d.injEq, PyData.bool.injEq, SV.ref.injEq, reduceCtorEq, false_and, and_false, exists_false, or_false, false_or, true_and, and_true, true_implies, false_implies, forall_const, beq_self_eq_true, Bool.true_eq_false, flP_set, flP_asg, flP_par, flP_sti, flP_expr, flP_for, flP_whl, flP_rets, bop_pow6, bop_pow9, bfn_max2, bfn_min2, bfn_tupL, bfn_tupT, bfn_lenL, bfn_lenT, bfn_listL, bfn_listT, bfn_intB, bfn_intI, SV.d.injEq, PyData.str.injEq, PyData.int.injEq, es]
      exact ⟨p.take r3.toNat, k3, some (.d (plD p)), rfl, rfl, by rw [List.length_take]; omega, fun x hx => hp'.mem x (List.mem_of_mem_take hx), hk3.mono (by omega)⟩
  · rintro r m ⟨beg, k1, o, rfl, rfl, hb, hbm, hk1⟩
    simp only [↓flP_retS, ↓outP_and, ↓outP_or, ↓outP_ite, ↓outP_cmp2, flP_of, flP_next, flP_ret, flP_bad, flP_nil, outP_ok, outP_bad, outP_of, outP_bind, outP_nox, ok_bind, ok_of, of_some, open_none, ex, ev, evs, evo, evT, evI, dat, datX, datP, datAll, dOf, seqI, lockM, openM, boxK, freshE, retOk, asgT_nm, asgT_tup, asgT_lst, asgTs_nil, asgTs_cons, List.map_cons, List.map_nil, List.cons_append, List.nil_append, List.getElem?_cons_zero, List.getElem?_cons_succ, List.length_cons, List.length_nil, List.replicate, Option.bind_some, Option.map_some, Option.isSome_some, List.set_cons_zero, List.set_cons_succ, Nat.zero_add, Nat.reduceAdd, Nat.reduceSub, Nat.reduceLT, Nat.reduceLeDiff, Nat.reduceEqDiff, Int.reduceNeg, Int.reduceLT, Int.reduceLE, Int.reduceAdd, Int.reduceSub, decide_true, decide_false, Bool.and_self, Bool.and_true, Bool.true_and, Bool.and_false, Bool.false_and, Bool.or_true, Bool.true_or, Bool.or_false, Bool.false_or, Bool.not_true, Bool.not_false, ↓reduceIte, Bool.false_eq_true, truD, bop_addI, bop_subI, bop_mulI, bop_modI, bop_fdivI, bop_pow18, bop_addT, bop_addL, cop_eq, cop_ne, cop_ltI, cop_leI, cop_gtI, cop_geI, eqD_ii, eqD_ss, eqD_bb, fits_lit, recvOk, recvOk.isL, isMut, isDic, killR, List.foldl, List.append_assoc, List.length_append, Nat.add_assoc, dk_len, st_get0, st_get1, st_get2, st_set0, st_set1, st_set2, Option.some.injEq, exists_eq_left', exists_eq_left, SV.d.injEq, PyData.bool.injEq, SV.ref.injEq, reduceCtorEq, false_and, and_false, exists_false, or_false, false_or, true_and, and_true, true_implies, false_implies, forall_const, beq_self_eq_true, Bool.true_eq_false, flP_set, flP_asg, flP_par, flP_sti, flP_expr, flP_for, flP_whl, flP_rets, bop_pow6, bop_pow9, bfn_max2, bfn_min2, bfn_tupL, bfn_tupT, bfn_lenL, bfn_lenT, bfn_listL, bfn_listT, bfn_intB, bfn_intI, SV.d.injEq, PyData.str.injEq, PyData.int.injEq, plD, List.length_map]
    refine draw_p h6 hk1 (by omega) (by omega) (by omega) fun r2 k2 a2 b2 hk2 => ?_
    have sm : small62 (if 1 + r2 - (beg.length : Int) > 1 then 1 + r2 - (beg.length : Int) else 1) = true := small62_of (by split <;> omega) (by split <;> omega)
    simp only [↓flP_retS, ↓outP_and, ↓outP_or, ↓outP_ite, ↓outP_cmp2, flP_of, flP_next, flP_ret, flP_bad, flP_nil, outP_ok, outP_bad, outP_of, outP_bind, outP_nox, ok_bind, ok_of, of_some, open_none, ex, ev, evs, evo, evT, evI, dat, datX, datP, datAll, dOf, seqI, lockM, openM, boxK, freshE, retOk, asgT_nm, asgT_tup, asgT_lst, asgTs_nil, asgTs_cons, List.map_cons, List.map_nil, List.cons_append, List.nil_append, List.getElem?_cons_zero, List.getElem?_cons_succ, List.length_cons, List.length_nil, List.replicate, Option.bind_some, Option.map_some, Option.isSome_some, List.set_cons_zero, List.set_cons_succ, Nat.zero_add, Nat.reduceAdd, Nat.reduceSub, Nat.reduceLT, Nat.reduceLeDiff, Nat.reduceEqDiff, Int.reduceNeg, Int.reduceLT, Int.reduceLE, Int.reduceAdd, Int.reduceSub, decide_true, decide_false, Bool.and_self, Bool.and_true, Bool.true_and, Bool.and_false, Bool.false_and, Bool.or_true, Bool.true_or, Bool.or_false, Bool.false_or, Bool.not_true, Bool.not_false, ↓reduceIte, Bool.false_eq_true, truD, bop_addI, bop_subI, bop_mulI, bop_modI, bop_fdivI, bop_pow18, bop_addT, bop_addL, cop_eq, cop_ne, cop_ltI, cop_leI, cop_gtI, cop_geI, eqD_ii, eqD_ss, eqD_bb, fits_lit, recvOk, recvOk.isL, isMut, isDic, killR, List.foldl, List.append_assoc, List.length_append, Nat.add_assoc, dk_len, st_get0, st_get1, st_get2, st_set0, st_set1, st_set2, Option.some.injEq, exists_eq_left', exists_eq_left, SV.d.injEq, PyData.bool.injEq, SV.ref.injEq, reduceCtorEq, false_and, and_false, exists_false, or_false, false_or, true_and, and_true, true_implies, false_implies, forall_const, beq_self_eq_true, Bool.true_eq_false, flP_set, flP_asg, flP_par, flP_sti, flP_expr, flP_for, flP_whl, flP_rets, bop_pow6, bop_pow9, bfn_max2, bfn_min2, bfn_tupL, bfn_tupT, bfn_lenL, bfn_lenT, bfn_listL, bfn_listT, bfn_intB, bfn_intI, SV.d.injEq, PyData.str.injEq, PyData.int.injEq, sm]
    have hmany : (if 1 + r2 - (beg.length : Int) > 1 then 1 + r2 - (beg.length : Int) else 1) ≤ 12 ∧ 1 ≤ (if 1 + r2 - (beg.length : Int) > 1 then 1 + r2 - (beg.length : Int) else 1) := by split <;> omega
    generalize (if 1 + r2 - (beg.length : Int) > 1 then 1 + r2 - (beg.length : Int) else 1) = many at *
    obtain ⟨hmany, hmany1⟩ := hmany
    refine FlP.forI (fun i r m => ∃ (p : Pile) (k' : Deck), r = [some (.ref 1), some (.d (.list (names.map nmD))), none, none, none, none, none, some (.d (plD p)), none, none] ∧ m = k'.st ++ rest ∧ p.length ≤ 12 + i ∧ i ≤ p.length ∧ (∀ x ∈ p, x ∈ names) ∧ k'.Ok (B + 4 + 2 * i)) ⟨beg, k2, rfl, rfl, hb, Nat.zero_le _, hbm, hk2.mono (by omega)⟩ ?_ ?_
    · rintro i x r m hx ⟨p, k3, rfl, rfl, hp, hp2, hpm, hk3⟩
      obtain ⟨rfl, hi⟩ := rng_get hx
      simp only [↓flP_retS, ↓outP_and, ↓outP_or, ↓outP_ite, ↓outP_cmp2, flP_of, flP_next, flP_ret, flP_bad, flP_nil, outP_ok, outP_bad, outP_of, outP_bind, outP_nox, ok_bind, ok_of, of_some, open_none, ex, ev, evs, evo, evT, evI, dat, datX, datP, datAll, dOf, seqI, lockM, openM, boxK, freshE, retOk, asgT_nm, asgT_tup, asgT_lst, asgTs_nil, asgTs_cons, List.map_cons, List.map_nil, List.cons_append, List.nil_append, List.getElem?_cons_zero, List.getElem?_cons_succ, List.length_cons, List.length_nil, List.replicate, Option.bind_some, Option.map_some, Option.isSome_some, List.set_cons_zero, List.set_cons_succ, Nat.zero_add, Nat.reduceAdd, Nat.reduceSub, Nat.reduceLT, Nat.reduceLeDiff, Nat.reduceEqDiff, Int.reduceNeg, Int.reduceLT, Int.reduceLE, Int.reduceAdd, Int.reduceSub, decide_true, decide_false, Bool.and_self, Bool.and_true, Bool.true_and, Bool.and_false, Bool.false_and, Bool.or_true, Bool.true_or, Bool.or_false, Bool.false_or, Bool.not_true, Bool.not_false, ↓reduceIte, Bool.false_eq_true, truD, bop_addI, bop_subI, bop_mulI, bop_modI, bop_fdivI, bop_pow18, bop_addT, bop_addL, cop_eq, cop_ne, cop_ltI, cop_leI, cop_gtI, cop_geI, eqD_ii, eqD_ss, eqD_bb, fits_lit, recvOk, recvOk.isL, isMut, isDic, killR, List.foldl, List.append_assoc, List.length_append, Nat.add_assoc, dk_len, st_get0, st_get1, st_get2, st_set0, st_set1, st_set2, Option.some.injEq, exists_eq_left', exists_eq_left, SV.d.injEq, PyData.bool.injEq, SV.ref.injEq, reduceCtorEq, false_and, and_false, exists_false, or_false, false_or, true_and, and_true, true_implies, false_implies, forall_const, beq_self_eq_true, Bool.true_eq_false, flP_set, flP_asg, flP_par, flP_sti, flP_expr, flP_for, flP_whl, flP_rets, bop_pow6, bop_pow9, bfn_max2, bfn_min2, bfn_tupL, bfn_tupT, bfn_lenL, bfn_lenT, bfn_listL, bfn_listT, bfn_intB, bfn_intI, SV.d.injEq, PyData.str.injEq, PyData.int.injEq]
      refine pick_m h6 h7 hk3 (by omega) (by omega) (by omega) (fun _ _ _ => rfl) fun y hy k4 hk4 => ?_
      have ep : eqD (plD p) (.tuple []) = some (p.map nmD).isEmpty := eqD_nilT (pl_fine (n := 0) fun x hx => hn x (hpm x hx)) (by decide)
      refine FlP.ifj (fun r m => ∃ (z : List Nat) (k' : Deck), r = [some (.ref 1), some (.d (.list (names.map nmD))), none, none, none, none, none, some (.d (plD p)), some (.d (.int (0 + i))), some (.d (nmD z))] ∧ m = k'.st ++ rest ∧ z ∈ names ∧ k'.Ok (B + 4 + 2 * (i + 1))) ?_ ?_
      · cases p with
        | nil =>
          have ep : eqD (plD []) (.tuple []) = some true := ep
          simp only [↓flP_retS, ↓outP_and, ↓outP_or, ↓outP_ite, ↓outP_cmp2, flP_of, flP_next, flP_ret, flP_bad, flP_nil, outP_ok, outP_bad, outP_of, outP_bind, outP_nox, ok_bind, ok_of, of_some, open_none, ex, ev, evs, evo, evT, evI, dat, datX, datP, datAll, dOf, seqI, lockM, openM, boxK, freshE, retOk, asgT_nm, asgT_tup, asgT_lst, asgTs_nil, asgTs_cons, List.map_cons, List.map_nil, List.cons_append, List.nil_append, List.getElem?_cons_zero, List.getElem?_cons_succ, List.length_cons, List.length_nil, List.replicate, Option.bind_some, Option.map_some, Option.isSome_some, List.set_cons_zero, List.set_cons_succ, Nat.zero_add, Nat.reduceAdd, Nat.reduceSub, Nat.reduceLT, Nat.reduceLeDiff, Nat.reduceEqDiff, Int.reduceNeg, Int.reduceLT, Int.reduceLE, Int.reduceAdd, Int.reduceSub, decide_true, decide_false, Bool.and_self, Bool.and_true, Bool.true_and, Bool.and_false, Bool.false_and, Bool.or_true, Bool.true_or, Bool.or_false, Bool.false_or, Bool.not_true, Bool.not_false, ↓reduceIte, Bool.false_eq_true, truD, bop_addI, bop_subI, bop_mulI, bop_modI, bop_fdivI, bop_pow18, bop_addT, bop_addL, cop_eq, cop_ne, cop_ltI, cop_leI, cop_gtI, cop_geI, eqD_ii, eqD_ss, eqD_bb, fits_lit, recvOk, recvOk.isL, isMut, isDic, killR, List.foldl, List.append_assoc, List.length_append, Nat.add_assoc, dk_len, st_get0, st_get1, st_get2, st_set0, st_set1, st_set2, Option.some.injEq, exists_eq_left', exists_eq_left, SV.d.injEq, PyData.bool.injEq, SV.ref.injEq, reduceCtorEq, false_and, and_false, exists_false, or_false, false_or, true_and, and_true, true_implies, false_implies, forall_const, beq_self_eq_true, Bool.true_eq_false, flP_set, flP_asg, flP_par, flP_sti, flP_expr, flP_for, flP_whl, flP_rets, bop_pow6, bop_pow9, bfn_max2, bfn_min2, bfn_tupL, bfn_tupT, bfn_lenL, bfn_lenT, bfn_listL, bfn_listT, bfn_intB, bfn_intI, SV.d.injEq, PyData.str.injEq, PyData.int.injEq, ep]
          exact ⟨y, k4, rfl, rfl, hy, hk4.mono (by omega)⟩
        | cons p0 p =>
          have ep : eqD (plD (p0 :: p)) (.tuple []) = some false := ep
          simp only [↓flP_retS, ↓outP_and, ↓outP_or, ↓outP_ite, ↓outP_cmp2, flP_of, flP_next, flP_ret, flP_bad, flP_nil, outP_ok, outP_bad, outP_of, outP_bind, outP_nox, ok_bind, ok_of, of_some, open_none, ex, ev, evs, evo, evT, evI, dat, datX, datP, datAll, dOf, seqI, lockM, openM, boxK, freshE, retOk, asgT_nm, asgT_tup, asgT_lst, asgTs_nil, asgTs_cons, List.map_cons, List.map_nil, List.cons_append, List.nil_append, List.getElem?_cons_zero, List.getElem?_cons_succ, List.length_cons, List.length_nil, List.replicate, Option.bind_some, Option.map_some, Option.isSome_some, List.set_cons_zero, List.set_cons_succ, Nat.zero_add, Nat.reduceAdd, Nat.reduceSub, Nat.reduceLT, Nat.reduceLeDiff, Nat.reduceEqDiff, Int.reduceNeg, Int.reduceLT, Int.reduceLE, Int.reduceAdd, Int.reduceSub, decide_true, decide_false, Bool.and_self, Bool.and_true, Bool.true_and, Bool.and_false, Bool.false_and, Bool.or_true, Bool.true_or, Bool.or_false, Bool.false_or, Bool.not_true, Bool.not_false, ↓reduceIte, Bool.false_eq_true, truD, bop_addI, bop_subI, bop_mulI, bop_modI, bop_fdivI, bop_pow18, bop_addT, bop_addL, cop_eq, cop_ne, cop_ltI, cop_leI, cop_gtI, cop_geI, eqD_ii, eqD_ss, eqD_bb, fits_lit, recvOk, recvOk.isL, isMut, isDic, killR, List.foldl, List.append_assoc, List.length_append, Nat.add_assoc, dk_len, st_get0, st_get1, st_get2, st_set0, st_set1, st_set2, Option.some.injEq, exists_eq_left', exists_eq_left, SV.d.injEq, PyData.bool.injEq, SV.ref.injEq, reduceCtorEq, false_and, and_false, exists_false, or_false, false_or, true_and, and_true, true_implies, false_implies, forall_const, beq_self_eq_true, Bool.true_eq_false, flP_set, flP_asg, flP_par, flP_sti, flP_expr, flP_for, flP_whl, flP_rets, bop_pow6, bop_pow9, bfn_max2, bfn_min2, bfn_tupL, bfn_tupT, bfn_lenL, bfn_lenT, bfn_listL, bfn_listT, bfn_intB, bfn_intI, SV.d.injEq, PyData.str.injEq, PyData.int.injEq, ep]
          refine draw_p h6 hk4 (by omega) (by omega) (by omega) fun r5 k5 a5 b5 hk5 => ?_
          simp only [↓flP_retS, ↓outP_and, ↓outP_or, ↓outP_ite, ↓outP_cmp2, flP_of, flP_next, flP_ret, flP_bad, flP_nil, outP_ok, outP_bad, outP_of, outP_bind, outP_nox, ok_bind, ok_of, of_some, open_none, ex, ev, evs, evo, evT, evI, dat, datX, datP, datAll, dOf, seqI, lockM, openM, boxK, freshE, retOk, asgT_nm, asgT_tup, asgT_lst, asgTs_nil, asgTs_cons, List.map_cons, List.map_nil, List.cons_append, List.nil_append, List.getElem?_cons_zero, List.getElem?_cons_succ, List.length_cons, List.length_nil, List.replicate, Option.bind_some, Option.map_some, Option.isSome_some, List.set_cons_zero, List.set_cons_succ, Nat.zero_add, Nat.reduceAdd, Nat.reduceSub, Nat.reduceLT, Nat.reduceLeDiff, Nat.reduceEqDiff, Int.reduceNeg, Int.reduceLT, Int.reduceLE, Int.reduceAdd, Int.reduceSub, decide_true, decide_false, Bool.and_self, Bool.and_true, Bool.true_and, Bool.and_false, Bool.false_and, Bool.or_true, Bool.true_or, Bool.or_false, Bool.false_or, Bool.not_true, Bool.not_false, ↓reduceIte, Bool.false_eq_true, truD, bop_addI, bop_subI, bop_mulI, bop_modI, bop_fdivI, bop_pow18, bop_addT, bop_addL, cop_eq, cop_ne, cop_ltI, cop_leI, cop_gtI, cop_geI, eqD_ii, eqD_ss, eqD_bb, fits_lit, recvOk, recvOk.isL, isMut, isDic, killR, List.foldl, List.append_assoc, List.length_append, Nat.add_assoc, dk_len, st_get0, st_get1, st_get2, st_set0, st_set1, st_set2, Option.some.injEq, exists_eq_left', exists_eq_left, SV.d.injEq, PyData.bool.injEq, SV.ref.injEq, reduceCtorEq, false_and, and_false, exists_false, or_false, false_or, true_and, and_true, true_implies, false_implies, forall_const, beq_self_eq_true, Bool.true_eq_false, flP_set, flP_asg, flP_par, flP_sti, flP_expr, flP_for, flP_whl, flP_rets, bop_pow6, bop_pow9, bfn_max2, bfn_min2, bfn_tupL, bfn_tupT, bfn_lenL, bfn_lenT, bfn_listL, bfn_listT, bfn_intB, bfn_intI, SV.d.injEq, PyData.str.injEq, PyData.int.injEq]
          refine ⟨fun _ => ?_, fun _ => ⟨y, k5, rfl, rfl, hy, hk5.mono (by omega)⟩⟩
          have el : ∃ z ∈ p0 :: p, ixD (plD (p0 :: p)) (.int (-1)) = some (nmD z) := by
            refine ⟨(p0 :: p).getLast (by simp), List.getLast_mem _, ?_⟩
            show L2.atI ((p0 :: p).map nmD) (-1) = _
            unfold L2.atI L2.ixN
            rw [if_neg (by decide), if_pos (by rw [List.length_map, List.length_cons]; omega)]
            show ((p0 :: p).map nmD)[_]? = _
            rw [List.getElem?_map, List.getLast_eq_getElem, List.getElem?_eq_getElem (by rw [List.length_map, List.length_cons]; omega)]
            rw [Option.map_some]
            congr 3
            rw [List.length_map, List.length_cons]; omega
          obtain ⟨z, hz, ez⟩ := el
          simp only [↓flP_retS, ↓outP_and, ↓outP_or, ↓outP_ite, ↓outP_cmp2, flP_of, flP_next, flP_ret, flP_bad, flP_nil, outP_ok, outP_bad, outP_of, outP_bind, outP_nox, ok_bind, ok_of, of_some, open_none, ex, ev, evs, evo, evT, evI, dat, datX, datP, datAll, dOf, seqI, lockM, openM, boxK, freshE, retOk, asgT_nm, asgT_tup, asgT_lst, asgTs_nil, asgTs_cons, List.map_cons, List.map_nil, List.cons_append, List.nil_append, List.getElem?_cons_zero, List.getElem?_cons_succ, List.length_cons, List.length_nil, List.replicate, Option.bind_some, Option.map_some, Option.isSome_some, List.set_cons_zero, List.set_cons_succ, Nat.zero_add, Nat.reduceAdd, Nat.reduceSub, Nat.reduceLT, Nat.reduceLeDiff, Nat.reduceEqDiff, Int.reduceNeg, Int.reduceLT, Int.reduceLE, Int.reduceAdd, Int.reduceSub, decide_true, decide_false, Bool.and_self, Bool.and_true, Bool.true_and, Bool.and_false, Bool.false_and, Bool.or_true, Bool.true_or, Bool.or_false, Bool.false_or, Bool.not_true, Bool.not_false, ↓reduceIte, Bool.false_eq_true, truD, bop_addI, bop_subI, bop_mulI, bop_modI, bop_fdivI, bop_pow18, bop_addT, bop_addL, cop_eq, cop_ne, cop_ltI, cop_leI, cop_gtI, cop_geI, eqD_ii, eqD_ss, eqD_bb, fits_lit, recvOk, recvOk.isL, isMut, isDic, killR, List.foldl, List.append_assoc, List.length_append, Nat.add_assoc, dk_len, st_get0, st_get1, st_get2, st_set0, st_set1, st_set2, Option.some.injEq, exists_eq_left', exists_eq_left, SV.d.injEq, PyData.bool.injEq, SV.ref.injEq, reduceCtorEq, false_and, and_false, exists_false, or_false, false_or, true_and, and_true, true_implies, false_implies, forall_const, beq_self_eq_true, Bool.true_eq_false, flP_set, flP_asg, flP_par, flP_sti, flP_expr, flP_for, flP_whl, flP_rets, bop_pow6, bop_pow9, bfn_max2, bfn_min2, bfn_tupL, bfn_tupT, bfn_lenL, bfn_lenT, bfn_listL, bfn_listT, bfn_intB, bfn_intI, SV.d.injEq, PyData.str.injEq, PyData.int.injEq, ez]
          exact ⟨z, k5, rfl, rfl, hpm z hz, hk5.mono (by omega)⟩
      · rintro r m ⟨z, k5, rfl, rfl, hz, hk5⟩
        have ad : bop .add (plD p) (.tuple [nmD z]) = some (plD (p ++ [z])) := by
          show bop .add (.tuple (p.map nmD)) (.tuple [nmD z]) = _
          rw [bop_addT (by rw [List.length_map]; show p.length + 1 ≤ _; omega)]
          unfold plD
          rw [List.map_append]; rfl
        simp only [↓flP_retS, ↓outP_and, ↓outP_or, ↓outP_ite, ↓outP_cmp2, flP_of, flP_next, flP_ret, flP_bad, flP_nil, outP_ok, outP_bad, outP_of, outP_bind, outP_nox, ok_bind, ok_of, of_some, open_none, ex, ev, evs, evo, evT, evI, dat, datX, datP, datAll, dOf, seqI, lockM, openM, boxK, freshE, retOk, asgT_nm, asgT_tup, asgT_lst, asgTs_nil, asgTs_cons, List.map_cons, List.map_nil, List.cons_append, List.nil_append, List.getElem?_cons_zero, List.getElem?_cons_succ, List.length_cons, List.length_nil, List.replicate, Option.bind_some, Option.map_some, Option.isSome_some, List.set_cons_zero, List.set_cons_succ, Nat.zero_add, Nat.reduceAdd, Nat.reduceSub, Nat.reduceLT, Nat.reduceLeDiff, Nat.reduceEqDiff, Int.reduceNeg, Int.reduceLT, Int.reduceLE, Int.reduceAdd, Int.reduceSub, decide_true, decide_false, Bool.and_self, Bool.and_true, Bool.true_and, Bool.and_false, Bool.false_and, Bool.or_true, Bool.true_or, Bool.or_false, Bool.false_or, Bool.not_true, Bool.not_false, ↓reduceIte, Bool.false_eq_true, truD, bop_addI, bop_subI, bop_mulI, bop_modI, bop_fdivI, bop_pow18, bop_addT, bop_addL, cop_eq, cop_ne, cop_ltI, cop_leI, cop_gtI, cop_geI, eqD_ii, eqD_ss, eqD_bb, fits_lit, recvOk, recvOk.isL, isMut, isDic, killR, List.foldl, List.append_assoc, List.length_append, Nat.add_assoc, dk_len, st_get0, st_get1, st_get2, st_set0, st_set1, st_set2, Option.some.injEq, exists_eq_left', exists_eq_left, SV.d.injEq, PyData.bool.injEq, SV.ref.injEq, reduceCtorEq, false_and, and_false, exists_false, or_false, false_or, true_and, and_true, true_implies, false_implies, forall_const, beq_self_eq_true, Bool.true_eq_false, flP_set, flP_asg, flP_par, flP_sti, flP_expr, flP_for, flP_whl, flP_rets, bop_pow6, bop_pow9, bfn_max2, bfn_min2, bfn_tupL, bfn_tupT, bfn_lenL, bfn_lenT, bfn_listL, bfn_listT, bfn_intB, bfn_intI, SV.d.injEq, PyData.str.injEq, PyData.int.injEq, ad]
        refine ⟨p ++ [z], k5, rfl, rfl, ?_, ?_, fun x hx => ?_, hk5⟩
        · rw [List.length_append]; show p.length + 1 ≤ _; omega
        · rw [List.length_append]; show _ ≤ p.length + 1; omega
        · rcases List.mem_append.mp hx with hx | hx
          · exact hpm x hx
          · rw [List.mem_singleton] at hx; subst hx; exact hz
    · rintro r m ⟨p, k3, rfl, rfl, hp, hp2, hpm, hk3⟩
      rw [rng_len] at *
      have es : slD (plD p) none (some 12) = some (plD (p.take 12)) := by
        show some (PyData.tuple (cutD (p.map nmD) none (some 12))) = _
        rw [cutD_to (by decide), ← List.map_take]; rfl
      simp only [↓flP_retS, ↓outP_and, ↓outP_or, ↓outP_ite, ↓outP_cmp2, flP_of, flP_next, flP_ret, flP_bad, flP_nil, outP_ok, outP_bad, outP_of, outP_bind, outP_nox, ok_bind, ok_of, of_some, open_none, ex, ev, evs, evo, evT, evI, dat, datX, datP, datAll, dOf, seqI, lockM, openM, boxK, freshE, retOk, asgT_nm, asgT_tup, asgT_lst, asgTs_nil, asgTs_cons, List.map_cons, List.map_nil, List.cons_append, List.nil_append, List.getElem?_cons_zero, List.getElem?_cons_succ, List.length_cons, List.length_nil, List.replicate, Option.bind_some, Option.map_some, Option.isSome_some, List.set_cons_zero, List.set_cons_succ, Nat.zero_add, Nat.reduceAdd, Nat.reduceSub, Nat.reduceLT, Nat.reduceLeDiff, Nat.reduceEqDiff, Int.reduceNeg, Int.reduceLT, Int.reduceLE, Int.reduceAdd, Int.reduceSub, decide_true, decide_false, Bool.and_self, Bool.and_true, Bool.true_and, Bool.and_false, Bool.false_and, Bool.or_true, Bool.true_or, Bool.or_false, Bool.false_or, Bool.not_true, Bool.not_false, ↓reduceIte, Bool.false_eq_true, truD, bop_addI, bop_subI, bop_mulI, bop_modI, bop_fdivI, bop_pow18, bop_addT, bop_addL, cop_eq, cop_ne, cop_ltI, cop_leI, cop_gtI, cop_geI, eqD_ii, eqD_ss, eqD_bb, fits_lit, recvOk, recvOk.isL, isMut, isDic, killR, List.foldl, List.append_assoc, List.length_append, Nat.add_assoc, dk_len, st_get0, st_get1, st_get2, st_set0, st_set1, st_set2, Option.some.injEq, exists_eq_left', exists_eq_left, SV.d.injEq, PyData.bool.injEq, SV.ref.injEq, reduceCtorEq, false_and, and_false, exists_false, or_false, false_or, true_and, and_true, true_implies, false_implies, forall_const, beq_self_eq_true, Bool.true_eq_false, flP_set, flP_asg, flP_par, flP_sti, flP_expr, flP_for, flP_whl, flP_rets, bop_pow6, bop_pow9, bfn_max2, bfn_min2, bfn_tupL, bfn_tupT, bfn_lenL, bfn_lenT, bfn_listL, bfn_listT, bfn_intB, bfn_intI, SV.d.injEq, PyData.str.injEq, PyData.int.injEq, es]
      exact ⟨rfl, ret_d0 (h _ _ ⟨by rw [List.length_take]; omega, by rw [List.length_take]; omega, fun x hx => hpm x (List.mem_of_mem_take hx)⟩ (hk3.mono (by omega)))⟩
end
end Pil

set_option Elab.async false
set_option linter.all false
set_option autoImplicit false
set_option maxRecDepth 100000
set_option maxHeartbeats 4000000
namespace Pil
open PySem PySem.Spec PyProof.Rows L2
section
variable {G : Nat → Option Fn} {n : Nat}
/-! ### walks over typed lists -/
theorem noxK {α : Type} {a : α} {m : Sto} : (Out.ok a m).nox = .ok a m := rfl
theorem compL_filT {α : Type} {f g : α → PyData} {p : α → Bool} {tst : PyData → Sto → Out Bool} {elt : PyData → Sto → Out PyData} {m : Sto} : ∀ {as : List α}, (∀ a ∈ as, tst (f a) m = .ok (p a) m ∧ (p a = true → elt (f a) m = .ok (g a) m)) → compL tst elt (as.map f) m = .ok ((as.filter p).map g) m
  | [], _ => rfl
  | a :: as, h => by
    obtain ⟨h1, h2⟩ := h a List.mem_cons_self
    have ih := compL_filT (as := as) fun x hx => h x (List.mem_cons_of_mem _ hx)
    show ((tst (f a) m).bind fun b m1 => match b with
      | true => (elt (f a) m1).bind fun y m2 => (compL tst elt (as.map f) m2).bind fun ys m3 => .ok (y :: ys) m3
      | false => compL tst elt (as.map f) m1) = _
    rw [h1]
    cases e : p a with
    | false =>
      rw [List.filter_cons_of_neg (by rw [e]; exact Bool.false_ne_true)]
      exact ih
    | true =>
      rw [List.filter_cons_of_pos e]
      show ((elt (f a) m).bind fun y m2 => (compL tst elt (as.map f) m2).bind fun ys m3 => .ok (y :: ys) m3) = _
      rw [h2 e]
      show ((compL tst elt (as.map f) m).bind fun ys m3 => .ok (g a :: ys) m3) = _
      rw [ih]; rfl
theorem compL_mapT {α : Type} {f g : α → PyData} {tst : PyData → Sto → Out Bool} {elt : PyData → Sto → Out PyData} {m : Sto} {as : List α} (h : ∀ a ∈ as, tst (f a) m = .ok true m ∧ elt (f a) m = .ok (g a) m) : compL tst elt (as.map f) m = .ok (as.map g) m := by
  have := compL_filT (f := f) (g := g) (p := fun _ => true) (as := as) fun a ha => ⟨(h a ha).1, fun _ => (h a ha).2⟩
  rw [List.filter_eq_self.mpr (fun _ _ => rfl)] at this
  exact this
theorem OutP.compM {α : Type} {f : α → PyData} (g : α → PyData) {tst : PyData → Sto → Out Bool} {elt : PyData → Sto → Out PyData} {m : Sto} {as : List α} {K : List PyData → Sto → Prop} (h : ∀ a ∈ as, tst (f a) m = .ok true m ∧ elt (f a) m = .ok (g a) m) (hK : K (as.map g) m) : OutP (compL tst elt (as.map f) m) K := ⟨_, _, compL_mapT h, hK⟩
theorem OutP.compF {α : Type} {f : α → PyData} (p : α → Bool) (g : α → PyData) {tst : PyData → Sto → Out Bool} {elt : PyData → Sto → Out PyData} {m : Sto} {as : List α} {K : List PyData → Sto → Prop} (h : ∀ a ∈ as, tst (f a) m = .ok (p a) m ∧ (p a = true → elt (f a) m = .ok (g a) m)) (hK : K ((as.filter p).map g) m) : OutP (compL tst elt (as.map f) m) K := ⟨_, _, compL_filT h, hK⟩
theorem FlP.forT {α : Type} {f : α → PyData} {step : PyData → Rho → Sto → Fl} {kill : List Nat} {as : List α} {r : Rho} {m : Sto} {N : Rho → Sto → Prop} {R : SV → Sto → Prop} (I : List α → Rho → Sto → Prop) (h0 : I [] r m) (hs : ∀ pre a post r m, as = pre ++ a :: post → I pre r m → FlP (step (f a) r m) (fun r' m' => I (pre ++ [a]) (killR kill r') m') R) (hd : ∀ r m, I as r m → N r m) : FlP (forL step kill (as.map f) r m) N R := by
  refine FlP.for0 (fun ys r m => ∃ pre post, as = pre ++ post ∧ ys = post.map f ∧ I pre r m) ⟨[], as, rfl, rfl, h0⟩ ?_ ?_
  · rintro y ys r m ⟨pre, post, e, e2, h⟩
    cases post with
    | nil => cases e2
    | cons a post =>
      cases e2
      exact (hs pre a post r m e h).imp (fun r' m' q => ⟨pre ++ [a], post, by rw [e, List.append_assoc]; rfl, rfl, q⟩) fun _ _ q => q
  · rintro r m ⟨pre, post, e, e2, h⟩
    cases post with
    | cons _ _ => cases e2
    | nil =>
      rw [List.append_nil] at e
      subst e
      exact hd r m h
/-! ### samples -/
structure SmpOk (names : List (List Nat)) (s : Smp) : Prop where
  pile : PileOk names s.1
  lo : 1 ≤ s.2
  hi : s.2 ≤ 1000000000
theorem samples_p (h6 : G 6 = some F6) (h7 : G 7 = some F7) (h9 : G 9 = some F9) (h10 : G 10 = some F10) (h11 : G 11 = some F11) {k : Deck} {B : Int} {rest : Sto} {K : SV → Sto → Prop} {names : List (List Nat)} {many most : Int} (hk : k.Ok B) (hB : B < 2 ^ 57) (hn : ∀ x ∈ names, NameOk x) (hn1 : 1 ≤ names.length) (hn2 : names.length ≤ 100) (hm0 : 0 ≤ many) (hm1 : many ≤ 100) (h0 : 1 ≤ most) (h1 : most ≤ 12)
    (h : ∀ (S : List Smp) (k' : Deck), S.length = many.toNat → (∀ s ∈ S, SmpOk names s) → k'.Ok (B + 1 + 42 * many) → K (.d (ssD S)) (k'.st ++ rest)) : OutP (callI G (n + 4) 11 [.ref 1, .d (.list (names.map nmD)), .d (.int many), .d (.int most)] (k.st ++ rest)) K := by
  refine call_deck h11 rfl rfl ?_
  rw [List.append_nil]
  have sm : small62 many = true := small62_of (by omega) (by omega)
  simp only [F11, ↓flP_retS, ↓outP_and, ↓outP_or, ↓outP_ite, ↓outP_cmp2, flP_of, flP_next, flP_ret, flP_bad, flP_nil, outP_ok, outP_bad, outP_of, outP_bind, outP_nox, ok_bind, ok_of, of_some, open_none, ex, ev, evs, evo, evT, evI, dat, datX, datP, datAll, dOf, seqI, lockM, openM, boxK, freshE, retOk, asgT_nm, asgT_tup, asgT_lst, asgTs_nil, asgTs_cons, List.map_cons, List.map_nil, List.cons_append, List.nil_append, List.getElem?_cons_zero, List.getElem?_cons_succ, List.length_cons, List.length_nil, List.replicate, Option.bind_some, Option.map_some, Option.isSome_some, List.set_cons_zero, List.set_cons_succ, Nat.zero_add, Nat.reduceAdd, Nat.reduceSub, Nat.reduceLT, Nat.reduceLeDiff, Nat.reduceEqDiff, Int.reduceNeg, Int.reduceLT, Int.reduceLE, Int.reduceAdd, Int.reduceSub, decide_true, decide_false, Bool.and_self, Bool.and_true, Bool.true_and, Bool.and_false, Bool.false_and, Bool.or_true, Bool.true_or, Bool.or_false, Bool.false_or, Bool.not_true, Bool.not_false, ↓reduceIte, Bool.false_eq_true, truD, bop_addI, bop_subI, bop_mulI, bop_modI, bop_fdivI, bop_pow18, bop_addT, bop_addL, cop_eq, cop_ne, cop_ltI, cop_leI, cop_gtI, cop_geI, eqD_ii, eqD_ss, eqD_bb, fits_lit, recvOk, recvOk.isL, isMut, isDic, killR, List.foldl, List.append_assoc, List.length_append, Nat.add_assoc, dk_len, st_get0, st_get1, st_get2, st_set0, st_set1, st_set2, Option.some.injEq, exists_eq_left', exists_eq_left, SV.d.injEq, PyData.bool.injEq, SV.ref.injEq, reduceCtorEq, false_and, and_false, exists_false, or_false, false_or, true_and, and_true, true_implies, false_implies, forall_const, beq_self_eq_true, Bool.true_eq_false, flP_set, flP_asg, flP_par, flP_sti, flP_expr, flP_for, flP_whl, flP_rets, bop_pow6, bop_pow9, bfn_max2, bfn_min2, bfn_tupL, bfn_tupT, bfn_lenL, bfn_lenT, bfn_listL, bfn_listT, bfn_intB, bfn_intI, SV.d.injEq, PyData.str.injEq, PyData.int.injEq]
  refine draw_p h6 hk (by omega) (by omega) (by omega) fun way k1 a1 b1 hk1 => ?_
  simp only [↓flP_retS, ↓outP_and, ↓outP_or, ↓outP_ite, ↓outP_cmp2, flP_of, flP_next, flP_ret, flP_bad, flP_nil, outP_ok, outP_bad, outP_of, outP_bind, outP_nox, ok_bind, ok_of, of_some, open_none, ex, ev, evs, evo, evT, evI, dat, datX, datP, datAll, dOf, seqI, lockM, openM, boxK, freshE, retOk, asgT_nm, asgT_tup, asgT_lst, asgTs_nil, asgTs_cons, List.map_cons, List.map_nil, List.cons_append, List.nil_append, List.getElem?_cons_zero, List.getElem?_cons_succ, List.length_cons, List.length_nil, List.replicate, Option.bind_some, Option.map_some, Option.isSome_some, List.set_cons_zero, List.set_cons_succ, Nat.zero_add, Nat.reduceAdd, Nat.reduceSub, Nat.reduceLT, Nat.reduceLeDiff, Nat.reduceEqDiff, Int.reduceNeg, Int.reduceLT, Int.reduceLE, Int.reduceAdd, Int.reduceSub, decide_true, decide_false, Bool.and_self, Bool.and_true, Bool.true_and, Bool.and_false, Bool.false_and, Bool.or_true, Bool.true_or, Bool.or_false, Bool.false_or, Bool.not_true, Bool.not_false, ↓reduceIte, Bool.false_eq_true, truD, bop_addI, bop_subI, bop_mulI, bop_modI, bop_fdivI, bop_pow18, bop_addT, bop_addL, cop_eq, cop_ne, cop_ltI, cop_leI, cop_gtI, cop_geI, eqD_ii, eqD_ss, eqD_bb, fits_lit, recvOk, recvOk.isL, isMut, isDic, killR, List.foldl, List.append_assoc, List.length_append, Nat.add_assoc, dk_len, st_get0, st_get1, st_get2, st_set0, st_set1, st_set2, Option.some.injEq, exists_eq_left', exists_eq_left, SV.d.injEq, PyData.bool.injEq, SV.ref.injEq, reduceCtorEq, false_and, and_false, exists_false, or_false, false_or, true_and, and_true, true_implies, false_implies, forall_const, beq_self_eq_true, Bool.true_eq_false, flP_set, flP_asg, flP_par, flP_sti, flP_expr, flP_for, flP_whl, flP_rets, bop_pow6, bop_pow9, bfn_max2, bfn_min2, bfn_tupL, bfn_tupT, bfn_lenL, bfn_lenT, bfn_listL, bfn_listT, bfn_intB, bfn_intI, SV.d.injEq, PyData.str.injEq, PyData.int.injEq, sm]
  refine FlP.forI (fun i r m => ∃ (S : List Smp) (k' : Deck), r = _ ∧ m = k'.st ++ (rest ++ [.lst (S.map smD)]) ∧ S.length = i ∧ (∀ s ∈ S, SmpOk names s) ∧ k'.Ok (B + 1 + 42 * i)) ⟨[], k1, rfl, rfl, rfl, (fun x hx => by cases hx), hk1.mono (by simp)⟩ ?_ ?_
  · rintro i x r m hx ⟨S, k2, rfl, rfl, hl, hS, hk2⟩
    obtain ⟨rfl, hi⟩ := rng_get hx
    simp only [↓flP_retS, ↓outP_and, ↓outP_or, ↓outP_ite, ↓outP_cmp2, flP_of, flP_next, flP_ret, flP_bad, flP_nil, outP_ok, outP_bad, outP_of, outP_bind, outP_nox, ok_bind, ok_of, of_some, open_none, ex, ev, evs, evo, evT, evI, dat, datX, datP, datAll, dOf, seqI, lockM, openM, boxK, freshE, retOk, asgT_nm, asgT_tup, asgT_lst, asgTs_nil, asgTs_cons, List.map_cons, List.map_nil, List.cons_append, List.nil_append, List.getElem?_cons_zero, List.getElem?_cons_succ, List.length_cons, List.length_nil, List.replicate, Option.bind_some, Option.map_some, Option.isSome_some, List.set_cons_zero, List.set_cons_succ, Nat.zero_add, Nat.reduceAdd, Nat.reduceSub, Nat.reduceLT, Nat.reduceLeDiff, Nat.reduceEqDiff, Int.reduceNeg, Int.reduceLT, Int.reduceLE, Int.reduceAdd, Int.reduceSub, decide_true, decide_false, Bool.and_self, Bool.and_true, Bool.true_and, Bool.and_false, Bool.false_and, Bool.or_true, Bool.true_or, Bool.or_false, Bool.false_or, Bool.not_true, Bool.not_false, ↓reduceIte, Bool.false_eq_true, truD, bop_addI, bop_subI, bop_mulI, bop_modI, bop_fdivI, bop_pow18, bop_addT, bop_addL, cop_eq, cop_ne, cop_ltI, cop_leI, cop_gtI, cop_geI, eqD_ii, eqD_ss, eqD_bb, fits_lit, recvOk, recvOk.isL, isMut, isDic, killR, List.foldl, List.append_assoc, List.length_append, Nat.add_assoc, dk_len, st_get0, st_get1, st_get2, st_set0, st_set1, st_set2, Option.some.injEq, exists_eq_left', exists_eq_left, SV.d.injEq, PyData.bool.injEq, SV.ref.injEq, reduceCtorEq, false_and, and_false, exists_false, or_false, false_or, true_and, and_true, true_implies, false_implies, forall_const, beq_self_eq_true, Bool.true_eq_false, flP_set, flP_asg, flP_par, flP_sti, flP_expr, flP_for, flP_whl, flP_rets, bop_pow6, bop_pow9, bfn_max2, bfn_min2, bfn_tupL, bfn_tupT, bfn_lenL, bfn_lenT, bfn_listL, bfn_listT, bfn_intB, bfn_intI, SV.d.injEq, PyData.str.injEq, PyData.int.injEq]
    refine OutP.compM (fun s => plD s.1) (fun s hs => ⟨?_, ?_⟩) ?_
    · simp only [↓flP_retS, ↓outP_and, ↓outP_or, ↓outP_ite, ↓outP_cmp2, flP_of, flP_next, flP_ret, flP_bad, flP_nil, outP_ok, outP_bad, outP_of, outP_bind, outP_nox, ok_bind, ok_of, of_some, open_none, ex, ev, evs, evo, evT, evI, dat, datX, datP, datAll, dOf, seqI, lockM, openM, boxK, freshE, retOk, asgT_nm, asgT_tup, asgT_lst, asgTs_nil, asgTs_cons, List.map_cons, List.map_nil, List.cons_append, List.nil_append, List.getElem?_cons_zero, List.getElem?_cons_succ, List.length_cons, List.length_nil, List.replicate, Option.bind_some, Option.map_some, Option.isSome_some, List.set_cons_zero, List.set_cons_succ, Nat.zero_add, Nat.reduceAdd, Nat.reduceSub, Nat.reduceLT, Nat.reduceLeDiff, Nat.reduceEqDiff, Int.reduceNeg, Int.reduceLT, Int.reduceLE, Int.reduceAdd, Int.reduceSub, decide_true, decide_false, Bool.and_self, Bool.and_true, Bool.true_and, Bool.and_false, Bool.false_and, Bool.or_true, Bool.true_or, Bool.or_false, Bool.false_or, Bool.not_true, Bool.not_false, ↓reduceIte, Bool.false_eq_true, truD, bop_addI, bop_subI, bop_mulI, bop_modI, bop_fdivI, bop_pow18, bop_addT, bop_addL, cop_eq, cop_ne, cop_ltI, cop_leI, cop_gtI, cop_geI, eqD_ii, eqD_ss, eqD_bb, fits_lit, recvOk, recvOk.isL, isMut, isDic, killR, List.foldl, List.append_assoc, List.length_append, Nat.add_assoc, dk_len, st_get0, st_get1, st_get2, st_set0, st_set1, st_set2, Option.some.injEq, exists_eq_left', exists_eq_left, SV.d.injEq, PyData.bool.injEq, SV.ref.injEq, reduceCtorEq, false_and, and_false, exists_false, or_false, false_or, true_and, and_true, true_implies, false_implies, forall_const, beq_self_eq_true, Bool.true_eq_false, flP_set, flP_asg, flP_par, flP_sti, flP_expr, flP_for, flP_whl, flP_rets, bop_pow6, bop_pow9, bfn_max2, bfn_min2, bfn_tupL, bfn_tupT, bfn_lenL, bfn_lenT, bfn_listL, bfn_listT, bfn_intB, bfn_intI, SV.d.injEq, PyData.str.injEq, PyData.int.injEq, smD, noxK]
    · simp only [↓flP_retS, ↓outP_and, ↓outP_or, ↓outP_ite, ↓outP_cmp2, flP_of, flP_next, flP_ret, flP_bad, flP_nil, outP_ok, outP_bad, outP_of, outP_bind, outP_nox, ok_bind, ok_of, of_some, open_none, ex, ev, evs, evo, evT, evI, dat, datX, datP, datAll, dOf, seqI, lockM, openM, boxK, freshE, retOk, asgT_nm, asgT_tup, asgT_lst, asgTs_nil, asgTs_cons, List.map_cons, List.map_nil, List.cons_append, List.nil_append, List.getElem?_cons_zero, List.getElem?_cons_succ, List.length_cons, List.length_nil, List.replicate, Option.bind_some, Option.map_some, Option.isSome_some, List.set_cons_zero, List.set_cons_succ, Nat.zero_add, Nat.reduceAdd, Nat.reduceSub, Nat.reduceLT, Nat.reduceLeDiff, Nat.reduceEqDiff, Int.reduceNeg, Int.reduceLT, Int.reduceLE, Int.reduceAdd, Int.reduceSub, decide_true, decide_false, Bool.and_self, Bool.and_true, Bool.true_and, Bool.and_false, Bool.false_and, Bool.or_true, Bool.true_or, Bool.or_false, Bool.false_or, Bool.not_true, Bool.not_false, ↓reduceIte, Bool.false_eq_true, truD, bop_addI, bop_subI, bop_mulI, bop_modI, bop_fdivI, bop_pow18, bop_addT, bop_addL, cop_eq, cop_ne, cop_ltI, cop_leI, cop_gtI, cop_geI, eqD_ii, eqD_ss, eqD_bb, fits_lit, recvOk, recvOk.isL, isMut, isDic, killR, List.foldl, List.append_assoc, List.length_append, Nat.add_assoc, dk_len, st_get0, st_get1, st_get2, st_set0, st_set1, st_set2, Option.some.injEq, exists_eq_left', exists_eq_left, SV.d.injEq, PyData.bool.injEq, SV.ref.injEq, reduceCtorEq, false_and, and_false, exists_false, or_false, false_or, true_and, and_true, true_implies, false_implies, forall_const, beq_self_eq_true, Bool.true_eq_false, flP_set, flP_asg, flP_par, flP_sti, flP_expr, flP_for, flP_whl, flP_rets, bop_pow6, bop_pow9, bfn_max2, bfn_min2, bfn_tupL, bfn_tupT, bfn_lenL, bfn_lenT, bfn_listL, bfn_listT, bfn_intB, bfn_intI, SV.d.injEq, PyData.str.injEq, PyData.int.injEq, smD, noxK]
    have hf : fitsN (S.map fun s => plD s.1).length = true := fits_lit (by rw [List.length_map]; omega)
    have em : (S.map fun s => plD s.1) = (S.map Prod.fst).map plD := by rw [List.map_map]; rfl
    simp only [↓flP_retS, ↓outP_and, ↓outP_or, ↓outP_ite, ↓outP_cmp2, flP_of, flP_next, flP_ret, flP_bad, flP_nil, outP_ok, outP_bad, outP_of, outP_bind, outP_nox, ok_bind, ok_of, of_some, open_none, ex, ev, evs, evo, evT, evI, dat, datX, datP, datAll, dOf, seqI, lockM, openM, boxK, freshE, retOk, asgT_nm, asgT_tup, asgT_lst, asgTs_nil, asgTs_cons, List.map_cons, List.map_nil, List.cons_append, List.nil_append, List.getElem?_cons_zero, List.getElem?_cons_succ, List.length_cons, List.length_nil, List.replicate, Option.bind_some, Option.map_some, Option.isSome_some, List.set_cons_zero, List.set_cons_succ, Nat.zero_add, Nat.reduceAdd, Nat.reduceSub, Nat.reduceLT, Nat.reduceLeDiff, Nat.reduceEqDiff, Int.reduceNeg, Int.reduceLT, Int.reduceLE, Int.reduceAdd, Int.reduceSub, decide_true, decide_false, Bool.and_self, Bool.and_true, Bool.true_and, Bool.and_false, Bool.false_and, Bool.or_true, Bool.true_or, Bool.or_false, Bool.false_or, Bool.not_true, Bool.not_false, ↓reduceIte, Bool.false_eq_true, truD, bop_addI, bop_subI, bop_mulI, bop_modI, bop_fdivI, bop_pow18, bop_addT, bop_addL, cop_eq, cop_ne, cop_ltI, cop_leI, cop_gtI, cop_geI, eqD_ii, eqD_ss, eqD_bb, fits_lit, recvOk, recvOk.isL, isMut, isDic, killR, List.foldl, List.append_assoc, List.length_append, Nat.add_assoc, dk_len, st_get0, st_get1, st_get2, st_set0, st_set1, st_set2, Option.some.injEq, exists_eq_left', exists_eq_left, SV.d.injEq, PyData.bool.injEq, SV.ref.injEq, reduceCtorEq, false_and, and_false, exists_false, or_false, false_or, true_and, and_true, true_implies, false_implies, forall_const, beq_self_eq_true, Bool.true_eq_false, flP_set, flP_asg, flP_par, flP_sti, flP_expr, flP_for, flP_whl, flP_rets, bop_pow6, bop_pow9, bfn_max2, bfn_min2, bfn_tupL, bfn_tupT, bfn_lenL, bfn_lenT, bfn_listL, bfn_listT, bfn_intB, bfn_intI, SV.d.injEq, PyData.str.injEq, PyData.int.injEq, hf]
    rw [em]
    refine pile_p (n := n) h6 h7 h10 hk2 (by omega) hn hn1 hn2 (by rw [List.length_map]; omega) (fun p hp => ?_) h0 h1 fun p k3 hp hk3 => ?_
    · obtain ⟨s, hs, rfl⟩ := List.mem_map.mp hp
      exact (hS s hs).pile
    simp only [↓flP_retS, ↓outP_and, ↓outP_or, ↓outP_ite, ↓outP_cmp2, flP_of, flP_next, flP_ret, flP_bad, flP_nil, outP_ok, outP_bad, outP_of, outP_bind, outP_nox, ok_bind, ok_of, of_some, open_none, ex, ev, evs, evo, evT, evI, dat, datX, datP, datAll, dOf, seqI, lockM, openM, boxK, freshE, retOk, asgT_nm, asgT_tup, asgT_lst, asgTs_nil, asgTs_cons, List.map_cons, List.map_nil, List.cons_append, List.nil_append, List.getElem?_cons_zero, List.getElem?_cons_succ, List.length_cons, List.length_nil, List.replicate, Option.bind_some, Option.map_some, Option.isSome_some, List.set_cons_zero, List.set_cons_succ, Nat.zero_add, Nat.reduceAdd, Nat.reduceSub, Nat.reduceLT, Nat.reduceLeDiff, Nat.reduceEqDiff, Int.reduceNeg, Int.reduceLT, Int.reduceLE, Int.reduceAdd, Int.reduceSub, decide_true, decide_false, Bool.and_self, Bool.and_true, Bool.true_and, Bool.and_false, Bool.false_and, Bool.or_true, Bool.true_or, Bool.or_false, Bool.false_or, Bool.not_true, Bool.not_false, ↓reduceIte, Bool.false_eq_true, truD, bop_addI, bop_subI, bop_mulI, bop_modI, bop_fdivI, bop_pow18, bop_addT, bop_addL, cop_eq, cop_ne, cop_ltI, cop_leI, cop_gtI, cop_geI, eqD_ii, eqD_ss, eqD_bb, fits_lit, recvOk, recvOk.isL, isMut, isDic, killR, List.foldl, List.append_assoc, List.length_append, Nat.add_assoc, dk_len, st_get0, st_get1, st_get2, st_set0, st_set1, st_set2, Option.some.injEq, exists_eq_left', exists_eq_left, SV.d.injEq, PyData.bool.injEq, SV.ref.injEq, reduceCtorEq, false_and, and_false, exists_false, or_false, false_or, true_and, and_true, true_implies, false_implies, forall_const, beq_self_eq_true, Bool.true_eq_false, flP_set, flP_asg, flP_par, flP_sti, flP_expr, flP_for, flP_whl, flP_rets, bop_pow6, bop_pow9, bfn_max2, bfn_min2, bfn_tupL, bfn_tupT, bfn_lenL, bfn_lenT, bfn_listL, bfn_listT, bfn_intB, bfn_intI, SV.d.injEq, PyData.str.injEq, PyData.int.injEq]
    refine count_p (n := n + 1) h6 h9 hk3 (by omega) fun c k4 c1 c2 hk4 => ?_
    have hmin : (if c < 1000000000 then c else 1000000000) = c := by split <;> omega
    have hap : mmu .append (S.map smD) [.tuple [plD p, .int c]] = some ((S ++ [(p, c)]).map smD, .none) := by
      rw [app_mmu (by rw [List.length_map]; omega), List.map_append]; rfl
    simp only [↓flP_retS, ↓outP_and, ↓outP_or, ↓outP_ite, ↓outP_cmp2, flP_of, flP_next, flP_ret, flP_bad, flP_nil, outP_ok, outP_bad, outP_of, outP_bind, outP_nox, ok_bind, ok_of, of_some, open_none, ex, ev, evs, evo, evT, evI, dat, datX, datP, datAll, dOf, seqI, lockM, openM, boxK, freshE, retOk, asgT_nm, asgT_tup, asgT_lst, asgTs_nil, asgTs_cons, List.map_cons, List.map_nil, List.cons_append, List.nil_append, List.getElem?_cons_zero, List.getElem?_cons_succ, List.length_cons, List.length_nil, List.replicate, Option.bind_some, Option.map_some, Option.isSome_some, List.set_cons_zero, List.set_cons_succ, Nat.zero_add, Nat.reduceAdd, Nat.reduceSub, Nat.reduceLT, Nat.reduceLeDiff, Nat.reduceEqDiff, Int.reduceNeg, Int.reduceLT, Int.reduceLE, Int.reduceAdd, Int.reduceSub, decide_true, decide_false, Bool.and_self, Bool.and_true, Bool.true_and, Bool.and_false, Bool.false_and, Bool.or_true, Bool.true_or, Bool.or_false, Bool.false_or, Bool.not_true, Bool.not_false, ↓reduceIte, Bool.false_eq_true, truD, bop_addI, bop_subI, bop_mulI, bop_modI, bop_fdivI, bop_pow18, bop_addT, bop_addL, cop_eq, cop_ne, cop_ltI, cop_leI, cop_gtI, cop_geI, eqD_ii, eqD_ss, eqD_bb, fits_lit, recvOk, recvOk.isL, isMut, isDic, killR, List.foldl, List.append_assoc, List.length_append, Nat.add_assoc, dk_len, st_get0, st_get1, st_get2, st_set0, st_set1, st_set2, Option.some.injEq, exists_eq_left', exists_eq_left, SV.d.injEq, PyData.bool.injEq, SV.ref.injEq, reduceCtorEq, false_and, and_false, exists_false, or_false, false_or, true_and, and_true, true_implies, false_implies, forall_const, beq_self_eq_true, Bool.true_eq_false, flP_set, flP_asg, flP_par, flP_sti, flP_expr, flP_for, flP_whl, flP_rets, bop_pow6, bop_pow9, bfn_max2, bfn_min2, bfn_tupL, bfn_tupT, bfn_lenL, bfn_lenT, bfn_listL, bfn_listT, bfn_intB, bfn_intI, SV.d.injEq, PyData.str.injEq, PyData.int.injEq, hmin, hap]
    refine ⟨S ++ [(p, c)], k4, rfl, by rw [List.length_append, hl]; rfl, fun s hs => ?_, hk4.mono (by omega)⟩
    rcases List.mem_append.mp hs with hs | hs
    · exact hS s hs
    · rw [List.mem_singleton] at hs; subst hs; exact ⟨hp, c1, c2⟩
  · rintro r m ⟨S, k2, rfl, rfl, hl, hS, hk2⟩
    rw [rng_len, Int.sub_zero] at hl hk2
    simp only [↓flP_retS, ↓outP_and, ↓outP_or, ↓outP_ite, ↓outP_cmp2, flP_of, flP_next, flP_ret, flP_bad, flP_nil, outP_ok, outP_bad, outP_of, outP_bind, outP_nox, ok_bind, ok_of, of_some, open_none, ex, ev, evs, evo, evT, evI, dat, datX, datP, datAll, dOf, seqI, lockM, openM, boxK, freshE, retOk, asgT_nm, asgT_tup, asgT_lst, asgTs_nil, asgTs_cons, List.map_cons, List.map_nil, List.cons_append, List.nil_append, List.getElem?_cons_zero, List.getElem?_cons_succ, List.length_cons, List.length_nil, List.replicate, Option.bind_some, Option.map_some, Option.isSome_some, List.set_cons_zero, List.set_cons_succ, Nat.zero_add, Nat.reduceAdd, Nat.reduceSub, Nat.reduceLT, Nat.reduceLeDiff, Nat.reduceEqDiff, Int.reduceNeg, Int.reduceLT, Int.reduceLE, Int.reduceAdd, Int.reduceSub, decide_true, decide_false, Bool.and_self, Bool.and_true, Bool.true_and, Bool.and_false, Bool.false_and, Bool.or_true, Bool.true_or, Bool.or_false, Bool.false_or, Bool.not_true, Bool.not_false, ↓reduceIte, Bool.false_eq_true, truD, bop_addI, bop_subI, bop_mulI, bop_modI, bop_fdivI, bop_pow18, bop_addT, bop_addL, cop_eq, cop_ne, cop_ltI, cop_leI, cop_gtI, cop_geI, eqD_ii, eqD_ss, eqD_bb, fits_lit, recvOk, recvOk.isL, isMut, isDic, killR, List.foldl, List.append_assoc, List.length_append, Nat.add_assoc, dk_len, st_get0, st_get1, st_get2, st_set0, st_set1, st_set2, Option.some.injEq, exists_eq_left', exists_eq_left, SV.d.injEq, PyData.bool.injEq, SV.ref.injEq, reduceCtorEq, false_and, and_false, exists_false, or_false, false_or, true_and, and_true, true_implies, false_implies, forall_const, beq_self_eq_true, Bool.true_eq_false, flP_set, flP_asg, flP_par, flP_sti, flP_expr, flP_for, flP_whl, flP_rets, bop_pow6, bop_pow9, bfn_max2, bfn_min2, bfn_tupL, bfn_tupT, bfn_lenL, bfn_lenT, bfn_listL, bfn_listT, bfn_intB, bfn_intI, SV.d.injEq, PyData.str.injEq, PyData.int.injEq]
    exact ret_d (h S k2 hl hS (hk2.mono (by omega)))
/-! ### forty names -/
def dg (i : Nat) : List Nat := if i < 10 then [48 + i] else [48 + i / 10, 48 + i % 10]
theorem str_dg : ∀ i, i < 40 → Str.ofString (toString ((i : Nat) : Int)) = tx (dg i) := by decide +kernel
theorem dg_ok : ∀ i, i < 40 → (dg i).length ≤ 2 ∧ ∀ x ∈ dg i, x ∈ SIGS := by decide +kernel
theorem bfn_dg {i : Nat} (h : i < 40) : bfn .str [.int (i : Nat)] = some (.str (tx (dg i))) := by
  show (if decide ((i : Int).natAbs.log2 < 1920) then some (PyData.str (Str.ofString (toString ((i : Nat) : Int)))) else none) = _
  rw [if_pos (decide_eq_true ?_), str_dg i h]
  have : (i : Int).natAbs = i := rfl
  rw [this]
  have := Nat.log2_le_self i
  omega
theorem forty_p (h6 : G 6 = some F6) (h12 : G 12 = some F12) {k : Deck} {B : Int} {rest : Sto} {K : SV → Sto → Prop} (hk : k.Ok B) (hB : B < 2 ^ 58)
    (h : ∀ (names : List (List Nat)) (k' : Deck), (∀ x ∈ names, NameOk x) → 2 ≤ names.length → names.length ≤ 40 → k'.Ok (B + 2) → K (.d (.list (names.map nmD))) (k'.st ++ rest)) : OutP (callI G (n + 2) 12 [.ref 1] (k.st ++ rest)) K := by
  refine call_deck h12 rfl rfl ?_
  rw [List.append_nil]
  have s40 : small62 40 = true := by decide
  simp only [F12, ↓flP_retS, ↓outP_and, ↓outP_or, ↓outP_ite, ↓outP_cmp2, flP_of, flP_next, flP_ret, flP_bad, flP_nil, outP_ok, outP_bad, outP_of, outP_bind, outP_nox, ok_bind, ok_of, of_some, open_none, ex, ev, evs, evo, evT, evI, dat, datX, datP, datAll, dOf, seqI, lockM, openM, boxK, freshE, retOk, asgT_nm, asgT_tup, asgT_lst, asgTs_nil, asgTs_cons, List.map_cons, List.map_nil, List.cons_append, List.nil_append, List.getElem?_cons_zero, List.getElem?_cons_succ, List.length_cons, List.length_nil, List.replicate, Option.bind_some, Option.map_some, Option.isSome_some, List.set_cons_zero, List.set_cons_succ, Nat.zero_add, Nat.reduceAdd, Nat.reduceSub, Nat.reduceLT, Nat.reduceLeDiff, Nat.reduceEqDiff, Int.reduceNeg, Int.reduceLT, Int.reduceLE, Int.reduceAdd, Int.reduceSub, decide_true, decide_false, Bool.and_self, Bool.and_true, Bool.true_and, Bool.and_false, Bool.false_and, Bool.or_true, Bool.true_or, Bool.or_false, Bool.false_or, Bool.not_true, Bool.not_false, ↓reduceIte, Bool.false_eq_true, truD, bop_addI, bop_subI, bop_mulI, bop_modI, bop_fdivI, bop_pow18, bop_addT, bop_addL, cop_eq, cop_ne, cop_ltI, cop_leI, cop_gtI, cop_geI, eqD_ii, eqD_ss, eqD_bb, fits_lit, recvOk, recvOk.isL, isMut, isDic, killR, List.foldl, List.append_assoc, List.length_append, Nat.add_assoc, dk_len, st_get0, st_get1, st_get2, st_set0, st_set1, st_set2, Option.some.injEq, exists_eq_left', exists_eq_left, SV.d.injEq, PyData.bool.injEq, SV.ref.injEq, reduceCtorEq, false_and, and_false, exists_false, or_false, false_or, true_and, and_true, true_implies, false_implies, forall_const, beq_self_eq_true, Bool.true_eq_false, flP_set, flP_asg, flP_par, flP_sti, flP_expr, flP_for, flP_whl, flP_rets, bop_pow6, bop_pow9, bfn_max2, bfn_min2, bfn_tupL, bfn_tupT, bfn_lenL, bfn_lenT, bfn_listL, bfn_listT, bfn_intB, bfn_intI, SV.d.injEq, PyData.str.injEq, PyData.int.injEq, let_tx]
  refine draw_p h6 hk (by omega) (by omega) (by omega) fun r1 k1 a1 b1 hk1 => ?_
  obtain ⟨c, hc, ec⟩ := ix_tx (l := LETS) a1 (by rw [let_len]; exact b1) (by decide)
  simp only [↓flP_retS, ↓outP_and, ↓outP_or, ↓outP_ite, ↓outP_cmp2, flP_of, flP_next, flP_ret, flP_bad, flP_nil, outP_ok, outP_bad, outP_of, outP_bind, outP_nox, ok_bind, ok_of, of_some, open_none, ex, ev, evs, evo, evT, evI, dat, datX, datP, datAll, dOf, seqI, lockM, openM, boxK, freshE, retOk, asgT_nm, asgT_tup, asgT_lst, asgTs_nil, asgTs_cons, List.map_cons, List.map_nil, List.cons_append, List.nil_append, List.getElem?_cons_zero, List.getElem?_cons_succ, List.length_cons, List.length_nil, List.replicate, Option.bind_some, Option.map_some, Option.isSome_some, List.set_cons_zero, List.set_cons_succ, Nat.zero_add, Nat.reduceAdd, Nat.reduceSub, Nat.reduceLT, Nat.reduceLeDiff, Nat.reduceEqDiff, Int.reduceNeg, Int.reduceLT, Int.reduceLE, Int.reduceAdd, Int.reduceSub, decide_true, decide_false, Bool.and_self, Bool.and_true, Bool.true_and, Bool.and_false, Bool.false_and, Bool.or_true, Bool.true_or, Bool.or_false, Bool.false_or, Bool.not_true, Bool.not_false, ↓reduceIte, Bool.false_eq_true, truD, bop_addI, bop_subI, bop_mulI, bop_modI, bop_fdivI, bop_pow18, bop_addT, bop_addL, cop_eq, cop_ne, cop_ltI, cop_leI, cop_gtI, cop_geI, eqD_ii, eqD_ss, eqD_bb, fits_lit, recvOk, recvOk.isL, isMut, isDic, killR, List.foldl, List.append_assoc, List.length_append, Nat.add_assoc, dk_len, st_get0, st_get1, st_get2, st_set0, st_set1, st_set2, Option.some.injEq, exists_eq_left', exists_eq_left, SV.d.injEq, PyData.bool.injEq, SV.ref.injEq, reduceCtorEq, false_and, and_false, exists_false, or_false, false_or, true_and, and_true, true_implies, false_implies, forall_const, beq_self_eq_true, Bool.true_eq_false, flP_set, flP_asg, flP_par, flP_sti, flP_expr, flP_for, flP_whl, flP_rets, bop_pow6, bop_pow9, bfn_max2, bfn_min2, bfn_tupL, bfn_tupT, bfn_lenL, bfn_lenT, bfn_listL, bfn_listT, bfn_intB, bfn_intI, SV.d.injEq, PyData.str.injEq, PyData.int.injEq, flP_ifs, ec]
  refine draw_p h6 hk1 (by omega) (by omega) (by omega) fun r2 k2 a2 b2 hk2 => ?_
  simp only [↓flP_retS, ↓outP_and, ↓outP_or, ↓outP_ite, ↓outP_cmp2, flP_of, flP_next, flP_ret, flP_bad, flP_nil, outP_ok, outP_bad, outP_of, outP_bind, outP_nox, ok_bind, ok_of, of_some, open_none, ex, ev, evs, evo, evT, evI, dat, datX, datP, datAll, dOf, seqI, lockM, openM, boxK, freshE, retOk, asgT_nm, asgT_tup, asgT_lst, asgTs_nil, asgTs_cons, List.map_cons, List.map_nil, List.cons_append, List.nil_append, List.getElem?_cons_zero, List.getElem?_cons_succ, List.length_cons, List.length_nil, List.replicate, Option.bind_some, Option.map_some, Option.isSome_some, List.set_cons_zero, List.set_cons_succ, Nat.zero_add, Nat.reduceAdd, Nat.reduceSub, Nat.reduceLT, Nat.reduceLeDiff, Nat.reduceEqDiff, Int.reduceNeg, Int.reduceLT, Int.reduceLE, Int.reduceAdd, Int.reduceSub, decide_true, decide_false, Bool.and_self, Bool.and_true, Bool.true_and, Bool.and_false, Bool.false_and, Bool.or_true, Bool.true_or, Bool.or_false, Bool.false_or, Bool.not_true, Bool.not_false, ↓reduceIte, Bool.false_eq_true, truD, bop_addI, bop_subI, bop_mulI, bop_modI, bop_fdivI, bop_pow18, bop_addT, bop_addL, cop_eq, cop_ne, cop_ltI, cop_leI, cop_gtI, cop_geI, eqD_ii, eqD_ss, eqD_bb, fits_lit, recvOk, recvOk.isL, isMut, isDic, killR, List.foldl, List.append_assoc, List.length_append, Nat.add_assoc, dk_len, st_get0, st_get1, st_get2, st_set0, st_set1, st_set2, Option.some.injEq, exists_eq_left', exists_eq_left, SV.d.injEq, PyData.bool.injEq, SV.ref.injEq, reduceCtorEq, false_and, and_false, exists_false, or_false, false_or, true_and, and_true, true_implies, false_implies, forall_const, beq_self_eq_true, Bool.true_eq_false, flP_set, flP_asg, flP_par, flP_sti, flP_expr, flP_for, flP_whl, flP_rets, bop_pow6, bop_pow9, bfn_max2, bfn_min2, bfn_tupL, bfn_tupT, bfn_lenL, bfn_lenT, bfn_listL, bfn_listT, bfn_intB, bfn_intI, SV.d.injEq, PyData.str.injEq, PyData.int.injEq, flP_ifs]
  refine ⟨fun _ => ?_, fun _ => ?_⟩
  · have e : [PyData.str "a", .str "b", .str "ab", .str "ba", .str "aba", .str "bab"] = [[97], [98], [97, 98], [98, 97], [97, 98, 97], [98, 97, 98]].map nmD := by
      show _ = [nmD [97], nmD [98], nmD [97, 98], nmD [98, 97], nmD [97, 98, 97], nmD [98, 97, 98]]
      unfold nmD
      congr 1
    rw [e]
    exact ret_d0 (h _ k2 (fun x hx => name_of (List.all_eq_true.mp (show [[97], [98], [97, 98], [98, 97], [97, 98, 97], [98, 97, 98]].all nameB = true by decide +kernel) x hx)) (by decide) (by decide) (hk2.mono (by omega)))
  · simp only [↓flP_retS, ↓outP_and, ↓outP_or, ↓outP_ite, ↓outP_cmp2, flP_of, flP_next, flP_ret, flP_bad, flP_nil, outP_ok, outP_bad, outP_of, outP_bind, outP_nox, ok_bind, ok_of, of_some, open_none, ex, ev, evs, evo, evT, evI, dat, datX, datP, datAll, dOf, seqI, lockM, openM, boxK, freshE, retOk, asgT_nm, asgT_tup, asgT_lst, asgTs_nil, asgTs_cons, List.map_cons, List.map_nil, List.cons_append, List.nil_append, List.getElem?_cons_zero, List.getElem?_cons_succ, List.length_cons, List.length_nil, List.replicate, Option.bind_some, Option.map_some, Option.isSome_some, List.set_cons_zero, List.set_cons_succ, Nat.zero_add, Nat.reduceAdd, Nat.reduceSub, Nat.reduceLT, Nat.reduceLeDiff, Nat.reduceEqDiff, Int.reduceNeg, Int.reduceLT, Int.reduceLE, Int.reduceAdd, Int.reduceSub, decide_true, decide_false, Bool.and_self, Bool.and_true, Bool.true_and, Bool.and_false, Bool.false_and, Bool.or_true, Bool.true_or, Bool.or_false, Bool.false_or, Bool.not_true, Bool.not_false, ↓reduceIte, Bool.false_eq_true, truD, bop_addI, bop_subI, bop_mulI, bop_modI, bop_fdivI, bop_pow18, bop_addT, bop_addL, cop_eq, cop_ne, cop_ltI, cop_leI, cop_gtI, cop_geI, eqD_ii, eqD_ss, eqD_bb, fits_lit, recvOk, recvOk.isL, isMut, isDic, killR, List.foldl, List.append_assoc, List.length_append, Nat.add_assoc, dk_len, st_get0, st_get1, st_get2, st_set0, st_set1, st_set2, Option.some.injEq, exists_eq_left', exists_eq_left, SV.d.injEq, PyData.bool.injEq, SV.ref.injEq, reduceCtorEq, false_and, and_false, exists_false, or_false, false_or, true_and, and_true, true_implies, false_implies, forall_const, beq_self_eq_true, Bool.true_eq_false, flP_set, flP_asg, flP_par, flP_sti, flP_expr, flP_for, flP_whl, flP_rets, bop_pow6, bop_pow9, bfn_max2, bfn_min2, bfn_tupL, bfn_tupT, bfn_lenL, bfn_lenT, bfn_listL, bfn_listT, bfn_intB, bfn_intI, SV.d.injEq, PyData.str.injEq, PyData.int.injEq, flP_ifs, s40]
    have er : rngD 0 40 = (List.range 40).map fun i => PyData.int (i : Nat) := by
      unfold rngD
      show (List.range 40).map _ = _
      exact List.map_congr_left fun i _ => by rw [Int.zero_add]
    rw [er]
    refine OutP.compM (fun i => nmD (c :: dg i)) (fun i hi => ⟨?_, ?_⟩) ?_
    · simp only [↓flP_retS, ↓outP_and, ↓outP_or, ↓outP_ite, ↓outP_cmp2, flP_of, flP_next, flP_ret, flP_bad, flP_nil, outP_ok, outP_bad, outP_of, outP_bind, outP_nox, ok_bind, ok_of, of_some, open_none, ex, ev, evs, evo, evT, evI, dat, datX, datP, datAll, dOf, seqI, lockM, openM, boxK, freshE, retOk, asgT_nm, asgT_tup, asgT_lst, asgTs_nil, asgTs_cons, List.map_cons, List.map_nil, List.cons_append, List.nil_append, List.getElem?_cons_zero, List.getElem?_cons_succ, List.length_cons, List.length_nil, List.replicate, Option.bind_some, Option.map_some, Option.isSome_some, List.set_cons_zero, List.set_cons_succ, Nat.zero_add, Nat.reduceAdd, Nat.reduceSub, Nat.reduceLT, Nat.reduceLeDiff, Nat.reduceEqDiff, Int.reduceNeg, Int.reduceLT, Int.reduceLE, Int.reduceAdd, Int.reduceSub, decide_true, decide_false, Bool.and_self, Bool.and_true, Bool.true_and, Bool.and_false, Bool.false_and, Bool.or_true, Bool.true_or, Bool.or_false, Bool.false_or, Bool.not_true, Bool.not_false, ↓reduceIte, Bool.false_eq_true, truD, bop_addI, bop_subI, bop_mulI, bop_modI, bop_fdivI, bop_pow18, bop_addT, bop_addL, cop_eq, cop_ne, cop_ltI, cop_leI, cop_gtI, cop_geI, eqD_ii, eqD_ss, eqD_bb, fits_lit, recvOk, recvOk.isL, isMut, isDic, killR, List.foldl, List.append_assoc, List.length_append, Nat.add_assoc, dk_len, st_get0, st_get1, st_get2, st_set0, st_set1, st_set2, Option.some.injEq, exists_eq_left', exists_eq_left, SV.d.injEq, PyData.bool.injEq, SV.ref.injEq, reduceCtorEq, false_and, and_false, exists_false, or_false, false_or, true_and, and_true, true_implies, false_implies, forall_const, beq_self_eq_true, Bool.true_eq_false, flP_set, flP_asg, flP_par, flP_sti, flP_expr, flP_for, flP_whl, flP_rets, bop_pow6, bop_pow9, bfn_max2, bfn_min2, bfn_tupL, bfn_tupT, bfn_lenL, bfn_lenT, bfn_listL, bfn_listT, bfn_intB, bfn_intI, SV.d.injEq, PyData.str.injEq, PyData.int.injEq, noxK]
    · have hb := bfn_dg (List.mem_range.mp hi)
      have ha : bop .add (.str (tx [c])) (.str (tx (dg i))) = some (.str (tx (c :: dg i))) := bop_tx (by have := (dg_ok i (List.mem_range.mp hi)).1; show 1 + _ ≤ _; omega)
      simp only [↓flP_retS, ↓outP_and, ↓outP_or, ↓outP_ite, ↓outP_cmp2, flP_of, flP_next, flP_ret, flP_bad, flP_nil, outP_ok, outP_bad, outP_of, outP_bind, outP_nox, ok_bind, ok_of, of_some, open_none, ex, ev, evs, evo, evT, evI, dat, datX, datP, datAll, dOf, seqI, lockM, openM, boxK, freshE, retOk, asgT_nm, asgT_tup, asgT_lst, asgTs_nil, asgTs_cons, List.map_cons, List.map_nil, List.cons_append, List.nil_append, List.getElem?_cons_zero, List.getElem?_cons_succ, List.length_cons, List.length_nil, List.replicate, Option.bind_some, Option.map_some, Option.isSome_some, List.set_cons_zero, List.set_cons_succ, Nat.zero_add, Nat.reduceAdd, Nat.reduceSub, Nat.reduceLT, Nat.reduceLeDiff, Nat.reduceEqDiff, Int.reduceNeg, Int.reduceLT, Int.reduceLE, Int.reduceAdd, Int.reduceSub, decide_true, decide_false, Bool.and_self, Bool.and_true, Bool.true_and, Bool.and_false, Bool.false_and, Bool.or_true, Bool.true_or, Bool.or_false, Bool.false_or, Bool.not_true, Bool.not_false, ↓reduceIte, Bool.false_eq_true, truD, bop_addI, bop_subI, bop_mulI, bop_modI, bop_fdivI, bop_pow18, bop_addT, bop_addL, cop_eq, cop_ne, cop_ltI, cop_leI, cop_gtI, cop_geI, eqD_ii, eqD_ss, eqD_bb, fits_lit, recvOk, recvOk.isL, isMut, isDic, killR, List.foldl, List.append_assoc, List.length_append, Nat.add_assoc, dk_len, st_get0, st_get1, st_get2, st_set0, st_set1, st_set2, Option.some.injEq, exists_eq_left', exists_eq_left, SV.d.injEq, PyData.bool.injEq, SV.ref.injEq, reduceCtorEq, false_and, and_false, exists_false, or_false, false_or, true_and, and_true, true_implies, false_implies, forall_const, beq_self_eq_true, Bool.true_eq_false, flP_set, flP_asg, flP_par, flP_sti, flP_expr, flP_for, flP_whl, flP_rets, bop_pow6, bop_pow9, bfn_max2, bfn_min2, bfn_tupL, bfn_tupT, bfn_lenL, bfn_lenT, bfn_listL, bfn_listT, bfn_intB, bfn_intI, SV.d.injEq, PyData.str.injEq, PyData.int.injEq, noxK, hb, ha, nmD]
    have hf : fitsN ((List.range 40).map fun i => nmD (c :: dg i)).length = true := fits_lit (by rw [List.length_map]; decide)
    have em : ((List.range 40).map fun i => nmD (c :: dg i)) = ((List.range 40).map fun i => c :: dg i).map nmD := by rw [List.map_map]; rfl
    simp only [↓flP_retS, ↓outP_and, ↓outP_or, ↓outP_ite, ↓outP_cmp2, flP_of, flP_next, flP_ret, flP_bad, flP_nil, outP_ok, outP_bad, outP_of, outP_bind, outP_nox, ok_bind, ok_of, of_some, open_none, ex, ev, evs, evo, evT, evI, dat, datX, datP, datAll, dOf, seqI, lockM, openM, boxK, freshE, retOk, asgT_nm, asgT_tup, asgT_lst, asgTs_nil, asgTs_cons, List.map_cons, List.map_nil, List.cons_append, List.nil_append, List.getElem?_cons_zero, List.getElem?_cons_succ, List.length_cons, List.length_nil, List.replicate, Option.bind_some, Option.map_some, Option.isSome_some, List.set_cons_zero, List.set_cons_succ, Nat.zero_add, Nat.reduceAdd, Nat.reduceSub, Nat.reduceLT, Nat.reduceLeDiff, Nat.reduceEqDiff, Int.reduceNeg, Int.reduceLT, Int.reduceLE, Int.reduceAdd, Int.reduceSub, decide_true, decide_false, Bool.and_self, Bool.and_true, Bool.true_and, Bool.and_false, Bool.false_and, Bool.or_true, Bool.true_or, Bool.or_false, Bool.false_or, Bool.not_true, Bool.not_false, ↓reduceIte, Bool.false_eq_true, truD, bop_addI, bop_subI, bop_mulI, bop_modI, bop_fdivI, bop_pow18, bop_addT, bop_addL, cop_eq, cop_ne, cop_ltI, cop_leI, cop_gtI, cop_geI, eqD_ii, eqD_ss, eqD_bb, fits_lit, recvOk, recvOk.isL, isMut, isDic, killR, List.foldl, List.append_assoc, List.length_append, Nat.add_assoc, dk_len, st_get0, st_get1, st_get2, st_set0, st_set1, st_set2, Option.some.injEq, exists_eq_left', exists_eq_left, SV.d.injEq, PyData.bool.injEq, SV.ref.injEq, reduceCtorEq, false_and, and_false, exists_false, or_false, false_or, true_and, and_true, true_implies, false_implies, forall_const, beq_self_eq_true, Bool.true_eq_false, flP_set, flP_asg, flP_par, flP_sti, flP_expr, flP_for, flP_whl, flP_rets, bop_pow6, bop_pow9, bfn_max2, bfn_min2, bfn_tupL, bfn_tupT, bfn_lenL, bfn_lenT, bfn_listL, bfn_listT, bfn_intB, bfn_intI, SV.d.injEq, PyData.str.injEq, PyData.int.injEq, hf]
    rw [em]
    refine ret_d0 (h _ k2 (fun x hx => ?_) (by rw [List.length_map, List.length_range]; decide) (by rw [List.length_map, List.length_range]; decide) (hk2.mono (by omega)))
    obtain ⟨i, hi, rfl⟩ := List.mem_map.mp hx
    obtain ⟨q1, q2⟩ := dg_ok i (List.mem_range.mp hi)
    exact ⟨by rw [List.length_cons]; omega, c, _, rfl, hc, q2⟩
/-! ### the world -/
structure WorldOk (names : List (List Nat)) (S : List Smp) : Prop where
  nm : ∀ x ∈ names, NameOk x
  n1 : 1 ≤ names.length
  n2 : names.length ≤ 40
  len : S.length ≤ 40
  smp : ∀ s ∈ S, SmpOk names s
theorem ix_two {a b : PyData} {t : Bool} : ixD (.list [a, b]) (.int (if t = true then 1 else 0)) = some (if t = true then b else a) := by cases t <;> rfl
theorem world_p (h6 : G 6 = some F6) (h7 : G 7 = some F7) (h8 : G 8 = some F8) (h9 : G 9 = some F9) (h10 : G 10 = some F10) (h11 : G 11 = some F11) (h12 : G 12 = some F12) (h13 : G 13 = some F13) {k : Deck} {B : Int} {rest : Sto} {K : SV → Sto → Prop} (hk : k.Ok B) (hB : B < 2 ^ 50)
    (h : ∀ (names : List (List Nat)) (S : List Smp) (k' : Deck), WorldOk names S → 2 ≤ names.length → k'.Ok (B + 2000) → K (.d (.tuple [.list (names.map nmD), ssD S])) (k'.st ++ rest)) : OutP (callI G (n + 5) 13 [.ref 1] (k.st ++ rest)) K := by
  refine call_deck h13 rfl rfl ?_
  rw [List.append_nil]
  simp only [F13, ↓flP_retS, ↓outP_and, ↓outP_or, ↓outP_ite, ↓outP_cmp2, flP_of, flP_next, flP_ret, flP_bad, flP_nil, outP_ok, outP_bad, outP_of, outP_bind, outP_nox, ok_bind, ok_of, of_some, open_none, ex, ev, evs, evo, evT, evI, dat, datX, datP, datAll, dOf, seqI, lockM, openM, boxK, freshE, retOk, asgT_nm, asgT_tup, asgT_lst, asgTs_nil, asgTs_cons, List.map_cons, List.map_nil, List.cons_append, List.nil_append, List.getElem?_cons_zero, List.getElem?_cons_succ, List.length_cons, List.length_nil, List.replicate, Option.bind_some, Option.map_some, Option.isSome_some, List.set_cons_zero, List.set_cons_succ, Nat.zero_add, Nat.reduceAdd, Nat.reduceSub, Nat.reduceLT, Nat.reduceLeDiff, Nat.reduceEqDiff, Int.reduceNeg, Int.reduceLT, Int.reduceLE, Int.reduceAdd, Int.reduceSub, decide_true, decide_false, Bool.and_self, Bool.and_true, Bool.true_and, Bool.and_false, Bool.false_and, Bool.or_true, Bool.true_or, Bool.or_false, Bool.false_or, Bool.not_true, Bool.not_false, ↓reduceIte, Bool.false_eq_true, truD, bop_addI, bop_subI, bop_mulI, bop_modI, bop_fdivI, bop_pow18, bop_addT, bop_addL, cop_eq, cop_ne, cop_ltI, cop_leI, cop_gtI, cop_geI, eqD_ii, eqD_ss, eqD_bb, fits_lit, recvOk, recvOk.isL, isMut, isDic, killR, List.foldl, List.append_assoc, List.length_append, Nat.add_assoc, dk_len, st_get0, st_get1, st_get2, st_set0, st_set1, st_set2, Option.some.injEq, exists_eq_left', exists_eq_left, SV.d.injEq, PyData.bool.injEq, SV.ref.injEq, reduceCtorEq, false_and, and_false, exists_false, or_false, false_or, true_and, and_true, true_implies, false_implies, forall_const, beq_self_eq_true, Bool.true_eq_false, flP_set, flP_asg, flP_par, flP_sti, flP_expr, flP_for, flP_whl, flP_rets, bop_pow6, bop_pow9, bfn_max2, bfn_min2, bfn_tupL, bfn_tupT, bfn_lenL, bfn_lenT, bfn_listL, bfn_listT, bfn_intB, bfn_intI, SV.d.injEq, PyData.str.injEq, PyData.int.injEq]
  refine draw_p h6 hk (by omega) (by omega) (by omega) fun r1 k1 a1 b1 hk1 => ?_
  simp only [↓flP_retS, ↓outP_and, ↓outP_or, ↓outP_ite, ↓outP_cmp2, flP_of, flP_next, flP_ret, flP_bad, flP_nil, outP_ok, outP_bad, outP_of, outP_bind, outP_nox, ok_bind, ok_of, of_some, open_none, ex, ev, evs, evo, evT, evI, dat, datX, datP, datAll, dOf, seqI, lockM, openM, boxK, freshE, retOk, asgT_nm, asgT_tup, asgT_lst, asgTs_nil, asgTs_cons, List.map_cons, List.map_nil, List.cons_append, List.nil_append, List.getElem?_cons_zero, List.getElem?_cons_succ, List.length_cons, List.length_nil, List.replicate, Option.bind_some, Option.map_some, Option.isSome_some, List.set_cons_zero, List.set_cons_succ, Nat.zero_add, Nat.reduceAdd, Nat.reduceSub, Nat.reduceLT, Nat.reduceLeDiff, Nat.reduceEqDiff, Int.reduceNeg, Int.reduceLT, Int.reduceLE, Int.reduceAdd, Int.reduceSub, decide_true, decide_false, Bool.and_self, Bool.and_true, Bool.true_and, Bool.and_false, Bool.false_and, Bool.or_true, Bool.true_or, Bool.or_false, Bool.false_or, Bool.not_true, Bool.not_false, ↓reduceIte, Bool.false_eq_true, truD, bop_addI, bop_subI, bop_mulI, bop_modI, bop_fdivI, bop_pow18, bop_addT, bop_addL, cop_eq, cop_ne, cop_ltI, cop_leI, cop_gtI, cop_geI, eqD_ii, eqD_ss, eqD_bb, fits_lit, recvOk, recvOk.isL, isMut, isDic, killR, List.foldl, List.append_assoc, List.length_append, Nat.add_assoc, dk_len, st_get0, st_get1, st_get2, st_set0, st_set1, st_set2, Option.some.injEq, exists_eq_left', exists_eq_left, SV.d.injEq, PyData.bool.injEq, SV.ref.injEq, reduceCtorEq, false_and, and_false, exists_false, or_false, false_or, true_and, and_true, true_implies, false_implies, forall_const, beq_self_eq_true, Bool.true_eq_false, flP_set, flP_asg, flP_par, flP_sti, flP_expr, flP_for, flP_whl, flP_rets, bop_pow6, bop_pow9, bfn_max2, bfn_min2, bfn_tupL, bfn_tupT, bfn_lenL, bfn_lenT, bfn_listL, bfn_listT, bfn_intB, bfn_intI, SV.d.injEq, PyData.str.injEq, PyData.int.injEq]
  refine draw_p h6 hk1 (by omega) (by omega) (by omega) fun r2 k2 a2 b2 hk2 => ?_
  simp only [↓flP_retS, ↓outP_and, ↓outP_or, ↓outP_ite, ↓outP_cmp2, flP_of, flP_next, flP_ret, flP_bad, flP_nil, outP_ok, outP_bad, outP_of, outP_bind, outP_nox, ok_bind, ok_of, of_some, open_none, ex, ev, evs, evo, evT, evI, dat, datX, datP, datAll, dOf, seqI, lockM, openM, boxK, freshE, retOk, asgT_nm, asgT_tup, asgT_lst, asgTs_nil, asgTs_cons, List.map_cons, List.map_nil, List.cons_append, List.nil_append, List.getElem?_cons_zero, List.getElem?_cons_succ, List.length_cons, List.length_nil, List.replicate, Option.bind_some, Option.map_some, Option.isSome_some, List.set_cons_zero, List.set_cons_succ, Nat.zero_add, Nat.reduceAdd, Nat.reduceSub, Nat.reduceLT, Nat.reduceLeDiff, Nat.reduceEqDiff, Int.reduceNeg, Int.reduceLT, Int.reduceLE, Int.reduceAdd, Int.reduceSub, decide_true, decide_false, Bool.and_self, Bool.and_true, Bool.true_and, Bool.and_false, Bool.false_and, Bool.or_true, Bool.true_or, Bool.or_false, Bool.false_or, Bool.not_true, Bool.not_false, ↓reduceIte, Bool.false_eq_true, truD, bop_addI, bop_subI, bop_mulI, bop_modI, bop_fdivI, bop_pow18, bop_addT, bop_addL, cop_eq, cop_ne, cop_ltI, cop_leI, cop_gtI, cop_geI, eqD_ii, eqD_ss, eqD_bb, fits_lit, recvOk, recvOk.isL, isMut, isDic, killR, List.foldl, List.append_assoc, List.length_append, Nat.add_assoc, dk_len, st_get0, st_get1, st_get2, st_set0, st_set1, st_set2, Option.some.injEq, exists_eq_left', exists_eq_left, SV.d.injEq, PyData.bool.injEq, SV.ref.injEq, reduceCtorEq, false_and, and_false, exists_false, or_false, false_or, true_and, and_true, true_implies, false_implies, forall_const, beq_self_eq_true, Bool.true_eq_false, flP_set, flP_asg, flP_par, flP_sti, flP_expr, flP_for, flP_whl, flP_rets, bop_pow6, bop_pow9, bfn_max2, bfn_min2, bfn_tupL, bfn_tupT, bfn_lenL, bfn_lenT, bfn_listL, bfn_listT, bfn_intB, bfn_intI, SV.d.injEq, PyData.str.injEq, PyData.int.injEq]
  refine draw_p h6 hk2 (by omega) (by omega) (by omega) fun r3 k3 a3 b3 hk3 => ?_
  simp only [↓flP_retS, ↓outP_and, ↓outP_or, ↓outP_ite, ↓outP_cmp2, flP_of, flP_next, flP_ret, flP_bad, flP_nil, outP_ok, outP_bad, outP_of, outP_bind, outP_nox, ok_bind, ok_of, of_some, open_none, ex, ev, evs, evo, evT, evI, dat, datX, datP, datAll, dOf, seqI, lockM, openM, boxK, freshE, retOk, asgT_nm, asgT_tup, asgT_lst, asgTs_nil, asgTs_cons, List.map_cons, List.map_nil, List.cons_append, List.nil_append, List.getElem?_cons_zero, List.getElem?_cons_succ, List.length_cons, List.length_nil, List.replicate, Option.bind_some, Option.map_some, Option.isSome_some, List.set_cons_zero, List.set_cons_succ, Nat.zero_add, Nat.reduceAdd, Nat.reduceSub, Nat.reduceLT, Nat.reduceLeDiff, Nat.reduceEqDiff, Int.reduceNeg, Int.reduceLT, Int.reduceLE, Int.reduceAdd, Int.reduceSub, decide_true, decide_false, Bool.and_self, Bool.and_true, Bool.true_and, Bool.and_false, Bool.false_and, Bool.or_true, Bool.true_or, Bool.or_false, Bool.false_or, Bool.not_true, Bool.not_false, ↓reduceIte, Bool.false_eq_true, truD, bop_addI, bop_subI, bop_mulI, bop_modI, bop_fdivI, bop_pow18, bop_addT, bop_addL, cop_eq, cop_ne, cop_ltI, cop_leI, cop_gtI, cop_geI, eqD_ii, eqD_ss, eqD_bb, fits_lit, recvOk, recvOk.isL, isMut, isDic, killR, List.foldl, List.append_assoc, List.length_append, Nat.add_assoc, dk_len, st_get0, st_get1, st_get2, st_set0, st_set1, st_set2, Option.some.injEq, exists_eq_left', exists_eq_left, SV.d.injEq, PyData.bool.injEq, SV.ref.injEq, reduceCtorEq, false_and, and_false, exists_false, or_false, false_or, true_and, and_true, true_implies, false_implies, forall_const, beq_self_eq_true, Bool.true_eq_false, flP_set, flP_asg, flP_par, flP_sti, flP_expr, flP_for, flP_whl, flP_rets, bop_pow6, bop_pow9, bfn_max2, bfn_min2, bfn_tupL, bfn_tupT, bfn_lenL, bfn_lenT, bfn_listL, bfn_listT, bfn_intB, bfn_intI, SV.d.injEq, PyData.str.injEq, PyData.int.injEq, ix_two]
  obtain ⟨mn, emn, m1, m2⟩ : ∃ mn : Int, (if (r1 == 5) = true then PyData.int 10 else PyData.int (2 + r3)) = .int mn ∧ 2 ≤ mn ∧ mn ≤ 10 := by
    by_cases q : (r1 == 5) = true
    · exact ⟨10, by rw [if_pos q], by omega, by omega⟩
    · exact ⟨2 + r3, by rw [if_neg q], by omega, by omega⟩
  rw [emn]
  refine names_p (n := n + 2) h6 h8 hk3 (by omega) (by omega) (by omega) fun xs k4 hl hx hk4 => ?_
  obtain ⟨ls, rfl, hls⟩ := names_l hx
  rw [List.length_map] at hl
  refine FlP.ifj (fun r m => ∃ (names : List (List Nat)) (k' : Deck), r = [some (.ref 1), some (.d (.bool (r1 == 5))), some (.d (.bool (r2 == 3))), some (.d (.list (names.map nmD))), none] ∧ m = k'.st ++ rest ∧ (∀ x ∈ names, NameOk x) ∧ 2 ≤ names.length ∧ names.length ≤ 40 ∧ k'.Ok (B + 30)) ?_ ?_
  · simp only [↓flP_retS, ↓outP_and, ↓outP_or, ↓outP_ite, ↓outP_cmp2, flP_of, flP_next, flP_ret, flP_bad, flP_nil, outP_ok, outP_bad, outP_of, outP_bind, outP_nox, ok_bind, ok_of, of_some, open_none, ex, ev, evs, evo, evT, evI, dat, datX, datP, datAll, dOf, seqI, lockM, openM, boxK, freshE, retOk, asgT_nm, asgT_tup, asgT_lst, asgTs_nil, asgTs_cons, List.map_cons, List.map_nil, List.cons_append, List.nil_append, List.getElem?_cons_zero, List.getElem?_cons_succ, List.length_cons, List.length_nil, List.replicate, Option.bind_some, Option.map_some, Option.isSome_some, List.set_cons_zero, List.set_cons_succ, Nat.zero_add, Nat.reduceAdd, Nat.reduceSub, Nat.reduceLT, Nat.reduceLeDiff, Nat.reduceEqDiff, Int.reduceNeg, Int.reduceLT, Int.reduceLE, Int.reduceAdd, Int.reduceSub, decide_true, decide_false, Bool.and_self, Bool.and_true, Bool.true_and, Bool.and_false, Bool.false_and, Bool.or_true, Bool.true_or, Bool.or_false, Bool.false_or, Bool.not_true, Bool.not_false, ↓reduceIte, Bool.false_eq_true, truD, bop_addI, bop_subI, bop_mulI, bop_modI, bop_fdivI, bop_pow18, bop_addT, bop_addL, cop_eq, cop_ne, cop_ltI, cop_leI, cop_gtI, cop_geI, eqD_ii, eqD_ss, eqD_bb, fits_lit, recvOk, recvOk.isL, isMut, isDic, killR, List.foldl, List.append_assoc, List.length_append, Nat.add_assoc, dk_len, st_get0, st_get1, st_get2, st_set0, st_set1, st_set2, Option.some.injEq, exists_eq_left', exists_eq_left, SV.d.injEq, PyData.bool.injEq, SV.ref.injEq, reduceCtorEq, false_and, and_false, exists_false, or_false, false_or, true_and, and_true, true_implies, false_implies, forall_const, beq_self_eq_true, Bool.true_eq_false, flP_set, flP_asg, flP_par, flP_sti, flP_expr, flP_for, flP_whl, flP_rets, bop_pow6, bop_pow9, bfn_max2, bfn_min2, bfn_tupL, bfn_tupT, bfn_lenL, bfn_lenT, bfn_listL, bfn_listT, bfn_intB, bfn_intI, SV.d.injEq, PyData.str.injEq, PyData.int.injEq, flP_ifs]
    refine ⟨fun q => ?_, fun q => ⟨ls, k4, rfl, rfl, hls, by omega, by omega, hk4.mono (by omega)⟩⟩
    refine forty_p (n := n + 2) h6 h12 hk4 (by omega) fun names k5 q1 q2 q3 hk5 => ?_
    exact ⟨names, k5, rfl, rfl, q1, q2, q3, hk5.mono (by omega)⟩
  · rintro r m ⟨names, k5, rfl, rfl, q1, q2, q3, hk5⟩
    simp only [↓flP_retS, ↓outP_and, ↓outP_or, ↓outP_ite, ↓outP_cmp2, flP_of, flP_next, flP_ret, flP_bad, flP_nil, outP_ok, outP_bad, outP_of, outP_bind, outP_nox, ok_bind, ok_of, of_some, open_none, ex, ev, evs, evo, evT, evI, dat, datX, datP, datAll, dOf, seqI, lockM, openM, boxK, freshE, retOk, asgT_nm, asgT_tup, asgT_lst, asgTs_nil, asgTs_cons, List.map_cons, List.map_nil, List.cons_append, List.nil_append, List.getElem?_cons_zero, List.getElem?_cons_succ, List.length_cons, List.length_nil, List.replicate, Option.bind_some, Option.map_some, Option.isSome_some, List.set_cons_zero, List.set_cons_succ, Nat.zero_add, Nat.reduceAdd, Nat.reduceSub, Nat.reduceLT, Nat.reduceLeDiff, Nat.reduceEqDiff, Int.reduceNeg, Int.reduceLT, Int.reduceLE, Int.reduceAdd, Int.reduceSub, decide_true, decide_false, Bool.and_self, Bool.and_true, Bool.true_and, Bool.and_false, Bool.false_and, Bool.or_true, Bool.true_or, Bool.or_false, Bool.false_or, Bool.not_true, Bool.not_false, ↓reduceIte, Bool.false_eq_true, truD, bop_addI, bop_subI, bop_mulI, bop_modI, bop_fdivI, bop_pow18, bop_addT, bop_addL, cop_eq, cop_ne, cop_ltI, cop_leI, cop_gtI, cop_geI, eqD_ii, eqD_ss, eqD_bb, fits_lit, recvOk, recvOk.isL, isMut, isDic, killR, List.foldl, List.append_assoc, List.length_append, Nat.add_assoc, dk_len, st_get0, st_get1, st_get2, st_set0, st_set1, st_set2, Option.some.injEq, exists_eq_left', exists_eq_left, SV.d.injEq, PyData.bool.injEq, SV.ref.injEq, reduceCtorEq, false_and, and_false, exists_false, or_false, false_or, true_and, and_true, true_implies, false_implies, forall_const, beq_self_eq_true, Bool.true_eq_false, flP_set, flP_asg, flP_par, flP_sti, flP_expr, flP_for, flP_whl, flP_rets, bop_pow6, bop_pow9, bfn_max2, bfn_min2, bfn_tupL, bfn_tupT, bfn_lenL, bfn_lenT, bfn_listL, bfn_listT, bfn_intB, bfn_intI, SV.d.injEq, PyData.str.injEq, PyData.int.injEq]
    refine draw_p h6 hk5 (by omega) (by omega) (by omega) fun r6 k6 a6 b6 hk6 => ?_
    simp only [↓flP_retS, ↓outP_and, ↓outP_or, ↓outP_ite, ↓outP_cmp2, flP_of, flP_next, flP_ret, flP_bad, flP_nil, outP_ok, outP_bad, outP_of, outP_bind, outP_nox, ok_bind, ok_of, of_some, open_none, ex, ev, evs, evo, evT, evI, dat, datX, datP, datAll, dOf, seqI, lockM, openM, boxK, freshE, retOk, asgT_nm, asgT_tup, asgT_lst, asgTs_nil, asgTs_cons, List.map_cons, List.map_nil, List.cons_append, List.nil_append, List.getElem?_cons_zero, List.getElem?_cons_succ, List.length_cons, List.length_nil, List.replicate, Option.bind_some, Option.map_some, Option.isSome_some, List.set_cons_zero, List.set_cons_succ, Nat.zero_add, Nat.reduceAdd, Nat.reduceSub, Nat.reduceLT, Nat.reduceLeDiff, Nat.reduceEqDiff, Int.reduceNeg, Int.reduceLT, Int.reduceLE, Int.reduceAdd, Int.reduceSub, decide_true, decide_false, Bool.and_self, Bool.and_true, Bool.true_and, Bool.and_false, Bool.false_and, Bool.or_true, Bool.true_or, Bool.or_false, Bool.false_or, Bool.not_true, Bool.not_false, ↓reduceIte, Bool.false_eq_true, truD, bop_addI, bop_subI, bop_mulI, bop_modI, bop_fdivI, bop_pow18, bop_addT, bop_addL, cop_eq, cop_ne, cop_ltI, cop_leI, cop_gtI, cop_geI, eqD_ii, eqD_ss, eqD_bb, fits_lit, recvOk, recvOk.isL, isMut, isDic, killR, List.foldl, List.append_assoc, List.length_append, Nat.add_assoc, dk_len, st_get0, st_get1, st_get2, st_set0, st_set1, st_set2, Option.some.injEq, exists_eq_left', exists_eq_left, SV.d.injEq, PyData.bool.injEq, SV.ref.injEq, reduceCtorEq, false_and, and_false, exists_false, or_false, false_or, true_and, and_true, true_implies, false_implies, forall_const, beq_self_eq_true, Bool.true_eq_false, flP_set, flP_asg, flP_par, flP_sti, flP_expr, flP_for, flP_whl, flP_rets, bop_pow6, bop_pow9, bfn_max2, bfn_min2, bfn_tupL, bfn_tupT, bfn_lenL, bfn_lenT, bfn_listL, bfn_listT, bfn_intB, bfn_intI, SV.d.injEq, PyData.str.injEq, PyData.int.injEq, ix_two]
    refine draw_p h6 hk6 (by omega) (by omega) (by omega) fun r7 k7 a7 b7 hk7 => ?_
    simp only [↓flP_retS, ↓outP_and, ↓outP_or, ↓outP_ite, ↓outP_cmp2, flP_of, flP_next, flP_ret, flP_bad, flP_nil, outP_ok, outP_bad, outP_of, outP_bind, outP_nox, ok_bind, ok_of, of_some, open_none, ex, ev, evs, evo, evT, evI, dat, datX, datP, datAll, dOf, seqI, lockM, openM, boxK, freshE, retOk, asgT_nm, asgT_tup, asgT_lst, asgTs_nil, asgTs_cons, List.map_cons, List.map_nil, List.cons_append, List.nil_append, List.getElem?_cons_zero, List.getElem?_cons_succ, List.length_cons, List.length_nil, List.replicate, Option.bind_some, Option.map_some, Option.isSome_some, List.set_cons_zero, List.set_cons_succ, Nat.zero_add, Nat.reduceAdd, Nat.reduceSub, Nat.reduceLT, Nat.reduceLeDiff, Nat.reduceEqDiff, Int.reduceNeg, Int.reduceLT, Int.reduceLE, Int.reduceAdd, Int.reduceSub, decide_true, decide_false, Bool.and_self, Bool.and_true, Bool.true_and, Bool.and_false, Bool.false_and, Bool.or_true, Bool.true_or, Bool.or_false, Bool.false_or, Bool.not_true, Bool.not_false, ↓reduceIte, Bool.false_eq_true, truD, bop_addI, bop_subI, bop_mulI, bop_modI, bop_fdivI, bop_pow18, bop_addT, bop_addL, cop_eq, cop_ne, cop_ltI, cop_leI, cop_gtI, cop_geI, eqD_ii, eqD_ss, eqD_bb, fits_lit, recvOk, recvOk.isL, isMut, isDic, killR, List.foldl, List.append_assoc, List.length_append, Nat.add_assoc, dk_len, st_get0, st_get1, st_get2, st_set0, st_set1, st_set2, Option.some.injEq, exists_eq_left', exists_eq_left, SV.d.injEq, PyData.bool.injEq, SV.ref.injEq, reduceCtorEq, false_and, and_false, exists_false, or_false, false_or, true_and, and_true, true_implies, false_implies, forall_const, beq_self_eq_true, Bool.true_eq_false, flP_set, flP_asg, flP_par, flP_sti, flP_expr, flP_for, flP_whl, flP_rets, bop_pow6, bop_pow9, bfn_max2, bfn_min2, bfn_tupL, bfn_tupT, bfn_lenL, bfn_lenT, bfn_listL, bfn_listT, bfn_intB, bfn_intI, SV.d.injEq, PyData.str.injEq, PyData.int.injEq, ix_two]
    obtain ⟨ma, ema, c1, c2⟩ : ∃ mn : Int, (if (r1 == 5) = true then PyData.int 40 else PyData.int r6) = .int mn ∧ 0 ≤ mn ∧ mn ≤ 40 := by
      by_cases q : (r1 == 5) = true
      · exact ⟨40, by rw [if_pos q], by omega, by omega⟩
      · exact ⟨r6, by rw [if_neg q], by omega, by omega⟩
    obtain ⟨mo, emo, d1, d2⟩ : ∃ mn : Int, (if (r1 == 5) = true then PyData.int 12 else PyData.int (1 + r7)) = .int mn ∧ 1 ≤ mn ∧ mn ≤ 12 := by
      by_cases q : (r1 == 5) = true
      · exact ⟨12, by rw [if_pos q], by omega, by omega⟩
      · exact ⟨1 + r7, by rw [if_neg q], by omega, by omega⟩
    rw [ema, emo]
    refine samples_p (n := n) h6 h7 h9 h10 h11 hk7 (by omega) q1 (by omega) (by omega) c1 (by omega) d1 d2 fun S k8 hS1 hS2 hk8 => ?_
    simp only [↓flP_retS, ↓outP_and, ↓outP_or, ↓outP_ite, ↓outP_cmp2, flP_of, flP_next, flP_ret, flP_bad, flP_nil, outP_ok, outP_bad, outP_of, outP_bind, outP_nox, ok_bind, ok_of, of_some, open_none, ex, ev, evs, evo, evT, evI, dat, datX, datP, datAll, dOf, seqI, lockM, openM, boxK, freshE, retOk, asgT_nm, asgT_tup, asgT_lst, asgTs_nil, asgTs_cons, List.map_cons, List.map_nil, List.cons_append, List.nil_append, List.getElem?_cons_zero, List.getElem?_cons_succ, List.length_cons, List.length_nil, List.replicate, Option.bind_some, Option.map_some, Option.isSome_some, List.set_cons_zero, List.set_cons_succ, Nat.zero_add, Nat.reduceAdd, Nat.reduceSub, Nat.reduceLT, Nat.reduceLeDiff, Nat.reduceEqDiff, Int.reduceNeg, Int.reduceLT, Int.reduceLE, Int.reduceAdd, Int.reduceSub, decide_true, decide_false, Bool.and_self, Bool.and_true, Bool.true_and, Bool.and_false, Bool.false_and, Bool.or_true, Bool.true_or, Bool.or_false, Bool.false_or, Bool.not_true, Bool.not_false, ↓reduceIte, Bool.false_eq_true, truD, bop_addI, bop_subI, bop_mulI, bop_modI, bop_fdivI, bop_pow18, bop_addT, bop_addL, cop_eq, cop_ne, cop_ltI, cop_leI, cop_gtI, cop_geI, eqD_ii, eqD_ss, eqD_bb, fits_lit, recvOk, recvOk.isL, isMut, isDic, killR, List.foldl, List.append_assoc, List.length_append, Nat.add_assoc, dk_len, st_get0, st_get1, st_get2, st_set0, st_set1, st_set2, Option.some.injEq, exists_eq_left', exists_eq_left, SV.d.injEq, PyData.bool.injEq, SV.ref.injEq, reduceCtorEq, false_and, and_false, exists_false, or_false, false_or, true_and, and_true, true_implies, false_implies, forall_const, beq_self_eq_true, Bool.true_eq_false, flP_set, flP_asg, flP_par, flP_sti, flP_expr, flP_for, flP_whl, flP_rets, bop_pow6, bop_pow9, bfn_max2, bfn_min2, bfn_tupL, bfn_tupT, bfn_lenL, bfn_lenT, bfn_listL, bfn_listT, bfn_intB, bfn_intI, SV.d.injEq, PyData.str.injEq, PyData.int.injEq]
    exact ret_d0 (h names S k8 ⟨q1, by omega, q3, by omega, hS2⟩ q2 (hk8.mono (by omega)))
end
end Pil

set_option Elab.async false
set_option linter.all false
set_option autoImplicit false
set_option maxRecDepth 100000
set_option maxHeartbeats 4000000
namespace Pil
open PySem PySem.Spec PyProof.Rows L2
def F25 : Fn := { nm := "_law_is_same", ps := ["_law_found", "_law_due"], ns := ["_law_found", "_law_due", "_law_k"], keep := false, body := (.cons (.iff (.isi (.var 1) .tuple)
 (.cons (.iff (.or2 (.nt (.isi (.var 0) .tuple)) (.cmp .ne (.blt .len (.cons (.var 0) .nil)) (.blt .len (.cons (.var 1) .nil))))
 (.cons (.ret (.cst (.bool false)))
  .nil)
 .nil)
  (.cons (.ret (.cmp .eq (.comp [2] (.nm 2) (.rng1 (.blt .len (.cons (.var 1) .nil))) (.some (.nt (.call 25 (.cons (.idx (.var 0) (.var 2)) (.cons (.idx (.var 1) (.var 2)) .nil))))) (.var 2)) (.lst .nil)))
  .nil))
 .nil)
  (.cons (.iff (.cmp .is (.var 1) (.cst .none))
 (.cons (.ret (.cmp .is (.var 0) (.cst .none)))
  .nil)
 .nil)
  (.cons (.iff (.isi (.var 1) .bool)
 (.cons (.ret (.and2 (.isi (.var 0) .bool) (.cmp .eq (.var 0) (.var 1))))
  .nil)
 .nil)
  (.cons (.iff (.isi (.var 1) .str)
 (.cons (.ret (.and2 (.isi (.var 0) .str) (.cmp .eq (.var 0) (.var 1))))
  .nil)
 .nil)
  (.cons (.ret (.and2 (.isi (.var 0) .int) (.and2 (.nt (.isi (.var 0) .bool)) (.cmp .eq (.var 0) (.var 1)))))
  .nil))))) }
section
variable {G : Nat → Option Fn} {n : Nat}
/-! ### defs that leave the store as it is -/
theorem callP {g : Nat} {F : Fn} {xs : List SV} {m : Sto} {y : PyData} (hG : G g = some F) (hk : F.keep = false) (hl : xs.length = F.ps.length) (h : FlP (exs (callI G n) F.body (xs.map some ++ List.replicate (F.ns.length - xs.length) none) (m ++ [])) (fun _ m' => ∃ c, m' = m ++ c ∧ y = .none) (fun x m' => ∃ c, m' = m ++ c ∧ (x = .d y ∨ ∃ i ys, x = .ref (m.length + i) ∧ c[i]? = some (.lst ys) ∧ y = .list ys))) : callI G (n + 1) g xs m = .ok (.d y) m := by
  have old : ∀ c, OkOld m (m ++ c) := fun c => ⟨by rw [List.length_append]; omega, fun l o h1 e => by rw [List.getElem?_append_left h1] at e; exact .inl e⟩
  have fin : ∀ y c, finish false m (.d y) (m ++ c) = .ok (.d y) m := fun y c => by rw [fin_d (old c), List.take_left]
  rw [List.append_nil] at h
  rw [callI_s hG hl, hk]
  cases e : exs (callI G n) F.body (xs.map some ++ List.replicate (F.ns.length - xs.length) none) m with
  | next r m' =>
    rw [e] at h
    obtain ⟨c, rfl, rfl⟩ := h
    exact fin _ _
  | ret x m' =>
    rw [e] at h
    obtain ⟨c, rfl, h⟩ := h
    rcases h with rfl | ⟨i, ys, rfl, e2, rfl⟩
    · exact fin _ _
    · show finish false m (.ref (m.length + i)) (m ++ c) = _
      rw [fin_l (old c) (by omega) (ys := ys) ?_, List.take_left]
      rw [List.getElem?_append_right (by omega), ← e2]
      congr 1
      omega
  | _ => rw [e] at h; exact h.elim
section
variable {m c : Sto} {a b d o : Ob}
theorem mg_at {i : Nat} : (m ++ c)[m.length + i]? = c[i]? := by
  rw [List.getElem?_append_right (by omega)]
  congr 1
  omega
theorem mg0 : (m ++ (a :: c))[m.length]? = some a := mg_at (i := 0)
theorem mg1 : (m ++ (a :: b :: c))[m.length + 1]? = some b := mg_at (i := 1)
theorem mg2 : (m ++ (a :: b :: d :: c))[m.length + 2]? = some d := mg_at (i := 2)
theorem ms_at {i : Nat} : (m ++ c).set (m.length + i) o = m ++ c.set i o := by
  rw [List.set_append_right _ _ (by omega)]
  congr 2
  omega
theorem ms0 : (m ++ (a :: c)).set m.length o = m ++ (o :: c) := ms_at (i := 0)
theorem ms1 : (m ++ (a :: b :: c)).set (m.length + 1) o = m ++ (a :: o :: c) := ms_at (i := 1)
theorem ms2 : (m ++ (a :: b :: d :: c)).set (m.length + 2) o = m ++ (a :: b :: o :: c) := ms_at (i := 2)
theorem exm0 : (∃ c : Sto, m = m ++ c) ↔ True := ⟨fun _ => trivial, fun _ => ⟨[], (List.append_nil m).symm⟩⟩
theorem exm1 : (∃ c' : Sto, m ++ c = m ++ c') ↔ True := ⟨fun _ => trivial, fun _ => ⟨c, rfl⟩⟩
/-- the end of such a def -/
theorem rp_d {y : PyData} : ∃ c', m ++ c = m ++ c' ∧ (SV.d y = .d y ∨ ∃ i ys, SV.d y = .ref (m.length + i) ∧ c'[i]? = some (.lst ys) ∧ y = .list ys) := ⟨c, rfl, .inl rfl⟩
theorem rp_d0 {y : PyData} : ∃ c', m = m ++ c' ∧ (SV.d y = .d y ∨ ∃ i ys, SV.d y = .ref (m.length + i) ∧ c'[i]? = some (.lst ys) ∧ y = .list ys) := ⟨[], (List.append_nil m).symm, .inl rfl⟩
end
theorem ix_in {α : Type} {f : α → PyData} {xs : List α} {i : Nat} (h : i < xs.length) : ixD (.tuple (xs.map f)) (.int (i : Nat)) = some (f xs[i]) := by
  show L2.atI (xs.map f) ((i : Nat) : Int) = _
  unfold L2.atI L2.ixN
  rw [if_pos (by omega), if_pos (by rw [List.length_map]; omega)]
  show (xs.map f)[i]? = _
  rw [List.getElem?_map, List.getElem?_eq_getElem h]; rfl
theorem ix_inL {α : Type} {f : α → PyData} {xs : List α} {i : Nat} (h : i < xs.length) : ixD (.list (xs.map f)) (.int (i : Nat)) = some (f xs[i]) := by
  show L2.atI (xs.map f) ((i : Nat) : Int) = _
  unfold L2.atI L2.ixN
  rw [if_pos (by omega), if_pos (by rw [List.length_map]; omega)]
  show (xs.map f)[i]? = _
  rw [List.getElem?_map, List.getElem?_eq_getElem h]; rfl
theorem ix_raw {xs : List PyData} {i : Nat} (h : i < xs.length) : ixD (.tuple xs) (.int (i : Nat)) = some xs[i] := by
  have := ix_in (f := id) (xs := xs) h
  rw [List.map_id] at this
  exact this
theorem rng_nat {k : Nat} : rngD 0 (k : Int) = (List.range k).map fun i => PyData.int (i : Nat) := by
  unfold rngD
  show (List.range ((k : Int) - 0).toNat).map _ = _
  rw [show ((k : Int) - 0).toNat = k by omega]
  exact List.map_congr_left fun i _ => by rw [Int.zero_add]
theorem tx_inj {a b : List Nat} (h : tx a = tx b) : a = b := by
  have : a.toArray = b.toArray := congrArg Str.cps h
  simpa using this
theorem tx_beq {a b : List Nat} : (tx a == tx b) = (a == b) := by
  rw [Bool.eq_iff_iff, beq_iff_eq, beq_iff_eq]
  exact ⟨tx_inj, congrArg tx⟩
/-! ### alike, kind by kind -/
def PlN : Nat → PyData → Prop
  | 0, d => d = .none ∨ (∃ b, d = .bool b) ∨ (∃ i, d = .int i) ∨ ∃ s, d = .str s
  | k + 1, d => PlN 0 d ∨ ∃ xs : List PyData, d = .tuple xs ∧ xs.length ≤ 16777216 ∧ ∀ x ∈ xs, PlN k x
theorem same0 (h25 : G 25 = some F25) {d : PyData} {m : Sto} (h : PlN 0 d) : callI G (n + 1) 25 [.d d, .d d] m = .ok (.d (.bool true)) m := by
  refine callP h25 rfl rfl ?_
  rw [List.append_nil]
  simp only [PlN] at h
  rcases h with rfl | ⟨b, rfl⟩ | ⟨i, rfl⟩ | ⟨s, rfl⟩
  · have e : isD .none .none = some true := rfl
    simp only [F25, ↓flP_retS, ↓outP_and, ↓outP_or, ↓outP_ite, ↓outP_cmp2, flP_of, flP_next, flP_ret, flP_bad, flP_nil, outP_ok, outP_bad, outP_of, outP_bind, outP_nox, ok_bind, ok_of, of_some, open_none, ex, ev, evs, evo, evT, evI, dat, datX, datP, datAll, dOf, seqI, lockM, openM, boxK, freshE, retOk, asgT_nm, asgT_tup, asgT_lst, asgTs_nil, asgTs_cons, List.map_cons, List.map_nil, List.cons_append, List.nil_append, List.getElem?_cons_zero, List.getElem?_cons_succ, List.length_cons, List.length_nil, List.replicate, Option.bind_some, Option.map_some, Option.isSome_some, List.set_cons_zero, List.set_cons_succ, Nat.zero_add, Nat.reduceAdd, Nat.reduceSub, Nat.reduceLT, Nat.reduceLeDiff, Nat.reduceEqDiff, Int.reduceNeg, Int.reduceLT, Int.reduceLE, Int.reduceAdd, Int.reduceSub, decide_true, decide_false, Bool.and_self, Bool.and_true, Bool.true_and, Bool.and_false, Bool.false_and, Bool.or_true, Bool.true_or, Bool.or_false, Bool.false_or, Bool.not_true, Bool.not_false, ↓reduceIte, Bool.false_eq_true, truD, bop_addI, bop_subI, bop_mulI, bop_modI, bop_fdivI, bop_pow18, bop_addT, bop_addL, cop_eq, cop_ne, cop_ltI, cop_leI, cop_gtI, cop_geI, eqD_ii, eqD_ss, eqD_bb, fits_lit, recvOk, recvOk.isL, isMut, isDic, killR, List.foldl, List.append_assoc, List.length_append, Nat.add_assoc, dk_len, st_get0, st_get1, st_get2, st_set0, st_set1, st_set2, Option.some.injEq, exists_eq_left', exists_eq_left, SV.d.injEq, PyData.bool.injEq, SV.ref.injEq, reduceCtorEq, false_and, and_false, exists_false, or_false, false_or, true_and, and_true, true_implies, false_implies, forall_const, beq_self_eq_true, Bool.true_eq_false, flP_set, flP_asg, flP_par, flP_sti, flP_expr, flP_for, flP_whl, flP_rets, bop_pow6, bop_pow9, bfn_max2, bfn_min2, bfn_tupL, bfn_tupT, bfn_lenL, bfn_lenT, bfn_listL, bfn_listT, bfn_intB, bfn_intI, SV.d.injEq, PyData.str.injEq, PyData.int.injEq, exm0, exm1, exists_and_right, mg0, mg1, mg2, ms0, ms1, ms2, noxK, flP_ifs, isiD, cop, e]
  · have e : isD (.bool b) .none = some false := rfl
    simp only [F25, ↓flP_retS, ↓outP_and, ↓outP_or, ↓outP_ite, ↓outP_cmp2, flP_of, flP_next, flP_ret, flP_bad, flP_nil, outP_ok, outP_bad, outP_of, outP_bind, outP_nox, ok_bind, ok_of, of_some, open_none, ex, ev, evs, evo, evT, evI, dat, datX, datP, datAll, dOf, seqI, lockM, openM, boxK, freshE, retOk, asgT_nm, asgT_tup, asgT_lst, asgTs_nil, asgTs_cons, List.map_cons, List.map_nil, List.cons_append, List.nil_append, List.getElem?_cons_zero, List.getElem?_cons_succ, List.length_cons, List.length_nil, List.replicate, Option.bind_some, Option.map_some, Option.isSome_some, List.set_cons_zero, List.set_cons_succ, Nat.zero_add, Nat.reduceAdd, Nat.reduceSub, Nat.reduceLT, Nat.reduceLeDiff, Nat.reduceEqDiff, Int.reduceNeg, Int.reduceLT, Int.reduceLE, Int.reduceAdd, Int.reduceSub, decide_true, decide_false, Bool.and_self, Bool.and_true, Bool.true_and, Bool.and_false, Bool.false_and, Bool.or_true, Bool.true_or, Bool.or_false, Bool.false_or, Bool.not_true, Bool.not_false, ↓reduceIte, Bool.false_eq_true, truD, bop_addI, bop_subI, bop_mulI, bop_modI, bop_fdivI, bop_pow18, bop_addT, bop_addL, cop_eq, cop_ne, cop_ltI, cop_leI, cop_gtI, cop_geI, eqD_ii, eqD_ss, eqD_bb, fits_lit, recvOk, recvOk.isL, isMut, isDic, killR, List.foldl, List.append_assoc, List.length_append, Nat.add_assoc, dk_len, st_get0, st_get1, st_get2, st_set0, st_set1, st_set2, Option.some.injEq, exists_eq_left', exists_eq_left, SV.d.injEq, PyData.bool.injEq, SV.ref.injEq, reduceCtorEq, false_and, and_false, exists_false, or_false, false_or, true_and, and_true, true_implies, false_implies, forall_const, beq_self_eq_true, Bool.true_eq_false, flP_set, flP_asg, flP_par, flP_sti, flP_expr, flP_for, flP_whl, flP_rets, bop_pow6, bop_pow9, bfn_max2, bfn_min2, bfn_tupL, bfn_tupT, bfn_lenL, bfn_lenT, bfn_listL, bfn_listT, bfn_intB, bfn_intI, SV.d.injEq, PyData.str.injEq, PyData.int.injEq, exm0, exm1, exists_and_right, mg0, mg1, mg2, ms0, ms1, ms2, noxK, flP_ifs, isiD, cop, e]
  · have e : isD (.int i) .none = some false := rfl
    simp only [F25, ↓flP_retS, ↓outP_and, ↓outP_or, ↓outP_ite, ↓outP_cmp2, flP_of, flP_next, flP_ret, flP_bad, flP_nil, outP_ok, outP_bad, outP_of, outP_bind, outP_nox, ok_bind, ok_of, of_some, open_none, ex, ev, evs, evo, evT, evI, dat, datX, datP, datAll, dOf, seqI, lockM, openM, boxK, freshE, retOk, asgT_nm, asgT_tup, asgT_lst, asgTs_nil, asgTs_cons, List.map_cons, List.map_nil, List.cons_append, List.nil_append, List.getElem?_cons_zero, List.getElem?_cons_succ, List.length_cons, List.length_nil, List.replicate, Option.bind_some, Option.map_some, Option.isSome_some, List.set_cons_zero, List.set_cons_succ, Nat.zero_add, Nat.reduceAdd, Nat.reduceSub, Nat.reduceLT, Nat.reduceLeDiff, Nat.reduceEqDiff, Int.reduceNeg, Int.reduceLT, Int.reduceLE, Int.reduceAdd, Int.reduceSub, decide_true, decide_false, Bool.and_self, Bool.and_true, Bool.true_and, Bool.and_false, Bool.false_and, Bool.or_true, Bool.true_or, Bool.or_false, Bool.false_or, Bool.not_true, Bool.not_false, ↓reduceIte, Bool.false_eq_true, truD, bop_addI, bop_subI, bop_mulI, bop_modI, bop_fdivI, bop_pow18, bop_addT, bop_addL, cop_eq, cop_ne, cop_ltI, cop_leI, cop_gtI, cop_geI, eqD_ii, eqD_ss, eqD_bb, fits_lit, recvOk, recvOk.isL, isMut, isDic, killR, List.foldl, List.append_assoc, List.length_append, Nat.add_assoc, dk_len, st_get0, st_get1, st_get2, st_set0, st_set1, st_set2, Option.some.injEq, exists_eq_left', exists_eq_left, SV.d.injEq, PyData.bool.injEq, SV.ref.injEq, reduceCtorEq, false_and, and_false, exists_false, or_false, false_or, true_and, and_true, true_implies, false_implies, forall_const, beq_self_eq_true, Bool.true_eq_false, flP_set, flP_asg, flP_par, flP_sti, flP_expr, flP_for, flP_whl, flP_rets, bop_pow6, bop_pow9, bfn_max2, bfn_min2, bfn_tupL, bfn_tupT, bfn_lenL, bfn_lenT, bfn_listL, bfn_listT, bfn_intB, bfn_intI, SV.d.injEq, PyData.str.injEq, PyData.int.injEq, exm0, exm1, exists_and_right, mg0, mg1, mg2, ms0, ms1, ms2, noxK, flP_ifs, isiD, cop, e]
  · have e : isD (.str s) .none = some false := rfl
    simp only [F25, ↓flP_retS, ↓outP_and, ↓outP_or, ↓outP_ite, ↓outP_cmp2, flP_of, flP_next, flP_ret, flP_bad, flP_nil, outP_ok, outP_bad, outP_of, outP_bind, outP_nox, ok_bind, ok_of, of_some, open_none, ex, ev, evs, evo, evT, evI, dat, datX, datP, datAll, dOf, seqI, lockM, openM, boxK, freshE, retOk, asgT_nm, asgT_tup, asgT_lst, asgTs_nil, asgTs_cons, List.map_cons, List.map_nil, List.cons_append, List.nil_append, List.getElem?_cons_zero, List.getElem?_cons_succ, List.length_cons, List.length_nil, List.replicate, Option.bind_some, Option.map_some, Option.isSome_some, List.set_cons_zero, List.set_cons_succ, Nat.zero_add, Nat.reduceAdd, Nat.reduceSub, Nat.reduceLT, Nat.reduceLeDiff, Nat.reduceEqDiff, Int.reduceNeg, Int.reduceLT, Int.reduceLE, Int.reduceAdd, Int.reduceSub, decide_true, decide_false, Bool.and_self, Bool.and_true, Bool.true_and, Bool.and_false, Bool.false_and, Bool.or_true, Bool.true_or, Bool.or_false, Bool.false_or, Bool.not_true, Bool.not_false, ↓reduceIte, Bool.false_eq_true, truD, bop_addI, bop_subI, bop_mulI, bop_modI, bop_fdivI, bop_pow18, bop_addT, bop_addL, cop_eq, cop_ne, cop_ltI, cop_leI, cop_gtI, cop_geI, eqD_ii, eqD_ss, eqD_bb, fits_lit, recvOk, recvOk.isL, isMut, isDic, killR, List.foldl, List.append_assoc, List.length_append, Nat.add_assoc, dk_len, st_get0, st_get1, st_get2, st_set0, st_set1, st_set2, Option.some.injEq, exists_eq_left', exists_eq_left, SV.d.injEq, PyData.bool.injEq, SV.ref.injEq, reduceCtorEq, false_and, and_false, exists_false, or_false, false_or, true_and, and_true, true_implies, false_implies, forall_const, beq_self_eq_true, Bool.true_eq_false, flP_set, flP_asg, flP_par, flP_sti, flP_expr, flP_for, flP_whl, flP_rets, bop_pow6, bop_pow9, bfn_max2, bfn_min2, bfn_tupL, bfn_tupT, bfn_lenL, bfn_lenT, bfn_listL, bfn_listT, bfn_intB, bfn_intI, SV.d.injEq, PyData.str.injEq, PyData.int.injEq, exm0, exm1, exists_and_right, mg0, mg1, mg2, ms0, ms1, ms2, noxK, flP_ifs, isiD, cop, e]
theorem same_refl (h25 : G 25 = some F25) : ∀ {k : Nat} {d : PyData} {m : Sto}, PlN k d → callI G (n + k + 1) 25 [.d d, .d d] m = .ok (.d (.bool true)) m
  | 0, d, m, h => same0 h25 h
  | k + 1, d, m, h => by
    rw [PlN] at h
    rcases h with h | ⟨xs, rfl, hl, hx⟩
    · exact same0 (n := n + (k + 1)) h25 h
    refine callP h25 rfl rfl ?_
    rw [List.append_nil]
    have sm : small62 (xs.length : Int) = true := small62_of (by omega) (by omega)
    simp only [F25, ↓flP_retS, ↓outP_and, ↓outP_or, ↓outP_ite, ↓outP_cmp2, flP_of, flP_next, flP_ret, flP_bad, flP_nil, outP_ok, outP_bad, outP_of, outP_bind, outP_nox, ok_bind, ok_of, of_some, open_none, ex, ev, evs, evo, evT, evI, dat, datX, datP, datAll, dOf, seqI, lockM, openM, boxK, freshE, retOk, asgT_nm, asgT_tup, asgT_lst, asgTs_nil, asgTs_cons, List.map_cons, List.map_nil, List.cons_append, List.nil_append, List.getElem?_cons_zero, List.getElem?_cons_succ, List.length_cons, List.length_nil, List.replicate, Option.bind_some, Option.map_some, Option.isSome_some, List.set_cons_zero, List.set_cons_succ, Nat.zero_add, Nat.reduceAdd, Nat.reduceSub, Nat.reduceLT, Nat.reduceLeDiff, Nat.reduceEqDiff, Int.reduceNeg, Int.reduceLT, Int.reduceLE, Int.reduceAdd, Int.reduceSub, decide_true, decide_false, Bool.and_self, Bool.and_true, Bool.true_and, Bool.and_false, Bool.false_and, Bool.or_true, Bool.true_or, Bool.or_false, Bool.false_or, Bool.not_true, Bool.not_false, ↓reduceIte, Bool.false_eq_true, truD, bop_addI, bop_subI, bop_mulI, bop_modI, bop_fdivI, bop_pow18, bop_addT, bop_addL, cop_eq, cop_ne, cop_ltI, cop_leI, cop_gtI, cop_geI, eqD_ii, eqD_ss, eqD_bb, fits_lit, recvOk, recvOk.isL, isMut, isDic, killR, List.foldl, List.append_assoc, List.length_append, Nat.add_assoc, dk_len, st_get0, st_get1, st_get2, st_set0, st_set1, st_set2, Option.some.injEq, exists_eq_left', exists_eq_left, SV.d.injEq, PyData.bool.injEq, SV.ref.injEq, reduceCtorEq, false_and, and_false, exists_false, or_false, false_or, true_and, and_true, true_implies, false_implies, forall_const, beq_self_eq_true, Bool.true_eq_false, flP_set, flP_asg, flP_par, flP_sti, flP_expr, flP_for, flP_whl, flP_rets, bop_pow6, bop_pow9, bfn_max2, bfn_min2, bfn_tupL, bfn_tupT, bfn_lenL, bfn_lenT, bfn_listL, bfn_listT, bfn_intB, bfn_intI, SV.d.injEq, PyData.str.injEq, PyData.int.injEq, exm0, exm1, exists_and_right, mg0, mg1, mg2, ms0, ms1, ms2, noxK, flP_ifs, isiD, sm, rng_nat]
    refine OutP.compF (fun _ => false) (fun i => .int (i : Nat)) (fun i hi => ⟨?_, fun z => by cases z⟩) ?_
    · have hi' : i < xs.length := List.mem_range.mp hi
      have e := same_refl h25 (m := m) (hx xs[i] (List.getElem_mem hi'))
      have ei := ix_raw hi'
      simp only [↓flP_retS, ↓outP_and, ↓outP_or, ↓outP_ite, ↓outP_cmp2, flP_of, flP_next, flP_ret, flP_bad, flP_nil, outP_ok, outP_bad, outP_of, outP_bind, outP_nox, ok_bind, ok_of, of_some, open_none, ex, ev, evs, evo, evT, evI, dat, datX, datP, datAll, dOf, seqI, lockM, openM, boxK, freshE, retOk, asgT_nm, asgT_tup, asgT_lst, asgTs_nil, asgTs_cons, List.map_cons, List.map_nil, List.cons_append, List.nil_append, List.getElem?_cons_zero, List.getElem?_cons_succ, List.length_cons, List.length_nil, List.replicate, Option.bind_some, Option.map_some, Option.isSome_some, List.set_cons_zero, List.set_cons_succ, Nat.zero_add, Nat.reduceAdd, Nat.reduceSub, Nat.reduceLT, Nat.reduceLeDiff, Nat.reduceEqDiff, Int.reduceNeg, Int.reduceLT, Int.reduceLE, Int.reduceAdd, Int.reduceSub, decide_true, decide_false, Bool.and_self, Bool.and_true, Bool.true_and, Bool.and_false, Bool.false_and, Bool.or_true, Bool.true_or, Bool.or_false, Bool.false_or, Bool.not_true, Bool.not_false, ↓reduceIte, Bool.false_eq_true, truD, bop_addI, bop_subI, bop_mulI, bop_modI, bop_fdivI, bop_pow18, bop_addT, bop_addL, cop_eq, cop_ne, cop_ltI, cop_leI, cop_gtI, cop_geI, eqD_ii, eqD_ss, eqD_bb, fits_lit, recvOk, recvOk.isL, isMut, isDic, killR, List.foldl, List.append_assoc, List.length_append, Nat.add_assoc, dk_len, st_get0, st_get1, st_get2, st_set0, st_set1, st_set2, Option.some.injEq, exists_eq_left', exists_eq_left, SV.d.injEq, PyData.bool.injEq, SV.ref.injEq, reduceCtorEq, false_and, and_false, exists_false, or_false, false_or, true_and, and_true, true_implies, false_implies, forall_const, beq_self_eq_true, Bool.true_eq_false, flP_set, flP_asg, flP_par, flP_sti, flP_expr, flP_for, flP_whl, flP_rets, bop_pow6, bop_pow9, bfn_max2, bfn_min2, bfn_tupL, bfn_tupT, bfn_lenL, bfn_lenT, bfn_listL, bfn_listT, bfn_intB, bfn_intI, SV.d.injEq, PyData.str.injEq, PyData.int.injEq, exm0, exm1, exists_and_right, mg0, mg1, mg2, ms0, ms1, ms2, noxK, flP_ifs, ei, isiD]
      rw [show n + (k + 1) = n + k + 1 from rfl, e]
      simp only [↓flP_retS, ↓outP_and, ↓outP_or, ↓outP_ite, ↓outP_cmp2, flP_of, flP_next, flP_ret, flP_bad, flP_nil, outP_ok, outP_bad, outP_of, outP_bind, outP_nox, ok_bind, ok_of, of_some, open_none, ex, ev, evs, evo, evT, evI, dat, datX, datP, datAll, dOf, seqI, lockM, openM, boxK, freshE, retOk, asgT_nm, asgT_tup, asgT_lst, asgTs_nil, asgTs_cons, List.map_cons, List.map_nil, List.cons_append, List.nil_append, List.getElem?_cons_zero, List.getElem?_cons_succ, List.length_cons, List.length_nil, List.replicate, Option.bind_some, Option.map_some, Option.isSome_some, List.set_cons_zero, List.set_cons_succ, Nat.zero_add, Nat.reduceAdd, Nat.reduceSub, Nat.reduceLT, Nat.reduceLeDiff, Nat.reduceEqDiff, Int.reduceNeg, Int.reduceLT, Int.reduceLE, Int.reduceAdd, Int.reduceSub, decide_true, decide_false, Bool.and_self, Bool.and_true, Bool.true_and, Bool.and_false, Bool.false_and, Bool.or_true, Bool.true_or, Bool.or_false, Bool.false_or, Bool.not_true, Bool.not_false, ↓reduceIte, Bool.false_eq_true, truD, bop_addI, bop_subI, bop_mulI, bop_modI, bop_fdivI, bop_pow18, bop_addT, bop_addL, cop_eq, cop_ne, cop_ltI, cop_leI, cop_gtI, cop_geI, eqD_ii, eqD_ss, eqD_bb, fits_lit, recvOk, recvOk.isL, isMut, isDic, killR, List.foldl, List.append_assoc, List.length_append, Nat.add_assoc, dk_len, st_get0, st_get1, st_get2, st_set0, st_set1, st_set2, Option.some.injEq, exists_eq_left', exists_eq_left, SV.d.injEq, PyData.bool.injEq, SV.ref.injEq, reduceCtorEq, false_and, and_false, exists_false, or_false, false_or, true_and, and_true, true_implies, false_implies, forall_const, beq_self_eq_true, Bool.true_eq_false, flP_set, flP_asg, flP_par, flP_sti, flP_expr, flP_for, flP_whl, flP_rets, bop_pow6, bop_pow9, bfn_max2, bfn_min2, bfn_tupL, bfn_tupT, bfn_lenL, bfn_lenT, bfn_listL, bfn_listT, bfn_intB, bfn_intI, SV.d.injEq, PyData.str.injEq, PyData.int.injEq, exm0, exm1, exists_and_right, mg0, mg1, mg2, ms0, ms1, ms2, noxK, flP_ifs, isiD]
    · have en : eqD (.list []) (.list []) = some true := eqD_nil (n := 1) fine_nil (by decide)
      have fil : (List.range xs.length).filter (fun _ => false) = [] := List.filter_eq_nil_iff.mpr fun _ _ z => Bool.false_ne_true z
      rw [fil]
      simp only [↓flP_retS, ↓outP_and, ↓outP_or, ↓outP_ite, ↓outP_cmp2, flP_of, flP_next, flP_ret, flP_bad, flP_nil, outP_ok, outP_bad, outP_of, outP_bind, outP_nox, ok_bind, ok_of, of_some, open_none, ex, ev, evs, evo, evT, evI, dat, datX, datP, datAll, dOf, seqI, lockM, openM, boxK, freshE, retOk, asgT_nm, asgT_tup, asgT_lst, asgTs_nil, asgTs_cons, List.map_cons, List.map_nil, List.cons_append, List.nil_append, List.getElem?_cons_zero, List.getElem?_cons_succ, List.length_cons, List.length_nil, List.replicate, Option.bind_some, Option.map_some, Option.isSome_some, List.set_cons_zero, List.set_cons_succ, Nat.zero_add, Nat.reduceAdd, Nat.reduceSub, Nat.reduceLT, Nat.reduceLeDiff, Nat.reduceEqDiff, Int.reduceNeg, Int.reduceLT, Int.reduceLE, Int.reduceAdd, Int.reduceSub, decide_true, decide_false, Bool.and_self, Bool.and_true, Bool.true_and, Bool.and_false, Bool.false_and, Bool.or_true, Bool.true_or, Bool.or_false, Bool.false_or, Bool.not_true, Bool.not_false, ↓reduceIte, Bool.false_eq_true, truD, bop_addI, bop_subI, bop_mulI, bop_modI, bop_fdivI, bop_pow18, bop_addT, bop_addL, cop_eq, cop_ne, cop_ltI, cop_leI, cop_gtI, cop_geI, eqD_ii, eqD_ss, eqD_bb, fits_lit, recvOk, recvOk.isL, isMut, isDic, killR, List.foldl, List.append_assoc, List.length_append, Nat.add_assoc, dk_len, st_get0, st_get1, st_get2, st_set0, st_set1, st_set2, Option.some.injEq, exists_eq_left', exists_eq_left, SV.d.injEq, PyData.bool.injEq, SV.ref.injEq, reduceCtorEq, false_and, and_false, exists_false, or_false, false_or, true_and, and_true, true_implies, false_implies, forall_const, beq_self_eq_true, Bool.true_eq_false, flP_set, flP_asg, flP_par, flP_sti, flP_expr, flP_for, flP_whl, flP_rets, bop_pow6, bop_pow9, bfn_max2, bfn_min2, bfn_tupL, bfn_tupT, bfn_lenL, bfn_lenT, bfn_listL, bfn_listT, bfn_intB, bfn_intI, SV.d.injEq, PyData.str.injEq, PyData.int.injEq, exm0, exm1, exists_and_right, mg0, mg1, mg2, ms0, ms1, ms2, noxK, flP_ifs, en]
end
end Pil

set_option Elab.async false
set_option linter.all false
set_option autoImplicit false
set_option maxRecDepth 100000
set_option maxHeartbeats 4000000
namespace Pil
open PySem PySem.Spec PyProof.Rows L2

/-! ### the order of piles -/
theorem lt_nm (a b : List Nat) : PySem.W.dataLt (nmD a) (nmD b) = decide (a < b) := PySem.W.dataLt_str _ _
theorem eqv_nm (a b : List Nat) : PyData.eqv (nmD a) (nmD b) = (a == b) := by
  show PyData.eqv (.str (tx a)) (.str (tx b)) = _
  simp only [PyData.eqv]
  exact tx_beq
theorem al_nm (a b : List Nat) : PySem.W.alike (nmD a) (nmD b) = true := by simp [PySem.W.alike, nmD]
theorem al_nms : ∀ (p q : Pile), PySem.W.alikeAll (p.map nmD) (q.map nmD) = true
  | [], _ => by simp [PySem.W.alikeAll]
  | _ :: _, [] => by simp [PySem.W.alikeAll]
  | a :: p, b :: q => by
    show PySem.W.alikeAll (nmD a :: p.map nmD) (nmD b :: q.map nmD) = true
    simp only [PySem.W.alikeAll, al_nm, al_nms p q, Bool.and_self]
theorem al_pl (p q : Pile) : PySem.W.alike (plD p) (plD q) = true := by
  show PySem.W.alike (.tuple (p.map nmD)) (.tuple (q.map nmD)) = true
  simp only [PySem.W.alike, al_nms]
theorem lt_row : ∀ p q : Pile, PySem.W.rowLt (p.map nmD) (q.map nmD) = decide (p < q)
  | [], [] => by
    have e : PySem.W.rowLt [] [] = false := lex_irrefl _
    simp [e]
  | [], y :: ys => by
    have e : PySem.W.rowLt [] (nmD y :: ys.map nmD) = true := by
      unfold PySem.W.rowLt
      rw [PySem.W.toks_all_cons]
      simp only [PySem.W.keyToksAll]
      rw [lex_diff (O := itemOrd) (by simp)]
      rfl
    simpa using e
  | x :: xs, [] => by
    have e : PySem.W.rowLt (nmD x :: xs.map nmD) [] = false := by
      unfold PySem.W.rowLt
      rw [PySem.W.toks_all_cons]
      simp only [PySem.W.keyToksAll]
      rw [lex_diff (O := itemOrd) (by simp)]
      rfl
    simpa using e
  | x :: xs, y :: ys => by
    have e : PySem.W.rowLt (nmD x :: xs.map nmD) (nmD y :: ys.map nmD) = if x = y then PySem.W.rowLt (xs.map nmD) (ys.map nmD) else decide (x < y) := by
      unfold PySem.W.rowLt
      rw [PySem.W.dataLt_cons (al_nm _ _), lt_nm, eqv_nm]
      simp only [beq_iff_eq]
    show PySem.W.rowLt (nmD x :: xs.map nmD) (nmD y :: ys.map nmD) = _
    rw [e]
    by_cases h : x = y
    · rw [if_pos h, lt_row xs ys]
      simp [h, List.cons_lt_cons_iff]
    · rw [if_neg h]
      simp [h, List.cons_lt_cons_iff]
theorem lt_pl (p q : Pile) : PySem.W.dataLt (plD p) (plD q) = decide (p < q) := (PySem.W.dataLt_tuple _ _).trans (lt_row p q)
theorem le_pl (p q : Pile) : PySem.W.dataLe false id (plD p) (plD q) = decide (p ≤ q) := by
  show (!PySem.W.dataLt (plD q) (plD p)) = _
  rw [lt_pl]
  by_cases h : q < p
  · have h' : ¬ p ≤ q := fun z => List.not_lt.mpr z h
    simp [h, h']
  · have h' : p ≤ q := List.not_lt.mp h
    simp [h, h']
/-! ### gathering -/
def addS : List Smp → Pile → Int → List Smp
  | [], p, c => [(p, c)]
  | t :: D, p, c => if t.1 = p then (t.1, t.2 + c) :: D else t :: addS D p c
def gaF (D S : List Smp) : List Smp := S.foldl (fun D s => addS D s.1 s.2) D
def gaD (S : List Smp) : List Smp := gaF [] S
def leS (a b : Smp) : Bool := decide (a.1 ≤ b.1)
def gath (S : List Smp) : List Smp := (gaD S).mergeSort leS
def cnt : List Smp → Pile → Int
  | [], _ => 0
  | s :: S, p => (if s.1 = p then s.2 else 0) + cnt S p
def sumS (S : List Smp) : Int := (S.map (·.2)).sum
def keysS (S : List Smp) : List Pile := S.map (·.1)
def PosS (S : List Smp) : Prop := ∀ s ∈ S, 0 < s.2
theorem gaF_cons {D S : List Smp} {s : Smp} : gaF D (s :: S) = gaF (addS D s.1 s.2) S := rfl
theorem gaF_snoc {D S : List Smp} {s : Smp} : gaF D (S ++ [s]) = addS (gaF D S) s.1 s.2 := by unfold gaF; rw [List.foldl_append]; rfl
theorem cnt_addS {p : Pile} {c : Int} {q : Pile} : ∀ {D : List Smp}, cnt (addS D p c) q = cnt D q + (if p = q then c else 0)
  | [] => by simp only [addS, cnt]; omega
  | t :: D => by
    unfold addS
    by_cases h : t.1 = p
    · rw [if_pos h]
      simp only [cnt, h]
      split <;> omega
    · rw [if_neg h]
      simp only [cnt, cnt_addS]
      omega
theorem cnt_append {q : Pile} : ∀ {S T : List Smp}, cnt (S ++ T) q = cnt S q + cnt T q
  | [], T => by simp only [List.nil_append, cnt]; omega
  | s :: S, T => by simp only [List.cons_append, cnt, cnt_append]; omega
theorem cnt_perm {q : Pile} {S T : List Smp} (h : S.Perm T) : cnt S q = cnt T q := by
  induction h with
  | nil => rfl
  | cons x _ ih => simp only [cnt, ih]
  | swap x y l => simp only [cnt]; omega
  | trans _ _ i j => exact i.trans j
theorem cnt_gaF {q : Pile} : ∀ {S D : List Smp}, cnt (gaF D S) q = cnt D q + cnt S q
  | [], D => by show cnt D q = _; simp only [cnt]; omega
  | s :: S, D => by
    rw [gaF_cons, cnt_gaF, cnt_addS]
    simp only [cnt]; omega
theorem sum_addS {p : Pile} {c : Int} : ∀ {D : List Smp}, sumS (addS D p c) = sumS D + c
  | [] => by simp [addS, sumS]
  | t :: D => by
    unfold addS
    split
    · simp [sumS]; omega
    · have := sum_addS (p := p) (c := c) (D := D)
      simp [sumS] at this ⊢; omega
theorem sum_gaF : ∀ {S D : List Smp}, sumS (gaF D S) = sumS D + sumS S
  | [], D => by show sumS D = _; simp [sumS]
  | s :: S, D => by
    rw [gaF_cons, sum_gaF, sum_addS]
    simp [sumS]; omega
theorem keys_addS {p q : Pile} {c : Int} : ∀ {D : List Smp}, q ∈ keysS (addS D p c) ↔ q ∈ keysS D ∨ q = p
  | [] => by simp [keysS, addS]
  | t :: D => by
    unfold addS
    split
    · rename_i h
      subst h
      simp [keysS]
      grind
    · have := keys_addS (p := p) (q := q) (c := c) (D := D)
      simp only [keysS, List.map_cons, List.mem_cons] at this ⊢
      rw [this]
      grind
theorem keys_gaF {q : Pile} : ∀ {S D : List Smp}, q ∈ keysS (gaF D S) ↔ q ∈ keysS D ∨ q ∈ keysS S
  | [], D => by simp [gaF, keysS]
  | s :: S, D => by
    rw [gaF_cons, keys_gaF, keys_addS]
    simp only [keysS, List.map_cons, List.mem_cons]
    grind
theorem nd_addS {p : Pile} {c : Int} : ∀ {D : List Smp}, (keysS D).Nodup → (keysS (addS D p c)).Nodup
  | [], _ => by simp [keysS, addS]
  | t :: D, h => by
    have h' : t.1 ∉ keysS D ∧ (keysS D).Nodup := List.nodup_cons.mp h
    unfold addS
    split
    · exact h
    · rename_i hne
      show (t.1 :: keysS (addS D p c)).Nodup
      refine List.nodup_cons.mpr ⟨fun z => ?_, nd_addS h'.2⟩
      rcases keys_addS.mp z with z | z
      · exact h'.1 z
      · exact hne z
theorem nd_gaF : ∀ {S D : List Smp}, (keysS D).Nodup → (keysS (gaF D S)).Nodup
  | [], _, h => h
  | s :: S, D, h => by rw [gaF_cons]; exact nd_gaF (nd_addS h)
theorem nd_gaD {S : List Smp} : (keysS (gaD S)).Nodup := nd_gaF List.nodup_nil
theorem nd_map {α β : Type} {f : α → β} {l : List α} (h : (l.map f).Nodup) : l.Nodup := by
  induction l with
  | nil => exact List.nodup_nil
  | cons a l ih =>
    obtain ⟨h1, h2⟩ := List.nodup_cons.mp (show (f a :: l.map f).Nodup from h)
    exact List.nodup_cons.mpr ⟨fun z => h1 (List.mem_map.mpr ⟨a, z, rfl⟩), ih h2⟩
theorem cnt_out {p : Pile} : ∀ {D : List Smp}, p ∉ keysS D → cnt D p = 0
  | [], _ => rfl
  | t :: D, h => by
    have h' : p ≠ t.1 ∧ p ∉ keysS D := ⟨fun z => h (z ▸ List.mem_cons_self), fun z => h (List.mem_cons_of_mem _ z)⟩
    simp only [cnt, if_neg (Ne.symm h'.1), cnt_out h'.2]; rfl
theorem cnt_nd : ∀ {D : List Smp} {s : Smp}, (keysS D).Nodup → s ∈ D → cnt D s.1 = s.2
  | t :: D, s, h, hs => by
    have h' : t.1 ∉ keysS D ∧ (keysS D).Nodup := List.nodup_cons.mp h
    rcases List.mem_cons.mp hs with rfl | hs
    · simp only [cnt, cnt_out h'.1]; simp
    · have : t.1 ≠ s.1 := fun z => h'.1 (z ▸ List.mem_map.mpr ⟨s, hs, rfl⟩)
      simp only [cnt, if_neg this, cnt_nd h'.2 hs]; omega
theorem cnt_pos {p : Pile} : ∀ {S : List Smp}, PosS S → 0 ≤ cnt S p ∧ (p ∈ keysS S → 0 < cnt S p)
  | [], _ => ⟨by show (0 : Int) ≤ 0; omega, fun h => by cases h⟩
  | s :: S, h => by
    obtain ⟨i1, i2⟩ := cnt_pos (p := p) (S := S) fun x hx => h x (List.mem_cons_of_mem _ hx)
    have hs := h s List.mem_cons_self
    have e : cnt (s :: S) p = (if s.1 = p then s.2 else 0) + cnt S p := rfl
    by_cases q : s.1 = p
    · rw [e, if_pos q]
      exact ⟨by omega, fun _ => by omega⟩
    · rw [e, if_neg q]
      refine ⟨by omega, fun z => ?_⟩
      have z : p ∈ s.1 :: keysS S := z
      rcases List.mem_cons.mp z with z | z
      · exact absurd z.symm q
      · have := i2 z; omega
theorem mem_gaD {S : List Smp} {s : Smp} : s ∈ gaD S ↔ s.2 = cnt S s.1 ∧ s.1 ∈ keysS S := by
  have hc : ∀ q, cnt (gaD S) q = cnt S q := fun q => by unfold gaD; rw [cnt_gaF]; show 0 + _ = _; omega
  have hk : ∀ q, q ∈ keysS (gaD S) ↔ q ∈ keysS S := fun q => by
    unfold gaD; rw [keys_gaF]; simp [keysS]
  constructor
  · intro h
    exact ⟨by rw [← hc, cnt_nd nd_gaD h], (hk _).mp (List.mem_map.mpr ⟨s, h, rfl⟩)⟩
  · rintro ⟨h1, h2⟩
    obtain ⟨t, ht, e⟩ := List.mem_map.mp ((hk _).mpr h2)
    have e2 := cnt_nd nd_gaD ht
    rw [hc, e, ← h1] at e2
    have : t = s := Prod.ext e e2.symm
    exact this ▸ ht
theorem leS_total (a b : Smp) : (leS a b || leS b a) = true := by
  rw [Bool.or_eq_true, leS, leS, decide_eq_true_iff, decide_eq_true_iff]
  exact List.le_total _ _
theorem leS_trans (a b c : Smp) (h : leS a b = true) (k : leS b c = true) : leS a c = true := by
  rw [leS, decide_eq_true_iff] at *
  exact List.le_trans h k
theorem gath_perm {S : List Smp} : (gath S).Perm (gaD S) := List.mergeSort_perm _ _
theorem gath_sorted {S : List Smp} : (gath S).Pairwise (fun a b => leS a b = true) := List.pairwise_mergeSort leS_trans leS_total _
theorem nd_perm {S T : List Smp} (h : S.Perm T) (k : (keysS S).Nodup) : (keysS T).Nodup := (List.Perm.map Prod.fst h).nodup_iff.mp k
theorem nd_gath {S : List Smp} : (keysS (gath S)).Nodup := nd_perm gath_perm.symm nd_gaD
theorem cnt_gath {S : List Smp} {p : Pile} : cnt (gath S) p = cnt S p := by
  rw [cnt_perm gath_perm]
  unfold gaD
  rw [cnt_gaF]; show 0 + _ = _; omega
theorem sum_perm {S T : List Smp} (h : S.Perm T) : sumS S = sumS T := by
  induction h with
  | nil => rfl
  | cons x _ ih => simp only [sumS, List.map_cons, List.sum_cons] at ih ⊢; rw [ih]
  | swap x y l => simp only [sumS, List.map_cons, List.sum_cons]; omega
  | trans _ _ i j => exact i.trans j
theorem sum_gath {S : List Smp} : sumS (gath S) = sumS S := by
  rw [sum_perm gath_perm]
  unfold gaD
  rw [sum_gaF]
  simp [sumS]
theorem leS_key {S : List Smp} (nd : (keysS S).Nodup) {a b : Smp} (ha : a ∈ S) (hb : b ∈ S) (h : leS a b = true) (k : leS b a = true) : a = b := by
  rw [leS, decide_eq_true_iff] at h k
  have e : a.1 = b.1 := List.le_antisymm h k
  have e2 := cnt_nd nd ha
  rw [e, cnt_nd nd hb] at e2
  exact Prod.ext e e2.symm
/-- gathered: told by the counts of each pile alone -/
theorem gath_eq {S T : List Smp} (hS : PosS S) (hT : PosS T) (h : ∀ p, cnt S p = cnt T p) : gath S = gath T := by
  have pk : ∀ {S T : List Smp}, PosS S → PosS T → (∀ p, cnt S p = cnt T p) → ∀ q, q ∈ keysS S → q ∈ keysS T := fun {S T} hS hT h q hq => by
    have := (cnt_pos (p := q) hS).2 hq
    rw [h] at this
    by_cases z : q ∈ keysS T
    · exact z
    · rw [cnt_out z] at this; omega
  have p1 : (gaD S).Perm (gaD T) := by
    refine (List.perm_ext_iff_of_nodup (nd_map nd_gaD) (nd_map nd_gaD)).mpr fun s => ?_
    rw [mem_gaD, mem_gaD, h]
    exact ⟨fun z => ⟨z.1, pk hS hT h _ z.2⟩, fun z => ⟨z.1, pk hT hS (fun p => (h p).symm) _ z.2⟩⟩
  have p2 : (gath S).Perm (gath T) := gath_perm.trans (p1.trans gath_perm.symm)
  refine List.Perm.eq_of_pairwise (le := fun a b => leS a b = true) (fun a b ha hb h1 h2 => ?_) gath_sorted gath_sorted p2
  exact leS_key nd_gath ha (p2.symm.subset hb) h1 h2
theorem gaF_app : ∀ {S D : List Smp}, (keysS (D ++ S)).Nodup → gaF D S = D ++ S
  | [], D, _ => by rw [List.append_nil]; rfl
  | s :: S, D, h => by
    have add : ∀ {D : List Smp}, s.1 ∉ keysS D → addS D s.1 s.2 = D ++ [s] := by
      intro D
      induction D with
      | nil => intro _; rfl
      | cons t D ih =>
        intro hn
        have hn' : s.1 ≠ t.1 ∧ s.1 ∉ keysS D := ⟨fun z => hn (z ▸ List.mem_cons_self), fun z => hn (List.mem_cons_of_mem _ z)⟩
        unfold addS
        rw [if_neg (Ne.symm hn'.1), ih hn'.2]; rfl
    have hn : s.1 ∉ keysS D := fun z => by
      have h : (keysS D ++ (s.1 :: keysS S)).Nodup := by
        have : keysS (D ++ s :: S) = keysS D ++ (s.1 :: keysS S) := List.map_append
        rw [← this]; exact h
      exact (List.nodup_append.mp h).2.2 _ z _ List.mem_cons_self rfl
    rw [gaF_cons, add hn, gaF_app (by rw [List.append_assoc]; exact h), List.append_assoc]; rfl
theorem gath_self {S : List Smp} (h : (keysS S).Nodup) (k : S.Pairwise (fun a b => leS a b = true)) : gath S = S := by
  unfold gath gaD
  rw [gaF_app (D := []) h]
  exact List.mergeSort_of_pairwise k
theorem gath_gath {S : List Smp} : gath (gath S) = gath S := gath_self nd_gath gath_sorted
theorem len_addS {p : Pile} {c : Int} : ∀ {D : List Smp}, (addS D p c).length ≤ D.length + 1
  | [] => by simp [addS]
  | t :: D => by
    unfold addS
    have := len_addS (p := p) (c := c) (D := D)
    split <;> simp only [List.length_cons] <;> omega
theorem len_gaF : ∀ {S D : List Smp}, (gaF D S).length ≤ D.length + S.length
  | [], D => by show D.length ≤ _; omega
  | s :: S, D => by
    rw [gaF_cons]
    have := len_gaF (S := S) (D := addS D s.1 s.2)
    have := len_addS (p := s.1) (c := s.2) (D := D)
    simp only [List.length_cons]; omega
theorem len_gath {S : List Smp} : (gath S).length ≤ S.length := by
  rw [gath_perm.length_eq]
  have := len_gaF (S := S) (D := [])
  simp only [List.length_nil] at this
  exact Nat.le_trans this (by omega)
theorem key_gath {S : List Smp} {s : Smp} (h : s ∈ gath S) : s.1 ∈ keysS S := (mem_gaD.mp (gath_perm.subset h)).2
theorem pos_gath {S : List Smp} (h : PosS S) : PosS (gath S) := fun s hs => by
  obtain ⟨e, k⟩ := mem_gaD.mp (gath_perm.subset hs)
  rw [e]
  exact (cnt_pos h).2 k
/-! ### the dict that gathers -/
def plK (p : Pile) : List Key := p.map fun l => .inr (tx l)
def kvD (D : List Smp) : List (List Key × SV) := D.map fun s => (plK s.1, .d (.int s.2))
theorem asKs_pl : ∀ (p : Pile), asKs (p.map nmD) = some (plK p)
  | [] => rfl
  | a :: p => by
    show (asK (nmD a)).bind (fun k => (asKs (p.map nmD)).map (k :: ·)) = _
    rw [asKs_pl p]; rfl
theorem plK_inj : ∀ {p q : Pile}, plK p = plK q → p = q
  | [], [], _ => rfl
  | [], _ :: _, h => by cases h
  | _ :: _, [], h => by cases h
  | a :: p, b :: q, h => by
    obtain ⟨h1, h2⟩ := List.cons.inj (show (Sum.inr (tx a) : Key) :: plK p = Sum.inr (tx b) :: plK q from h)
    rw [tx_inj (Sum.inr.inj h1), plK_inj h2]
theorem plK_key (p : Pile) : (plK p).map keyD = p.map nmD := by
  unfold plK
  rw [List.map_map]; rfl
theorem lk_kv : ∀ {D : List Smp} {p : Pile}, lkG (kvD D) (plK p) = (D.find? fun s => decide (s.1 = p)).map fun s => .d (.int s.2)
  | [], _ => rfl
  | t :: D, p => by
    have ih := lk_kv (D := D) (p := p)
    unfold lkG at ih ⊢
    show Option.map _ (List.find? _ ((plK t.1, SV.d (.int t.2)) :: kvD D)) = _
    by_cases h : t.1 = p
    · subst h
      rw [List.find?_cons_of_pos (by simp), List.find?_cons_of_pos (by simp)]; rfl
    · have h2 : plK t.1 ≠ plK p := fun z => h (plK_inj z)
      rw [List.find?_cons_of_neg (by simpa using h2), List.find?_cons_of_neg (by simpa using h)]
      exact ih
theorem find_cnt : ∀ {D : List Smp} {p : Pile}, (keysS D).Nodup → ((D.find? fun s => decide (s.1 = p)).map (·.2)).getD 0 = cnt D p
  | [], _, _ => rfl
  | t :: D, p, h => by
    have h' : t.1 ∉ keysS D ∧ (keysS D).Nodup := List.nodup_cons.mp h
    by_cases q : t.1 = p
    · subst q
      rw [List.find?_cons_of_pos (by simp)]
      simp only [cnt, cnt_out h'.1]; simp
    · rw [List.find?_cons_of_neg (by simpa using q), find_cnt h'.2]
      simp only [cnt, if_neg q]; omega
theorem lk_cnt {D : List Smp} {p : Pile} (h : (keysS D).Nodup) : (lkG (kvD D) (plK p)).getD (.d (.int 0)) = .d (.int (cnt D p)) := by
  rw [lk_kv, ← find_cnt h]
  cases D.find? fun s => decide (s.1 = p) <;> rfl
theorem lk_mem {D : List Smp} {s : Smp} (h : (keysS D).Nodup) (hs : s ∈ D) : lkG (kvD D) (plK s.1) = some (.d (.int s.2)) := by
  rw [lk_kv]
  have e := find_cnt (p := s.1) h
  rw [cnt_nd h hs] at e
  cases q : D.find? fun t => decide (t.1 = s.1) with
  | none => exact absurd (List.find?_eq_none.mp q s hs) (by simp)
  | some t =>
    rw [q] at e
    have e : t.2 = s.2 := e
    show some (SV.d (.int t.2)) = _
    rw [e]
theorem pt_kv {p : Pile} {c : Int} : ∀ {D : List Smp}, (keysS D).Nodup → ptG (kvD D) (plK p) (.d (.int (cnt D p + c))) = kvD (addS D p c)
  | [], _ => by
    show ([] : List (List Key × SV)) ++ [_] = [_]
    simp [cnt]
  | t :: D, h => by
    have h' : t.1 ∉ keysS D ∧ (keysS D).Nodup := List.nodup_cons.mp h
    have ih := pt_kv (p := p) (c := c) h'.2
    unfold ptG at ih ⊢
    show (if (List.any ((plK t.1, SV.d (.int t.2)) :: kvD D) _) = true then List.map _ ((plK t.1, SV.d (.int t.2)) :: kvD D) else ((plK t.1, SV.d (.int t.2)) :: kvD D) ++ _) = _
    unfold addS
    by_cases q : t.1 = p
    · subst q
      rw [if_pos (by simp), if_pos rfl]
      simp only [List.map_cons, if_true, cnt, cnt_out h'.1]
      have : (kvD D).map (fun kv => if kv.1 = plK t.1 then (kv.1, SV.d (.int (t.2 + 0 + c))) else kv) = kvD D := by
        refine (List.map_congr_left fun kv hkv => ?_).trans (List.map_id _)
        obtain ⟨s, hs, rfl⟩ := List.mem_map.mp hkv
        rw [if_neg]; rfl
        intro z
        exact h'.1 (List.mem_map.mpr ⟨s, hs, plK_inj z⟩)
      rw [this]
      show _ = (plK t.1, SV.d (.int (t.2 + c))) :: kvD D
      simp
    · have q2 : plK t.1 ≠ plK p := fun z => q (plK_inj z)
      rw [if_neg q]
      have ec : cnt (t :: D) p = cnt D p := by simp only [cnt, if_neg q]; omega
      rw [ec]
      simp only [List.any_cons, decide_eq_false q2, Bool.false_or, List.map_cons, if_neg q2, List.cons_append]
      show _ = (plK t.1, SV.d (.int t.2)) :: kvD (addS D p c)
      rw [← ih]
      split <;> rfl
theorem dGet_kv {D : List Smp} {p : Pile} : dGet (.dt (kvD D)) (plD p) = some (lkG (kvD D) (plK p)) := by
  show (asKs (p.map nmD)).map _ = _
  rw [asKs_pl]; rfl
theorem dPut_kv {D : List Smp} {p : Pile} {c : Int} (h : (keysS D).Nodup) (hl : D.length ≤ 100000) : dPut (.dt (kvD D)) (plD p) (.d (.int (cnt D p + c))) = some (.dt (kvD (addS D p c))) := by
  show (if fitsN ((kvD D).length + 1) then (asKs (p.map nmD)).map _ else none) = _
  rw [if_pos (fits_lit (by unfold kvD; rw [List.length_map]; omega)), asKs_pl]
  show some (Ob.dt (ptG (kvD D) (plK p) _)) = _
  rw [pt_kv h]
theorem keysD_kv {D : List Smp} : keysD (.dt (kvD D)) = some (D.map fun s => plD s.1) := by
  show some ((kvD D).map fun p => PyData.tuple (p.1.map keyD)) = _
  unfold kvD
  rw [List.map_map]
  congr 1
  exact List.map_congr_left fun s _ => by show PyData.tuple ((plK s.1).map keyD) = _; rw [plK_key]; rfl
theorem dep_nms : ∀ (p : Pile), PyData.depthAll (p.map nmD) ≤ 1
  | [] => by simp [PyData.depthAll]
  | a :: p => by
    have := dep_nms p
    show PyData.depthAll (nmD a :: p.map nmD) ≤ 1
    simp only [PyData.depthAll, nmD, PyData.depth] at this ⊢
    omega
theorem dep_pl (p : Pile) : (plD p).depth ≤ 2 := by
  have := dep_nms p
  show PyData.depth (.tuple (p.map nmD)) ≤ 2
  simp only [PyData.depth]
  omega
theorem sortD_kv {D : List Smp} (hp : ∀ s ∈ D, s.1 ≠ []) (hl : D.length ≤ 100000) : sortD (D.map fun s => plD s.1) = some ((D.mergeSort leS).map fun s => plD s.1) := by
  unfold sortD
  have h1 : ((D.map fun s => plD s.1).all fun x => (D.map fun s => plD s.1).all fun y => PySem.W.alike x y) = true := by
    rw [List.all_eq_true]
    intro x hx
    rw [List.all_eq_true]
    intro y hy
    obtain ⟨s, _, rfl⟩ := List.mem_map.mp hx
    obtain ⟨t, _, rfl⟩ := List.mem_map.mp hy
    exact al_pl _ _
  have h2 : ((D.map fun s => plD s.1).all tupNe) = true := by
    rw [List.all_eq_true]
    intro x hx
    obtain ⟨s, hs, rfl⟩ := List.mem_map.mp hx
    have := hp s hs
    cases e : s.1 with
    | nil => exact absurd e this
    | cons a r => rfl
  have h3 : ((D.map fun s => plD s.1).all fun x => decide (x.depth ≤ 40)) = true := by
    rw [List.all_eq_true]
    intro x hx
    obtain ⟨s, hs, rfl⟩ := List.mem_map.mp hx
    rw [decide_eq_true_iff]
    exact Nat.le_trans (dep_pl s.1) (by decide)
  have h4 : fitsN (D.map fun s => plD s.1).length = true := fits_lit (by rw [List.length_map]; omega)
  rw [h1, h2, h3, h4]
  show some _ = _
  congr 1
  refine (List.map_mergeSort fun a _ b _ => ?_).symm
  exact (le_pl a.1 b.1).symm
end Pil

set_option Elab.async false
set_option linter.all false
set_option autoImplicit false
set_option maxRecDepth 100000
set_option maxHeartbeats 4000000
namespace Pil
open PySem PySem.Spec PyProof.Rows L2

/-! ### trees -/
inductive Tr where
  | nil | cons (x : List Nat) (o a : Int) (b r : Tr)
abbrev Row := Pile × Int × Int
structure Knt where
  x : List Nat
  o : Int
  a : Int
  b : Tr
def topL : Tr → List Knt
  | .nil => []
  | .cons x o a b r => ⟨x, o, a, b⟩ :: topL r
def ofL : List Knt → Tr
  | [] => .nil
  | k :: ks => .cons k.x k.o k.a k.b (ofL ks)
theorem ofL_top : ∀ t, ofL (topL t) = t
  | .nil => rfl
  | .cons x o a b r => by show Tr.cons x o a b (ofL (topL r)) = _; rw [ofL_top r]
theorem top_ofL : ∀ ks, topL (ofL ks) = ks
  | [] => rfl
  | k :: ks => by show (⟨k.x, k.o, k.a, k.b⟩ : Knt) :: topL (ofL ks) = _; rw [top_ofL ks]
def trL : Tr → List PyData
  | .nil => []
  | .cons x o a b r => .tuple [nmD x, .int o, .int a, .tuple (trL b)] :: trL r
def trD (t : Tr) : PyData := .tuple (trL t)
def knD (k : Knt) : PyData := .tuple [nmD k.x, .int k.o, .int k.a, trD k.b]
theorem trL_top : ∀ t, trL t = (topL t).map knD
  | .nil => rfl
  | .cons x o a b r => by show _ :: trL r = _ :: (topL r).map knD; rw [trL_top r]; rfl
def rwD (r : Row) : PyData := .tuple [plD r.1, .int r.2.1, .int r.2.2]
def rws : Tr → List Row
  | .nil => []
  | .cons x o a b r => ([x], o, a) :: ((rws b).map (fun z => (x :: z.1, z.2)) ++ rws r)
def rowsT (w : Pile) (t : Tr) : List Row := (rws t).map fun z => (w ++ z.1, z.2)
theorem rowsT_nil {w : Pile} : rowsT w .nil = [] := rfl
theorem rowsT_cons {w : Pile} {x : List Nat} {o a : Int} {b r : Tr} : rowsT w (.cons x o a b r) = (w ++ [x], o, a) :: (rowsT (w ++ [x]) b ++ rowsT w r) := by
  unfold rowsT
  simp only [rws, List.map_cons, List.map_append, List.map_map]
  congr 2
  exact List.map_congr_left fun z _ => by simp
theorem rowsT_root {t : Tr} : rowsT [] t = rws t := by
  unfold rowsT
  simp
def lookT : Tr → Pile → Option (Int × Int)
  | .nil, _ => none
  | .cons x o a b r, q => match q with
    | [] => none
    | y :: q' => if y = x then (match q' with
      | [] => some (o, a)
      | z :: q'' => lookT b (z :: q'')) else lookT r (y :: q')
def lowT (y : List Nat) : Tr → Prop
  | .nil => True
  | .cons x _ _ _ r => y < x ∧ lowT y r
def SoT : Tr → Prop
  | .nil => True
  | .cons x _ _ b r => lowT x r ∧ SoT b ∧ SoT r
theorem lowT.trans {x y : List Nat} (h : x < y) : ∀ {t : Tr}, lowT y t → lowT x t
  | .nil, _ => trivial
  | .cons z _ _ _ r, q => ⟨List.lt_trans h q.1, lowT.trans h q.2⟩
theorem look_low {x : List Nat} {q : Pile} : ∀ {t : Tr}, lowT x t → lookT t (x :: q) = none
  | .nil, _ => by simp [lookT]
  | .cons y o a b r, h => by
    have hne : x ≠ y := fun e => List.lt_irrefl _ (e ▸ h.1)
    simp only [lookT, if_neg hne]
    exact look_low h.2
theorem look_empty : ∀ {t : Tr}, lookT t [] = none
  | .nil => by simp [lookT]
  | .cons .. => by simp [lookT]
theorem look_one {x : List Nat} {o a : Int} {b r : Tr} : lookT (.cons x o a b r) [x] = some (o, a) := by simp [lookT]
theorem look_in {x : List Nat} {o a : Int} {b r : Tr} {q : Pile} (h : q ≠ []) : lookT (.cons x o a b r) (x :: q) = lookT b q := by
  cases q with
  | nil => exact absurd rfl h
  | cons z q => simp [lookT]
theorem look_ne {x y : List Nat} {o a : Int} {b r : Tr} {q : Pile} (h : y ≠ x) : lookT (.cons x o a b r) (y :: q) = lookT r (y :: q) := by simp [lookT, h]
/-- two sorted trees that look alike are alike -/
theorem tr_ext : ∀ {s t : Tr}, SoT s → SoT t → (∀ q, lookT s q = lookT t q) → s = t
  | .nil, .nil, _, _, _ => rfl
  | .nil, .cons y o a b r, _, _, h => by have := h [y]; rw [look_one] at this; simp [lookT] at this
  | .cons y o a b r, .nil, _, _, h => by have := h [y]; rw [look_one] at this; simp [lookT] at this
  | .cons x o a b r, .cons x' o' a' b' r', hs, ht, h => by
    have hxx : x = x' := by
      by_cases z1 : x' < x
      · exfalso
        have h1 := h [x']
        rw [look_one, look_ne (fun e => List.lt_irrefl x (by rw [e] at z1; exact z1)), look_low (lowT.trans z1 hs.1)] at h1
        cases h1
      · by_cases z : x < x'
        · exfalso
          have h1 := h [x]
          rw [look_one, look_ne (fun e => List.lt_irrefl x' (by rw [e] at z; exact z)), look_low (lowT.trans z ht.1)] at h1
          cases h1
        · exact List.le_antisymm (List.not_lt.mp z1) (List.not_lt.mp z)
    subst hxx
    have h1 := h [x]
    rw [look_one, look_one] at h1
    cases h1
    have hb : b = b' := tr_ext hs.2.1 ht.2.1 fun q => by
      cases q with
      | nil => rw [look_empty, look_empty]
      | cons z q =>
        have := h (x :: z :: q)
        rwa [look_in (by simp), look_in (by simp)] at this
    have hr : r = r' := tr_ext hs.2.2 ht.2.2 fun q => by
      cases q with
      | nil => rw [look_empty, look_empty]
      | cons z q =>
        by_cases e : z = x
        · subst e
          rw [look_low hs.1, look_low ht.1]
        · have := h (z :: q)
          rwa [look_ne e, look_ne e] at this
    rw [hb, hr]
/-! a sample put in -/
def chainT : Pile → Int → Tr
  | [], _ => .nil
  | x :: q, c => .cons x (if q = [] then c else 0) c (chainT q c) .nil
def insT : Tr → Pile → Int → Tr
  | .nil, p, c => chainT p c
  | .cons y o a b r, p, c => match p with
    | [] => .cons y o a b r
    | x :: q => if x < y then .cons x (if q = [] then c else 0) c (chainT q c) (.cons y o a b r)
      else if x = y then .cons y (if q = [] then o + c else o) (a + c) (insT b q c) r
      else .cons y o a b (insT r (x :: q) c)
theorem so_chain : ∀ {p : Pile} {c : Int}, SoT (chainT p c)
  | [], _ => trivial
  | _ :: _, _ => ⟨trivial, so_chain, trivial⟩
theorem low_chain {x y : List Nat} {q : Pile} {c : Int} (h : x < y) : lowT x (chainT (y :: q) c) := ⟨h, trivial⟩
theorem low_ins {x y : List Nat} {q : Pile} {c : Int} (h : x < y) : ∀ {t : Tr}, lowT x t → lowT x (insT t (y :: q) c)
  | .nil, _ => low_chain h
  | .cons z o a b r, k => by
    simp only [insT]
    split
    · exact ⟨h, k⟩
    · split
      · exact k
      · exact ⟨k.1, low_ins h k.2⟩
theorem so_ins : ∀ {t : Tr} {p : Pile} {c : Int}, SoT t → SoT (insT t p c)
  | .nil, p, c, _ => so_chain
  | .cons z o a b r, [], c, h => h
  | .cons z o a b r, x :: q, c, h => by
    simp only [insT]
    split
    · rename_i hlt
      exact ⟨⟨hlt, lowT.trans hlt h.1⟩, so_chain, h⟩
    · rename_i hn
      split
      · exact ⟨h.1, so_ins h.2.1, h.2.2⟩
      · rename_i hne
        have hlt : z < x := Std.lt_of_le_of_ne (List.not_lt.mp hn) fun e => hne e.symm
        exact ⟨low_ins hlt h.1, h.2.1, so_ins h.2.2⟩
def hitT (p q : Pile) : Bool := !q.isEmpty && q.isPrefixOf p
theorem hit_cons {x y : List Nat} {p q : Pile} : hitT (x :: p) (y :: q) = (decide (y = x) && (q.isEmpty || hitT p q)) := by
  unfold hitT
  cases q with
  | nil => by_cases h : y = x <;> simp [List.isPrefixOf, h]
  | cons z q =>
    by_cases h : y = x
    · simp [List.isPrefixOf, h]
    · simp [List.isPrefixOf, h]
theorem hit_nil {q : Pile} : hitT [] q = false := by cases q <;> simp [hitT, List.isPrefixOf]
theorem hit_nil2 {p : Pile} : hitT p [] = false := by simp [hitT]
theorem look_chain : ∀ {p q : Pile} {c : Int}, lookT (chainT p c) q = if hitT p q = true then some (if p = q then c else 0, c) else none
  | [], q, c => by rw [hit_nil]; simp [chainT, lookT]
  | x :: p, [], c => by rw [hit_nil2, look_empty]; simp
  | x :: p, y :: q, c => by
    rw [hit_cons]
    by_cases h : y = x
    · subst h
      cases q with
      | nil =>
        show lookT (.cons y _ c _ _) [y] = _
        rw [look_one]
        simp [eq_comm]
      | cons z q =>
        show lookT (.cons y _ c _ _) (y :: z :: q) = _
        rw [look_in (by simp), look_chain]
        simp
    · show lookT (.cons x _ c _ _) (y :: q) = _
      rw [look_ne h]
      simp [h, lookT]
theorem look_ins : ∀ {t : Tr} {p q : Pile} {c : Int}, SoT t → lookT (insT t p c) q = if hitT p q = true then some (((lookT t q).getD (0, 0)).1 + (if p = q then c else 0), ((lookT t q).getD (0, 0)).2 + c) else lookT t q
  | .nil, p, q, c, _ => by
    show lookT (chainT p c) q = _
    rw [look_chain]
    simp [lookT]
  | .cons y o a b r, [], q, c, _ => by rw [hit_nil]; simp [insT]
  | .cons y o a b r, x :: p, [], c, _ => by rw [hit_nil2, look_empty, look_empty]; simp
  | .cons y o a b r, x :: p, z :: q, c, h => by
    rw [hit_cons]
    simp only [insT]
    by_cases h1 : x < y
    · rw [if_pos h1]
      by_cases hz : z = x
      · subst hz
        have e0 : lookT (.cons y o a b r) (z :: q) = none := look_low (t := .cons y o a b r) ⟨h1, lowT.trans h1 h.1⟩
        rw [e0]
        cases q with
        | nil => rw [look_one]; simp
        | cons w q =>
          rw [look_in (by simp), look_chain]
          simp
      · rw [look_ne hz]; simp [hz]
    · rw [if_neg h1]
      by_cases h2 : x = y
      · subst h2
        rw [if_pos rfl]
        by_cases hz : z = x
        · subst hz
          cases q with
          | nil => rw [look_one, look_one]; cases p <;> simp
          | cons w q =>
            rw [look_in (by simp), look_in (by simp), look_ins h.2.1]
            simp
        · rw [look_ne hz, look_ne hz]; simp [hz]
      · rw [if_neg h2]
        by_cases hz : z = y
        · subst hz
          have e : decide (z = x) = false := by simp; exact fun e => h2 e.symm
          rw [e]
          cases q with
          | nil => rw [look_one, look_one]; simp
          | cons w q => rw [look_in (by simp), look_in (by simp)]; simp
        · rw [look_ne hz, look_ne hz, look_ins h.2.2, hit_cons]
/-! the tree of samples -/
def treeF (t : Tr) (S : List Smp) : Tr := S.foldl (fun t s => insT t s.1 s.2) t
def treeOf (S : List Smp) : Tr := treeF .nil S
def pre : List Smp → Pile → Int
  | [], _ => 0
  | s :: S, q => (if hitT s.1 q = true then s.2 else 0) + pre S q
def hitS (S : List Smp) (q : Pile) : Bool := S.any fun s => hitT s.1 q
theorem so_treeF : ∀ {S : List Smp} {t : Tr}, SoT t → SoT (treeF t S)
  | [], _, h => h
  | s :: S, t, h => so_treeF (S := S) (so_ins h)
theorem so_tree {S : List Smp} : SoT (treeOf S) := so_treeF (t := .nil) True.intro
theorem hit_self {p : Pile} (h : p ≠ []) : hitT p p = true := by
  cases p with
  | nil => exact absurd rfl h
  | cons x p => simp [hitT, List.isPrefixOf_iff_prefix]
theorem look_treeF : ∀ {S : List Smp} {t : Tr} {q : Pile}, SoT t → (∀ s ∈ S, s.1 ≠ []) → lookT (treeF t S) q = if hitS S q = true ∨ (lookT t q).isSome then some (((lookT t q).getD (0, 0)).1 + cnt S q, ((lookT t q).getD (0, 0)).2 + pre S q) else none
  | [], t, q, _, _ => by
    show lookT t q = _
    cases e : lookT t q with
    | none => simp [hitS]
    | some z => simp [hitS, cnt, pre]
  | s :: S, t, q, h, hs => by
    show lookT (treeF (insT t s.1 s.2) S) q = _
    rw [look_treeF (so_ins h) fun x hx => hs x (List.mem_cons_of_mem _ hx), look_ins h]
    have hs1 := hs s List.mem_cons_self
    by_cases hh : hitT s.1 q = true
    · rw [if_pos hh]
      have e2 : hitS (s :: S) q = true := by simp [hitS, hh]
      rw [e2]
      simp only [cnt, pre, hh]
      simp
      constructor <;> omega
    · rw [if_neg hh]
      have e2 : hitS (s :: S) q = hitS S q := by simp [hitS, hh]
      have e3 : s.1 ≠ q := fun e => hh (e ▸ hit_self hs1)
      rw [e2]
      simp only [cnt, pre, hh, if_neg e3]
      simp
theorem look_tree {S : List Smp} {q : Pile} (hs : ∀ s ∈ S, s.1 ≠ []) : lookT (treeOf S) q = if hitS S q = true then some (cnt S q, pre S q) else none := by
  unfold treeOf
  rw [look_treeF (t := .nil) True.intro hs]
  simp [lookT]
/-! rows -/
theorem rws_ne : ∀ {t : Tr} {z : Row}, z ∈ rws t → z.1 ≠ []
  | .nil, _, h => by cases h
  | .cons x o a b r, z, h => by
    simp only [rws, List.mem_cons, List.mem_append, List.mem_map] at h
    rcases h with rfl | ⟨y, _, rfl⟩ | h
    · simp
    · simp
    · exact rws_ne h
theorem rws_low {y : List Nat} : ∀ {t : Tr}, lowT y t → ∀ z ∈ rws t, ∃ x q, z.1 = x :: q ∧ y < x
  | .nil, _, _, h => by cases h
  | .cons x o a b r, k, z, h => by
    simp only [rws, List.mem_cons, List.mem_append, List.mem_map] at h
    rcases h with rfl | ⟨w, _, rfl⟩ | h
    · exact ⟨x, [], rfl, k.1⟩
    · exact ⟨x, w.1, rfl, k.1⟩
    · exact rws_low k.2 z h
theorem rws_sorted : ∀ {t : Tr}, SoT t → (rws t).Pairwise fun a b => a.1 < b.1
  | .nil, _ => List.Pairwise.nil
  | .cons x o a b r, h => by
    simp only [rws, List.pairwise_cons, List.pairwise_append, List.mem_append, List.mem_map]
    refine ⟨fun z hz => ?_, ?_, rws_sorted h.2.2, fun u hu z hz => ?_⟩
    · rcases hz with ⟨w, hw, rfl⟩ | hz
      · have := rws_ne hw
        show [x] < x :: w.1
        rw [List.cons_lt_cons_iff]
        refine .inr ⟨rfl, ?_⟩
        cases e : w.1 with
        | nil => exact absurd e this
        | cons c d => exact List.nil_lt_cons _ _
      · obtain ⟨y, q, e, hy⟩ := rws_low h.1 z hz
        show [x] < z.1
        rw [e, List.cons_lt_cons_iff]
        exact .inl hy
    · refine List.Pairwise.map _ (fun u v huv => ?_) (rws_sorted h.2.1)
      show x :: u.1 < x :: v.1
      rw [List.cons_lt_cons_iff]
      exact .inr ⟨rfl, huv⟩
    · obtain ⟨w, hw, rfl⟩ := hu
      obtain ⟨y, q, e, hy⟩ := rws_low h.1 z hz
      show x :: w.1 < z.1
      rw [e, List.cons_lt_cons_iff]
      exact .inl hy
theorem rws_look : ∀ {t : Tr} {q : Pile} {z : Int × Int}, SoT t → ((q, z) ∈ rws t ↔ lookT t q = some z)
  | .nil, q, z, _ => by simp [rws, lookT]
  | .cons x o a b r, [], z, h => by
    rw [look_empty]
    exact ⟨fun k => absurd rfl (rws_ne k), fun k => by cases k⟩
  | .cons x o a b r, y :: q, z, h => by
    have hr := rws_look (t := r) (q := y :: q) (z := z) h.2.2
    have hb := rws_look (t := b) (q := q) (z := z) h.2.1
    simp only [rws, List.mem_cons, List.mem_append, List.mem_map]
    by_cases e : y = x
    · subst e
      have n1 : ¬ (y :: q, z) ∈ rws r := fun k => by
        obtain ⟨x', q', e', hlt⟩ := rws_low h.1 _ k
        cases e'
        exact List.lt_irrefl _ hlt
      cases q with
      | nil =>
        rw [look_one]
        constructor
        · rintro (k | ⟨w, hw, k⟩ | k)
          · cases k; rfl
          · have := rws_ne hw
            cases w
            cases k
            exact absurd rfl this
          · exact absurd k n1
        · intro k
          cases k
          exact .inl rfl
      | cons w q =>
        rw [look_in (by simp), ← hb]
        constructor
        · rintro (k | ⟨v, hv, k⟩ | k)
          · cases k
          · cases v
            cases k
            exact hv
          · exact absurd k n1
        · intro k
          exact .inr (.inl ⟨_, k, rfl⟩)
    · rw [look_ne e, ← hr]
      constructor
      · rintro (k | ⟨v, hv, k⟩ | k)
        · cases k; exact absurd rfl e
        · cases v; cases k; exact absurd rfl e
        · exact k
      · exact fun k => .inr (.inr k)
/-- rising rows that tell the same are the same -/
theorem rows_ext {α : Type} {R T : List (Pile × α)} (hR : R.Pairwise fun a b => a.1 < b.1) (hT : T.Pairwise fun a b => a.1 < b.1) (h : ∀ z, z ∈ R ↔ z ∈ T) : R = T := by
  have nd : ∀ {R : List (Pile × α)}, R.Pairwise (fun a b => a.1 < b.1) → R.Nodup := fun hR => List.Pairwise.imp (fun {a b} (q : a.1 < b.1) (e : a = b) => List.lt_irrefl b.1 (by rw [e] at q; exact q)) hR
  refine List.Perm.eq_of_pairwise (le := fun a b => a.1 < b.1) (fun a b _ _ h1 h2 => absurd (List.lt_trans h1 h2) (List.lt_irrefl _)) hR hT ?_
  exact (List.perm_ext_iff_of_nodup (nd hR) (nd hT)).mpr h
/-! rows out of samples, pile by pile -/
def begs (p : Pile) : List Pile := (List.range p.length).map fun k => p.take (k + 1)
def preS (S : List Smp) : List Smp := S.flatMap fun s => (begs s.1).map fun p => (p, s.2)
theorem mem_begs {p q : Pile} : q ∈ begs p ↔ hitT p q = true := by
  unfold begs hitT
  simp only [List.mem_map, List.mem_range, Bool.and_eq_true, Bool.not_eq_true', List.isEmpty_eq_false_iff, List.isPrefixOf_iff_prefix]
  constructor
  · rintro ⟨k, hk, rfl⟩
    refine ⟨fun e => ?_, List.take_prefix _ _⟩
    have := congrArg List.length e
    rw [List.length_take, List.length_nil] at this
    omega
  · rintro ⟨h1, h2⟩
    have hl := h2.length_le
    have hp : 0 < q.length := List.length_pos_iff.mpr h1
    refine ⟨q.length - 1, by omega, ?_⟩
    rw [show q.length - 1 + 1 = q.length by omega]
    exact (List.prefix_iff_eq_take.mp h2).symm
theorem nd_begs {p : Pile} : (begs p).Nodup := by
  refine List.Pairwise.imp_of_mem (R := fun a b => a.length < b.length) (fun _ _ h e => by rw [e] at h; omega) ?_
  unfold begs
  refine List.Pairwise.map _ (R := fun i j => i < j ∧ j < p.length) (fun i j h => ?_) ?_
  · show (p.take (i + 1)).length < (p.take (j + 1)).length
    rw [List.length_take, List.length_take]
    omega
  · exact List.Pairwise.imp_of_mem (fun {a b} ha hb h => ⟨h, List.mem_range.mp hb⟩) List.pairwise_lt_range
theorem cnt_const {c : Int} {q : Pile} : ∀ {ps : List Pile}, ps.Nodup → cnt (ps.map fun p => (p, c)) q = if q ∈ ps then c else 0
  | [], _ => by simp [cnt]
  | p :: ps, h => by
    obtain ⟨h1, h2⟩ := List.nodup_cons.mp h
    show (if p = q then c else 0) + cnt (ps.map fun p => (p, c)) q = _
    rw [cnt_const h2]
    by_cases e : p = q
    · subst e; simp [h1]
    · have : ¬ q = p := fun z => e z.symm
      simp [e, this]
theorem cnt_preS {q : Pile} : ∀ {S : List Smp}, cnt (preS S) q = pre S q
  | [] => rfl
  | s :: S => by
    show cnt ((begs s.1).map (fun p => (p, s.2)) ++ preS S) q = _
    rw [cnt_append, cnt_preS, cnt_const nd_begs]
    simp only [pre]
    congr 1
    by_cases h : hitT s.1 q = true
    · rw [if_pos (mem_begs.mpr h), if_pos h]
    · rw [if_neg (fun z => h (mem_begs.mp z)), if_neg h]
theorem keys_preS {q : Pile} {S : List Smp} : q ∈ keysS (preS S) ↔ hitS S q = true := by
  unfold keysS preS hitS
  simp only [List.mem_map, List.mem_flatMap, List.any_eq_true]
  constructor
  · rintro ⟨s, ⟨t, ht, p, hp, rfl⟩, rfl⟩
    exact ⟨t, ht, mem_begs.mp hp⟩
  · rintro ⟨t, ht, h⟩
    exact ⟨(q, t.2), ⟨t, ht, q, mem_begs.mpr h, rfl⟩, rfl⟩
def rowsS (S : List Smp) : List Row := (gath (preS S)).map fun s => (s.1, cnt S s.1, s.2)
theorem gath_lt {S : List Smp} : (gath S).Pairwise fun a b => a.1 < b.1 := by
  have h := List.pairwise_map.mp (nd_gath (S := S))
  refine (List.Pairwise.and gath_sorted h).imp fun {a b} z => ?_
  have h1 : a.1 ≤ b.1 := by simpa [leS] using z.1
  exact Std.lt_of_le_of_ne h1 z.2
theorem rows_tree {S : List Smp} (hs : ∀ s ∈ S, s.1 ≠ []) : rws (treeOf S) = rowsS S := by
  refine rows_ext (rws_sorted so_tree) (List.Pairwise.map _ (fun _ _ h => h) gath_lt) ?_
  rintro ⟨q, o, a⟩
  rw [rws_look so_tree, look_tree hs]
  unfold rowsS
  simp only [List.mem_map]
  constructor
  · intro h
    split at h
    · rename_i hh
      cases h
      refine ⟨(q, pre S q), ?_, rfl⟩
      refine gath_perm.symm.subset (mem_gaD.mpr ⟨cnt_preS.symm, keys_preS.mpr hh⟩)
    · cases h
  · rintro ⟨s, h1, h2⟩
    obtain ⟨e1, e2⟩ := mem_gaD.mp (gath_perm.subset h1)
    cases h2
    rw [if_pos (keys_preS.mp e2), e1, cnt_preS]
/-! at a way -/
def atT : Tr → Pile → Int × Int → Int × Int
  | _, [], f => f
  | t, x :: w, _ => match (topL t).find? fun k => k.x == x with
    | none => (0, 0)
    | some k => atT k.b w (k.o, k.a)
theorem at_look : ∀ {w : Pile} {t : Tr} {f : Int × Int}, w ≠ [] → atT t w f = (lookT t w).getD (0, 0) := by
  intro w
  induction w with
  | nil => exact fun h => absurd rfl h
  | cons x w ih =>
    intro t f _
    induction t with
    | nil => simp [atT, lookT, topL]
    | cons y o a b r _ ihr =>
      by_cases e : y = x
      · subst e
        have : atT (.cons y o a b r) (y :: w) f = atT b w (o, a) := by simp [atT, topL]
        rw [this]
        cases w with
        | nil => rw [look_one]; simp [atT]
        | cons z w => rw [look_in (by simp)]; exact ih (by simp)
      · have : atT (.cons y o a b r) (x :: w) f = atT r (x :: w) f := by simp [atT, topL, e]
        rw [this, ihr, look_ne fun z => e z.symm]
end Pil

set_option Elab.async false
set_option linter.all false
set_option autoImplicit false
set_option maxRecDepth 100000
set_option maxHeartbeats 4000000
namespace Pil
open PySem PySem.Spec PyProof.Rows L2
section
variable {G : Nat → Option Fn} {n : Nat}
theorem law_end {g : Nat} {F : Fn} {ns : List Int} (hG : G g = some F) (hk : F.keep = false) (hl : 1 = F.ps.length) (h : FlP (exs (callI G n) F.body ([SV.ext ns].map some ++ List.replicate (F.ns.length - 1) none) []) (fun _ _ => False) fun x m => x = .d (.bool true)) : ∃ m, callI G (n + 1) g [.ext ns] [] = .ok (.d (.bool true)) m := by
  rw [callI_s (xs := [SV.ext ns]) hG hl, hk]
  cases e : exs (callI G n) F.body ([SV.ext ns].map some ++ List.replicate (F.ns.length - 1) none) [] with
  | ret x m =>
    rw [e] at h
    have h : x = .d (.bool true) := h
    subst h
    have old : OkOld ([] : Sto) m := ⟨Nat.zero_le _, fun l o h => by cases h⟩
    exact ⟨_, fin_d old⟩
  | _ => rw [e] at h; exact h.elim
theorem ss_fine {n : Nat} {S : List Smp} (h : ∀ s ∈ S, ∀ x ∈ s.1, NameOk x) : Fine (n + 3) (ssD S) := fine_tup fun y hy => by
  obtain ⟨s, hs, rfl⟩ := List.mem_map.mp hy
  exact fine_tup fun z hz => by
    simp only [List.mem_cons, List.not_mem_nil, or_false] at hz
    rcases hz with rfl | rfl
    · exact pl_fine (h s hs)
    · exact fine_int
theorem plN_pl {k : Nat} {p : Pile} (h : p.length ≤ 16777216) : PlN (k + 1) (plD p) := by
  rw [PlN]
  refine .inr ⟨_, rfl, by rw [List.length_map]; exact h, fun x hx => ?_⟩
  obtain ⟨l, _, rfl⟩ := List.mem_map.mp hx
  cases k <;> (rw [PlN]; simp [PlN, nmD])
theorem plN_ss {k : Nat} {S : List Smp} (h : ∀ s ∈ S, s.1.length ≤ 16777216) (hS : S.length ≤ 16777216) : PlN (k + 3) (ssD S) := by
  rw [PlN]
  refine .inr ⟨_, rfl, by rw [List.length_map]; exact hS, fun x hx => ?_⟩
  obtain ⟨s, hs, rfl⟩ := List.mem_map.mp hx
  rw [PlN]
  refine .inr ⟨_, rfl, by show 2 ≤ _; decide, fun y hy => ?_⟩
  simp only [List.mem_cons, List.not_mem_nil, or_false] at hy
  rcases hy with rfl | rfl
  · exact plN_pl (h s hs)
  · simp [PlN]
end
end Pil

set_option Elab.async false
set_option linter.all false
set_option autoImplicit false
set_option maxRecDepth 100000
set_option maxHeartbeats 4000000
namespace Pil
open PySem PySem.Spec PyProof.Rows L2
section
variable {G : Nat → Option Fn} {n : Nat}
/-! ### shared: comprehensions, ranges, lists of names -/
/-! a comprehension's two parts, looked at where they run -/
def tstF (C : Nat → List SV → Sto → Out SV) (own : List Nat) (t : Tg) (c : Eo) (r : Rho) : PyData → Sto → Out Bool := fun x m => match asgT t x (killR own r) with
  | some r1 => (evT C c r1 m).nox
  | none => .bad
def eltF (C : Nat → List SV → Sto → Out SV) (own : List Nat) (t : Tg) (e : E) (r : Rho) : PyData → Sto → Out PyData := fun x m => match asgT t x (killR own r) with
  | some r1 => ((ev C e r1 m).bind fun y m' => match y with
    | .d z => .ok z m'
    | _ => .bad).nox
  | none => .bad
theorem ev_comp {C : Nat → List SV → Sto → Out SV} {own : List Nat} {t : Tg} {it : It} {c : Eo} {e : E} {r : Rho} {m : Sto} : ev C (.comp own t it c e) r m = (evI C it r m).bind fun q m1 => (compL (tstF C own t c r) (eltF C own t e r) q.1 (lockM q.2 m1)).bind fun ys m2 => if fitsN ys.length then .ok (.d (.list ys)) (openM q.2 q.1 m2) else .bad := rfl
theorem rng_if {k : Nat} {m : Sto} (hk : k ≤ 1000000) : (if small62 (k : Int) = true then (Out.ok (rngD 0 (k : Int), (none : Option Nat)) m) else .bad) = .ok ((List.range k).map fun i => PyData.int (i : Nat), none) m := by
  rw [if_pos (small62_of (by omega) (by omega)), rng_nat]
theorem evI_rng1 {C : Nat → List SV → Sto → Out SV} {e : E} {r : Rho} {m : Sto} {k : Nat} (h : ev C e r m = .ok (.d (.int (k : Nat))) m) (hk : k ≤ 1000000) : evI C (.rng1 e) r m = .ok ((List.range k).map fun i => PyData.int (i : Nat), none) m := by
  rw [← rng_if (m := m) hk, evI, h]
  rw [ok_bind]
theorem rng_if2 {i k : Nat} {m : Sto} (hi : i ≤ 1000000) (hk : k ≤ 1000000) : (if (small62 (i : Int) && small62 (k : Int)) = true then (Out.ok (rngD (i : Int) (k : Int), (none : Option Nat)) m) else .bad) = .ok ((List.range (k - i)).map fun j => PyData.int ((i : Int) + (j : Nat)), none) m := by
  rw [if_pos (by rw [small62_of (i := (i : Int)) (by omega) (by omega), small62_of (i := (k : Int)) (by omega) (by omega)]; rfl)]
  unfold rngD
  rw [show ((k : Int) - (i : Int)).toNat = k - i by omega]
theorem evI_rng2 {C : Nat → List SV → Sto → Out SV} {a b : E} {r : Rho} {m : Sto} {i k : Nat} (h : ev C a r m = .ok (.d (.int (i : Nat))) m) (h2 : ev C b r m = .ok (.d (.int (k : Nat))) m) (hi : i ≤ 1000000) (hk : k ≤ 1000000) : evI C (.rng2 a b) r m = .ok ((List.range (k - i)).map fun j => PyData.int ((i : Int) + (j : Nat)), none) m := by
  rw [← rng_if2 (m := m) hi hk, evI, h]
  rw [ok_bind, h2]
  rw [ok_bind]
def rng2K (C : Nat → List SV → Sto → Out SV) (a b : E) (r : Rho) (m : Sto) : Out (List PyData × Option Nat) := evI C (.rng2 a b) r m
theorem evI_r2 {C : Nat → List SV → Sto → Out SV} {a b : E} {r : Rho} {m : Sto} : evI C (.rng2 a b) r m = rng2K C a b r m := rfl
theorem ev_len {C : Nat → List SV → Sto → Out SV} {i : Nat} {r : Rho} {m : Sto} {p : Pile} (h : r[i]? = some (some (.d (plD p)))) : ev C (.blt .len (.cons (.var i) .nil)) r m = .ok (.d (.int (p.length : Nat))) m := by
  have e : bfn .len [plD p] = some (.int p.length) := by
    show some (PyData.int ((p.map nmD).length : Nat)) = _
    rw [List.length_map]
  simp only [ev, evs, h, ok_bind, datAll, dat, Option.bind_some, Option.map_some, e, of_some]
theorem asInts_mapF {α : Type} {f : α → Int} : ∀ {xs : List α}, asInts (xs.map fun a => PyData.int (f a)) = some (xs.map f)
  | [] => rfl
  | x :: xs => by
    show (asInts (xs.map fun a => PyData.int (f a))).map (f x :: ·) = _
    rw [asInts_mapF]; rfl
theorem eq_nmD {a b : List Nat} : eqD (nmD a) (nmD b) = some (a == b) := by show eqD (.str (tx a)) (.str (tx b)) = _; rw [eqD_ss, tx_beq]
theorem getD_mem {p : Pile} {k : Nat} (h : k < p.length) : p.getD k [] ∈ p := by
  rw [List.getD_eq_getElem?_getD, List.getElem?_eq_getElem h]
  exact List.getElem_mem h
theorem bfn_sumM {α : Type} {f : α → Int} {xs : List α} : bfn .sum [.list (xs.map fun a => PyData.int (f a))] = some (.int (xs.map f).sum) := by
  show (asInts _).map _ = _
  rw [asInts_mapF]; rfl
theorem nms_fine {F : Pile} (h : ∀ x ∈ F, NameOk x) : Fine 1 (.list (F.map nmD)) := fine_list fun y hy => by
  obtain ⟨l, hl, rfl⟩ := List.mem_map.mp hy
  exact fine_str (tx_ok (h l hl).lt)
theorem ix_pl {p : Pile} {k : Nat} (h : k < p.length) : ixD (.tuple (p.map nmD)) (.int (k : Nat)) = some (nmD (p.getD k [])) := by
  rw [ix_in h, List.getD_eq_getElem?_getD, List.getElem?_eq_getElem h]; rfl
theorem ix_last {F : Pile} {y : List Nat} : ixD (.list ((F ++ [y]).map nmD)) (.int (-1)) = some (nmD y) := by
  show L2.atI ((F ++ [y]).map nmD) (-1) = _
  unfold L2.atI L2.ixN
  rw [if_neg (by decide), if_pos (by rw [List.length_map, List.length_append, List.length_cons, List.length_nil]; omega)]
  show ((F ++ [y]).map nmD)[_]? = _
  have : (((-1 : Int) + (((F ++ [y]).map nmD).length : Nat)).toNat) = F.length := by rw [List.length_map, List.length_append, List.length_cons, List.length_nil]; omega
  rw [this, List.getElem?_map, List.getElem?_append_right (Nat.le_refl _), Nat.sub_self]; rfl
theorem app_nm {F : Pile} {x : List Nat} (h : F.length ≤ 1000) : mmu .append (F.map nmD) [nmD x] = some ((F ++ [x]).map nmD, .none) := by
  rw [app_mmu (by rw [List.length_map]; omega), List.map_append]; rfl
def mapS (f : Pile → Pile) (S : List Smp) : List Smp := S.map fun s => (f s.1, s.2)
theorem in_nm {x : List Nat} {F : Pile} : inD (nmD x) (.list (F.map nmD)) = some (F.any fun y => y == x) := by
  show (if flatD (nmD x) && (F.map nmD).all flatD then some ((F.map nmD).any fun y => eqF y (nmD x)) else none) = _
  have : (F.map nmD).all flatD = true := by
    rw [List.all_eq_true]
    intro y hy
    obtain ⟨l, _, rfl⟩ := List.mem_map.mp hy
    rfl
  rw [this, List.any_map]
  show some (F.any fun y => tx y == tx x) = _
  simp only [tx_beq]
theorem index_nm {x : List Nat} {F : Pile} : mfn .lindex (.list (F.map nmD)) [nmD x] = (F.findIdx? fun y => y == x).map fun (j : Nat) => .int (j : Int) := by
  show (if flatD (nmD x) && (F.map nmD).all flatD then (F.map nmD).findIdx? fun z => eqF z (nmD x) else none).map _ = _
  have : (F.map nmD).all flatD = true := by
    rw [List.all_eq_true]
    intro y hy
    obtain ⟨l, _, rfl⟩ := List.mem_map.mp hy
    rfl
  rw [this]
  show Option.map _ ((F.map nmD).findIdx? _) = _
  rw [List.findIdx?_map]
  show Option.map _ (F.findIdx? fun y => tx y == tx x) = _
  simp only [tx_beq]
section
variable {m c : Sto} {a o : Ob}
theorem mc_get : (m ++ (c ++ [a]))[m.length + c.length]? = some a := by
  rw [List.getElem?_append_right (by omega), List.getElem?_append_right (by omega)]
  have : m.length + c.length - m.length - c.length = 0 := by omega
  rw [this]; rfl
theorem mc_set : (m ++ (c ++ [a])).set (m.length + c.length) o = m ++ (c ++ [o]) := by
  rw [List.set_append_right _ _ (by omega), List.set_append_right _ _ (by omega)]
  have : m.length + c.length - m.length - c.length = 0 := by omega
  rw [this]; rfl
end
theorem FlP.while2 {N : Rho → Sto → Prop} {R : SV → Sto → Prop} {tst : Rho → Sto → Out Bool} {step : Rho → Sto → Fl} {kill : List Nat} {fuel : Nat} {r : Rho} {m : Sto} (I : Nat → Rho → Sto → Prop) (k : Nat) (hk : k < fuel) (h0 : I k r m) (hs : ∀ j r m, I j r m → (tst r m = .ok true m ∧ FlP (step r m) (fun r' m' => ∃ i, i < j ∧ I i (killR kill r') m') R) ∨ (tst r m = .ok false m ∧ N r m)) : FlP (whlL tst step kill fuel r m) N R :=
  FlP.while I k hk h0 fun j r m h => by
    rcases hs j r m h with ⟨e, q⟩ | ⟨e, q⟩
    · exact ⟨true, m, e, by show (if true = true then FlP (step r m) (fun r' m' => ∃ i, i < j ∧ I i (killR kill r') m') R else N r m); rw [if_pos rfl]; exact q⟩
    · exact ⟨false, m, e, by show (if false = true then FlP (step r m) (fun r' m' => ∃ i, i < j ∧ I i (killR kill r') m') R else N r m); rw [if_neg Bool.false_ne_true]; exact q⟩
/-- some drawn names -/
theorem picks_p (h6 : G 6 = some F6) (h7 : G 7 = some F7) {k : Deck} {B : Int} {rest : Sto} {names : List (List Nat)} {xs : List PyData} {tst : PyData → Sto → Out Bool} {elt : PyData → Sto → Out PyData} {K : List PyData → Sto → Prop} (hk : k.Ok B) (hB : B + xs.length < 2 ^ 59) (h1 : 1 ≤ names.length) (h2 : names.length ≤ 100)
    (ht : ∀ x ∈ xs, ∀ m, tst x m = .ok true m) (he : ∀ x ∈ xs, ∀ m, elt x m = ((callI G (n + 2) 7 [.ref 1, .d (.list (names.map nmD))] m).bind fun y m' => match y with
      | .d z => .ok z m'
      | _ => .bad).nox)
    (hK : ∀ (ls : Pile) (k' : Deck), ls.length = xs.length → (∀ l ∈ ls, l ∈ names) → k'.Ok (B + xs.length) → K (ls.map nmD) (k'.st ++ rest)) : OutP (compL tst elt xs (k.st ++ rest)) K := by
  refine OutP.comp (fun ys zs m => ∃ (k' : Deck) (ls : Pile), m = k'.st ++ rest ∧ k'.Ok (B + zs.length) ∧ zs = ls.map nmD ∧ (∀ l ∈ ls, l ∈ names) ∧ ys.length + zs.length = xs.length ∧ (∀ y ∈ ys, y ∈ xs)) ⟨k, [], rfl, hk.mono (by simp), rfl, (fun l hl => by cases hl), by simp, fun y hy => hy⟩ ?_ ?_
  · rintro x ys zs m ⟨k', ls, rfl, hk', rfl, hls, hlen, hin⟩
    rw [List.length_cons] at hlen
    have hx := hin x List.mem_cons_self
    refine ⟨true, _, ht x hx _, ?_⟩
    show (if true = true then OutP (elt x (k'.st ++ rest)) _ else _)
    rw [if_pos rfl, he x hx]
    refine OutP.nox (OutP.bind ?_)
    refine pick_m (f := nmD) h6 h7 hk' (by omega) (by omega) (by omega) (fun _ _ _ => rfl) fun y hy k2 hk2 => ?_
    refine OutP.ok ⟨k2, ls ++ [y], rfl, hk2.mono ?_, by rw [List.map_append]; rfl, fun l hl => ?_, ?_, fun z hz => hin z (List.mem_cons_of_mem _ hz)⟩
    · rw [List.length_append, List.length_cons, List.length_nil]; omega
    · rcases List.mem_append.mp hl with hl | hl
      · exact hls l hl
      · rw [List.mem_singleton] at hl; subst hl; exact hy
    · rw [List.length_append, List.length_cons, List.length_nil]; omega
  · rintro zs m ⟨k', ls, rfl, hk', rfl, hls, hlen, _⟩
    rw [List.length_nil, List.length_map] at hlen
    exact hK ls k' (by omega) hls (hk'.mono (by rw [List.length_map]; omega))
/-! ranges, out of sight -/
def rng1K (C : Nat → List SV → Sto → Out SV) (e : E) (r : Rho) (m : Sto) : Out (List PyData × Option Nat) := evI C (.rng1 e) r m
theorem evI_r1 {C : Nat → List SV → Sto → Out SV} {e : E} {r : Rho} {m : Sto} : evI C (.rng1 e) r m = rng1K C e r m := rfl
theorem rng1K_of {C : Nat → List SV → Sto → Out SV} {e : E} {r : Rho} {m : Sto} {k : Nat} (h : ev C e r m = .ok (.d (.int (k : Nat))) m) (hk : k ≤ 1000000) : rng1K C e r m = .ok ((List.range k).map fun i => PyData.int (i : Nat), none) m := evI_rng1 h hk
theorem flat_rep {k : Nat} {a : List Nat} : (List.replicate k [nmD a]).flatten = (List.replicate k a).map nmD := by
  induction k with
  | zero => rfl
  | succ k ih => rw [List.replicate_succ, List.flatten_cons, ih, List.replicate_succ]; rfl
theorem ix_nmL {p : Pile} {k : Nat} (h : k < p.length) : ixD (.list (p.map nmD)) (.int (k : Nat)) = some (nmD (p.getD k [])) := by
  rw [ix_inL h, List.getD_eq_getElem?_getD, List.getElem?_eq_getElem h]; rfl
/-! ### the greatest -/
theorem max_spec : ∀ {xs : List Int}, xs ≠ [] → ∃ m, maxI xs = some m ∧ m ∈ xs ∧ ∀ y ∈ xs, y ≤ m := by
  have aux : ∀ (r : List Int) (n : Int), (r.foldl max n = n ∨ r.foldl max n ∈ r) ∧ n ≤ r.foldl max n ∧ ∀ y ∈ r, y ≤ r.foldl max n := by
    intro r
    induction r with
    | nil => exact fun n => ⟨.inl rfl, Int.le_refl _, fun y hy => by cases hy⟩
    | cons a r ih =>
      intro n
      obtain ⟨h1, h2, h3⟩ := ih (max n a)
      show ((r.foldl max (max n a)) = n ∨ (r.foldl max (max n a)) ∈ a :: r) ∧ n ≤ r.foldl max (max n a) ∧ _
      refine ⟨?_, by omega, fun y hy => ?_⟩
      · rcases h1 with h1 | h1
        · rw [h1]
          by_cases q : n ≤ a
          · right
            rw [Int.max_eq_right q]; exact List.mem_cons_self
          · left
            rw [Int.max_eq_left (by omega)]
        · exact .inr (List.mem_cons_of_mem _ h1)
      · rcases List.mem_cons.mp hy with rfl | hy
        · show y ≤ r.foldl max (max n y)
          omega
        · exact h3 y hy
  intro xs h
  cases xs with
  | nil => exact absurd rfl h
  | cons n r =>
    obtain ⟨h1, h2, h3⟩ := aux r n
    refine ⟨_, rfl, ?_, fun y hy => ?_⟩
    · rcases h1 with h1 | h1
      · rw [h1]; exact List.mem_cons_self
      · exact List.mem_cons_of_mem _ h1
    · rcases List.mem_cons.mp hy with rfl | hy
      · exact h2
      · exact h3 y hy
/-! ### what repr needs -/
theorem tupText_le {N : Nat} {ts : List Str} (h : ∀ t ∈ ts, t.length ≤ N) : (tupleText ts).length ≤ ts.length * (N + 2) + 3 := by
  have hp : ∀ ts : List Str, (∀ t ∈ ts, t.length ≤ N) → piled ts ≤ ts.length * (N + 2) := by
    intro ts
    induction ts with
    | nil => intro _; exact Nat.zero_le _
    | cons t ts ih =>
      intro h
      have h1 := ih fun x hx => h x (List.mem_cons_of_mem _ hx)
      have h2 := h t List.mem_cons_self
      rw [piled_cons, List.length_cons, Nat.add_mul]
      omega
  have hj : (Str.join ", " ts).length ≤ piled ts := by
    cases ts with
    | nil => exact Nat.zero_le _
    | cons t r => have := join_length_add (t :: r) (by simp); omega
  have := hp ts h
  unfold tupleText
  rw [strLen_append, strLen_append]
  have e1 : (("(" : String) : Str).length = 1 := rfl
  have e2 : ((if ts.length == 1 then ",)" else ")" : String) : Str).length ≤ 2 := by split <;> decide
  omega
theorem showAll_mem : ∀ {xs : List PyData} {t : Str}, t ∈ PyData.shownAll xs → ∃ x ∈ xs, t = x.shown
  | [], _, h => by simp [PyData.shownAll] at h
  | x :: xs, t, h => by
    simp only [PyData.shownAll, List.mem_cons] at h
    rcases h with rfl | h
    · exact ⟨x, List.mem_cons_self, rfl⟩
    · obtain ⟨y, hy, e⟩ := showAll_mem h
      exact ⟨y, List.mem_cons_of_mem _ hy, e⟩
theorem shownAll_len : ∀ {xs : List PyData}, (PyData.shownAll xs).length = xs.length
  | [] => by simp [PyData.shownAll]
  | x :: xs => by simp only [PyData.shownAll, List.length_cons, shownAll_len]
theorem shown_tup {N : Nat} {xs : List PyData} (h : ∀ x ∈ xs, x.shown.length ≤ N) : (PyData.tuple xs).shown.length ≤ xs.length * (N + 2) + 3 := by
  have := tupText_le (N := N) (ts := PyData.shownAll xs) fun t ht => by
    obtain ⟨x, hx, rfl⟩ := showAll_mem ht
    exact h x hx
  rw [shownAll_len] at this
  simpa only [PyData.shown] using this
theorem able_tup : ∀ {xs : List PyData}, (∀ x ∈ xs, x.showable = true ∧ x.hasDict = false) → PyData.showableAll xs = true ∧ PyData.hasDictAll xs = false
  | [], _ => by simp [PyData.showableAll, PyData.hasDictAll]
  | x :: xs, h => by
    obtain ⟨h1, h2⟩ := able_tup (xs := xs) fun y hy => h y (List.mem_cons_of_mem _ hy)
    obtain ⟨h3, h4⟩ := h x List.mem_cons_self
    simp [PyData.showableAll, PyData.hasDictAll, h1, h2, h3, h4]
structure Shw (N : Nat) (d : PyData) : Prop where
  a : d.showable = true
  b : d.hasDict = false
  c : d.shown.length ≤ N
theorem Shw.tup {N : Nat} {xs : List PyData} (h : ∀ x ∈ xs, Shw N x) : Shw (xs.length * (N + 2) + 3) (.tuple xs) := by
  obtain ⟨h1, h2⟩ := able_tup fun x hx => ⟨(h x hx).a, (h x hx).b⟩
  exact ⟨by simp [PyData.showable, h1], by simp [PyData.hasDict, h2], shown_tup fun x hx => (h x hx).c⟩
theorem Shw.mono {N M : Nat} {d : PyData} (h : Shw N d) (k : N ≤ M) : Shw M d := ⟨h.a, h.b, Nat.le_trans h.c k⟩
theorem Shw.nm {l : List Nat} (h : NameOk l) : Shw 100 (nmD l) := by
  refine ⟨by simp [nmD, PyData.showable], by simp [nmD, PyData.hasDict], ?_⟩
  have e : (nmD l).shown = reprText (tx l) := by simp [nmD, PyData.shown]
  rw [e]
  have h1 := PySem.StrLaws.reprText_len (tx l) fun c hc => Nat.lt_trans (h.lt c hc) (by decide)
  have h2 : (tx l).length = l.length := rfl
  have h3 := h.len
  omega
theorem Shw.int {i : Int} (h0 : 0 ≤ i) (h1 : i < 10 ^ 12) : Shw 100 (.int i) := by
  refine ⟨?_, by simp [PyData.hasDict], ?_⟩
  · simp only [PyData.showable, decide_eq_true_eq]
    by_cases z : i.natAbs = 0
    · rw [z]; decide
    · refine (Nat.log2_lt z).mpr (Nat.lt_of_lt_of_le (m := 2 ^ 40) (by omega) (Nat.pow_le_pow_right (by decide) (by decide)))
  · have := toString_length_le h0 (k := 12) (by decide) h1
    simp only [PyData.shown]
    exact Nat.le_trans this (by decide)
theorem Shw.pl {p : Pile} (h : ∀ x ∈ p, NameOk x) (hl : p.length ≤ 12) : Shw 1300 (plD p) := by
  have := Shw.tup (N := 100) (xs := p.map nmD) fun x hx => by
    obtain ⟨l, hl, rfl⟩ := List.mem_map.mp hx
    exact Shw.nm (h l hl)
  exact this.mono (by rw [List.length_map]; omega)
theorem Shw.ss {S : List Smp} (h : ∀ s ∈ S, (∀ x ∈ s.1, NameOk x) ∧ s.1.length ≤ 12 ∧ 0 ≤ s.2 ∧ s.2 < 10 ^ 12) (hl : S.length ≤ 1000) : Shw 3000000 (ssD S) := by
  have := Shw.tup (N := 2700) (xs := S.map smD) fun x hx => by
    obtain ⟨s, hs, rfl⟩ := List.mem_map.mp hx
    obtain ⟨h1, h2, h3, h4⟩ := h s hs
    refine (Shw.tup (N := 1300) (xs := [plD s.1, .int s.2]) fun y hy => ?_).mono (show 2 * (1300 + 2) + 3 ≤ 2700 by decide)
    simp only [List.mem_cons, List.not_mem_nil, or_false] at hy
    rcases hy with rfl | rfl
    · exact Shw.pl h1 h2
    · exact (Shw.int h3 h4).mono (by decide)
  exact this.mono (by rw [List.length_map]; omega)
theorem repr_ss {S : List Smp} (h : ∀ s ∈ S, (∀ x ∈ s.1, NameOk x) ∧ s.1.length ≤ 12 ∧ 0 ≤ s.2 ∧ s.2 < 10 ^ 12) (hl : S.length ≤ 1000) : bfn .repr [ssD S] = some (.str (ssD S).shown) := by
  have w := Shw.ss h hl
  have hd : (ssD S).depth ≤ 60 := by
    have := (ss_fine (n := 0) fun s hs => (h s hs).1).dep
    omega
  show (if (ssD S).showable && !(ssD S).hasDict && dispD (ssD S) && decide ((ssD S).depth ≤ 60) && fitsN (ssD S).shown.length then some (PyData.str (ssD S).shown) else none) = _
  rw [w.a, w.b, decide_eq_true hd]
  have : fitsN (ssD S).shown.length = true := fits_lit (Nat.le_trans w.c (by decide))
  rw [this]; rfl
end
end Pil

set_option Elab.async false
set_option linter.all false
set_option autoImplicit false
set_option maxRecDepth 100000
set_option maxHeartbeats 4000000
namespace Pil
open PySem PySem.Spec PyProof.Rows L2
def F66 : Fn := { nm := "_law_rows", ps := ["_law_samples_here"], ns := ["_law_samples_here", "_law_owns", "_law_alls", "_law_pile_here", "_law_count_here", "_law_k", "_law_way"], keep := false, body := (.cons (.set 1 (.dnw true))
  (.cons (.set 2 (.dnw true))
  (.cons (.for_ (.tp (.cons (.nm 3) (.cons (.nm 4) .nil))) [0, 3, 4, 5, 6] (.seq (.var 0))
 (.cons (.sti (.var 1) (.var 3) (.bin .add (.dget (.var 1) (.var 3) (.cst (.int 0))) (.var 4)))
  (.cons (.for_ (.nm 5) [0, 5, 6] (.rng2 (.cst (.int 1)) (.bin .add (.blt .len (.cons (.var 3) .nil)) (.cst (.int 1))))
 (.cons (.sti (.var 2) (.slc (.var 3) .none (.some (.var 5))) (.bin .add (.dget (.var 2) (.slc (.var 3) .none (.some (.var 5))) (.cst (.int 0))) (.var 4)))
  .nil))
  .nil)))
  (.cons (.ret (.blt .tuple (.cons (.comp [6] (.nm 6) (.seq (.skd (.var 2))) .none (.tup (.cons (.var 6) (.cons (.dget (.var 1) (.var 6) (.cst (.int 0))) (.cons (.idx (.var 2) (.var 6)) .nil))))) .nil)))
  .nil)))) }
def F67 : Fn := { nm := "_law_tree", ps := ["_law_rows_here"], ns := ["_law_rows_here", "_law_waiting", "_law_way", "_law_own", "_law_every", "_law_boughs"], keep := false, body := (.cons (.set 1 (.dnw true))
  (.cons (.for_ (.tp (.cons (.nm 2) (.cons (.nm 3) (.cons (.nm 4) .nil)))) [0, 2, 3, 4, 5] (.seq (.rev (.var 0)))
 (.cons (.set 5 (.blt .tuple (.cons (.rev (.dpop (.var 1) (.var 2) (.lst .nil))) .nil)))
  (.cons (.sti (.var 1) (.slc (.var 2) .none (.some (.neg (.cst (.int 1))))) (.bin .add (.dget (.var 1) (.slc (.var 2) .none (.some (.neg (.cst (.int 1))))) (.lst .nil)) (.lst (.cons (.tup (.cons (.idx (.var 2) (.neg (.cst (.int 1)))) (.cons (.var 3) (.cons (.var 4) (.cons (.var 5) .nil))))) .nil))))
  .nil)))
  (.cons (.ret (.blt .tuple (.cons (.rev (.dget (.var 1) (.tup .nil) (.lst .nil))) .nil)))
  .nil))) }
def F85 : Fn := { nm := "at_way", ps := ["tree", "way"], ns := ["tree", "way", "found", "name", "there", "one"], keep := false, body := (.cons (.set 2 (.tup (.cons (.cst (.int 0)) (.cons (.cst (.int 0)) .nil))))
  (.cons (.for_ (.nm 3) [1, 3, 4, 5] (.seq (.var 1))
 (.cons (.set 4 (.comp [5] (.nm 5) (.seq (.var 0)) (.some (.cmp .eq (.idx (.var 5) (.cst (.int 0))) (.var 3))) (.var 5)))
  (.cons (.iff (.cmp .eq (.var 4) (.lst .nil))
 (.cons (.ret (.tup (.cons (.cst (.int 0)) (.cons (.cst (.int 0)) .nil))))
  .nil)
 .nil)
  (.cons (.set 2 (.slc (.idx (.var 4) (.cst (.int 0))) (.some (.cst (.int 1))) (.some (.cst (.int 3)))))
  (.cons (.set 0 (.idx (.idx (.var 4) (.cst (.int 0))) (.cst (.int 3))))
  .nil)))))
  (.cons (.ret (.var 2))
  .nil))) }
def F86 : Fn := { nm := "rows_below", ps := ["tree", "way"], ns := ["tree", "way", "found", "name", "own", "every", "boughs", "here"], keep := false, body := (.cons (.set 2 (.box (.lst .nil)))
  (.cons (.for_ (.tp (.cons (.nm 3) (.cons (.nm 4) (.cons (.nm 5) (.cons (.nm 6) .nil))))) [0, 3, 4, 5, 6, 7] (.seq (.var 0))
 (.cons (.set 7 (.bin .add (.var 1) (.tup (.cons (.var 3) .nil))))
  (.cons (.expr (.mth .append (.var 2) (.cons (.tup (.cons (.var 7) (.cons (.var 4) (.cons (.var 5) .nil)))) .nil)))
  (.cons (.expr (.ext (.var 2) (.call 86 (.cons (.var 6) (.cons (.var 7) .nil)))))
  .nil))))
  (.cons (.ret (.var 2))
  .nil))) }
def F87 : Fn := { nm := "rows_of", ps := ["tree"], ns := ["tree"], keep := false, body := (.cons (.ret (.blt .tuple (.cons (.call 86 (.cons (.var 0) (.cons (.tup .nil) .nil))) .nil)))
  .nil) }
section
variable {G : Nat → Option Fn} {n : Nat}
/-! ### assoc lists, key by key -/
section
variable {κ : Type} [DecidableEq κ]
theorem lk_pt {k q : κ} {v : SV} : ∀ {kvs : List (κ × SV)}, lkG (ptG kvs k v) q = if q = k then some v else lkG kvs q := by
  intro kvs
  have key : ∀ {kvs : List (κ × SV)}, lkG (kvs.map (fun kv => if kv.1 = k then (kv.1, v) else kv)) q = if q = k then (if (kvs.any fun kv => decide (kv.1 = k)) = true then some v else none) else lkG kvs q := by
    intro kvs
    induction kvs with
    | nil => simp [lkG]
    | cons t kvs ih =>
      unfold lkG at ih ⊢
      rw [List.map_cons]
      by_cases h : t.1 = k
      · by_cases h2 : q = k
        · subst h2
          subst h
          simp
        · have : t.1 ≠ q := fun e => h2 (e ▸ h)
          simp only [if_pos h, if_neg h2]
          rw [List.find?_cons_of_neg (by simpa using this), List.find?_cons_of_neg (by simpa using this)]
          rw [ih, if_neg h2]
      · simp only [if_neg h]
        by_cases h2 : q = k
        · have : t.1 ≠ q := fun e => h (e.trans h2)
          rw [List.find?_cons_of_neg (by simpa using this), ih]
          simp only [h2, if_true, List.any_cons, decide_eq_false h, Bool.false_or]
        · by_cases h3 : t.1 = q
          · rw [List.find?_cons_of_pos (by simpa using h3), List.find?_cons_of_pos (by simpa using h3)]
            simp [h2]
          · rw [List.find?_cons_of_neg (by simpa using h3), List.find?_cons_of_neg (by simpa using h3), ih]
            simp [h2]
  unfold ptG
  split
  · rename_i h
    rw [key, if_pos h]
  · rename_i h
    unfold lkG
    rw [List.find?_append]
    by_cases h2 : q = k
    · subst h2
      have : kvs.find? (fun kv => decide (kv.1 = q)) = none := by
        rw [List.find?_eq_none]
        intro x hx z
        exact h (List.any_eq_true.mpr ⟨x, hx, z⟩)
      rw [this]
      simp
    · have : ([(k, v)] : List (κ × SV)).find? (fun kv => decide (kv.1 = q)) = none := by
        rw [List.find?_cons_of_neg (by simpa using fun e : k = q => h2 e.symm)]; rfl
      rw [this]
      simp [h2]
theorem lk_dr {k q : κ} : ∀ {kvs : List (κ × SV)}, lkG (drG kvs k) q = if q = k then none else lkG kvs q := by
  intro kvs
  unfold lkG drG
  by_cases h : q = k
  · subst h
    have : (kvs.filter fun kv => decide (kv.1 ≠ q)).find? (fun kv => decide (kv.1 = q)) = none := by
      rw [List.find?_eq_none]
      intro x hx z
      have := (List.mem_filter.mp hx).2
      simp at this z
      exact this z
    rw [this]; simp
  · rw [if_neg h, List.find?_filter]
    congr 2
    funext kv
    by_cases e : kv.1 = q
    · simp [e, h]
    · simp [e]
theorem len_pt {k : κ} {v : SV} {kvs : List (κ × SV)} : (ptG kvs k v).length ≤ kvs.length + 1 := by
  unfold ptG
  split
  · rw [List.length_map]; omega
  · rw [List.length_append]; simp
theorem len_dr {k : κ} {kvs : List (κ × SV)} : (drG kvs k).length ≤ kvs.length := List.length_filter_le _ _
end
/-! ### piles as data -/
theorem sl_last {p : Pile} {y : List Nat} : slD (plD (p ++ [y])) none (some (-1)) = some (plD p) := by
  show some (PyData.tuple (cutD ((p ++ [y]).map nmD) none (some (-1)))) = _
  unfold cutD
  have e : HT.sIx ((p ++ [y]).map nmD).length ((p ++ [y]).map nmD).length (some (-1)) = p.length := by
    show (if (-1 : Int) < 0 then (-1 + (((p ++ [y]).map nmD).length : Nat) : Int).toNat else min (-1 : Int).toNat ((p ++ [y]).map nmD).length) = _
    rw [if_pos (by decide), List.length_map, List.length_append, List.length_cons, List.length_nil]; omega
  rw [e, HT.sIx_none, Nat.sub_zero, List.drop_zero, List.map_append, List.take_append_of_le_length (by rw [List.length_map]; exact Nat.le_refl _), List.take_of_length_le (by rw [List.length_map]; exact Nat.le_refl _)]
  rfl
theorem ix_lastT {p : Pile} {y : List Nat} : ixD (plD (p ++ [y])) (.int (-1)) = some (nmD y) := ix_last (F := p) (y := y)
theorem sl_to {p : Pile} {z : Int} (h : 0 ≤ z) : slD (plD p) none (some z) = some (plD (p.take z.toNat)) := by
  show some (PyData.tuple (cutD (p.map nmD) none (some z))) = _
  rw [cutD_to h, ← List.map_take]; rfl
theorem sl_from {p : Pile} {z : Int} (h : 0 ≤ z) : slD (plD p) (some z) none = some (plD (p.drop z.toNat)) := by
  show some (PyData.tuple (cutD (p.map nmD) (some z) none)) = _
  rw [cutD_from h, ← List.map_drop]; rfl
theorem pl_add {p q : Pile} (h : p.length + q.length ≤ 16777216) : bop .add (plD p) (plD q) = some (plD (p ++ q)) := by
  show bop .add (.tuple (p.map nmD)) (.tuple (q.map nmD)) = _
  rw [bop_addT (by rw [List.length_map, List.length_map]; exact h), ← List.map_append]; rfl
theorem pl_snoc {p : Pile} {x : List Nat} (h : p.length ≤ 1000000) : bop .add (plD p) (.tuple [nmD x]) = some (plD (p ++ [x])) := pl_add (q := [x]) (by simp only [List.length_cons, List.length_nil]; omega)
theorem len_pl {p : Pile} : bfn .len [plD p] = some (.int p.length) := by
  show some (PyData.int ((p.map nmD).length : Nat)) = _
  rw [List.length_map]
theorem dPut_pl {kvs : List (List Key × SV)} {p : Pile} {v : SV} (h : kvs.length ≤ 1000000) : dPut (.dt kvs) (plD p) v = some (.dt (ptG kvs (plK p) v)) := by
  show (if fitsN (kvs.length + 1) then (asKs (p.map nmD)).map fun k => Ob.dt (ptG kvs k v) else none) = _
  rw [if_pos (fits_lit (by omega)), asKs_pl]; rfl
theorem dGet_pl {kvs : List (List Key × SV)} {p : Pile} : dGet (.dt kvs) (plD p) = some (lkG kvs (plK p)) := by
  show (asKs (p.map nmD)).map _ = _
  rw [asKs_pl]; rfl
/-! ### the rows of samples -/
theorem len_begs {p : Pile} : (begs p).length = p.length := by unfold begs; rw [List.length_map, List.length_range]
theorem len_preS : ∀ {S : List Smp}, (∀ s ∈ S, s.1.length ≤ 100) → (preS S).length ≤ 100 * S.length
  | [], _ => Nat.zero_le _
  | s :: S, h => by
    have h1 := len_preS (S := S) fun x hx => h x (List.mem_cons_of_mem _ hx)
    have h2 := h s List.mem_cons_self
    show ((begs s.1).map (fun p => (p, s.2)) ++ preS S).length ≤ _
    rw [List.length_append, List.length_map, len_begs, List.length_cons]
    omega
theorem preS_snoc {S : List Smp} {s : Smp} : preS (S ++ [s]) = preS S ++ (begs s.1).map fun p => (p, s.2) := by
  unfold preS
  rw [List.flatMap_append]; simp
theorem ne_preS {S : List Smp} {s : Smp} (h : s ∈ preS S) : s.1 ≠ [] := by
  have : s.1 ∈ keysS (preS S) := List.mem_map.mpr ⟨s, h, rfl⟩
  rw [keys_preS] at this
  intro e
  rw [e] at this
  simp [hitS, hit_nil2] at this
theorem gaF_app2 {D S T : List Smp} : gaF D (S ++ T) = gaF (gaF D S) T := by unfold gaF; rw [List.foldl_append]
theorem lrows_e {g : Nat} {F : Fn} (hG : G g = some F) (hb : F.body = F66.body) (hk : F.keep = false) (hps : F.ps.length = 1) (hns : F.ns.length = 7) {S : List Smp} {m : Sto} (h : ∀ s ∈ S, s.1.length ≤ 100) (hl : S.length ≤ 900) : callI G (n + 1) g [.d (ssD S)] m = .ok (.d (.tuple ((rowsS S).map rwD))) m := by
  refine callP hG hk (by rw [hps]; rfl) ?_
  rw [hb, hns]
  show FlP (exs _ F66.body [some (.d (ssD S)), none, none, none, none, none, none] (m ++ [])) _ _
  rw [List.append_nil]
  simp only [F66, ↓ev_comp, ↓evI_r2, ↓flP_retS, ↓outP_and, ↓outP_or, ↓outP_ite, ↓outP_cmp2, flP_of, flP_next, flP_ret, flP_bad, flP_nil, outP_ok, outP_bad, outP_of, outP_bind, outP_nox, ok_bind, ok_of, of_some, open_none, ex, ev, evs, evo, evT, evI, dat, datX, datP, datAll, dOf, seqI, lockM, openM, boxK, freshE, retOk, asgT_nm, asgT_tup, asgT_lst, asgTs_nil, asgTs_cons, List.map_cons, List.map_nil, List.cons_append, List.nil_append, List.getElem?_cons_zero, List.getElem?_cons_succ, List.length_cons, List.length_nil, List.replicate, Option.bind_some, Option.map_some, Option.isSome_some, List.set_cons_zero, List.set_cons_succ, Nat.zero_add, Nat.reduceAdd, Nat.reduceSub, Nat.reduceLT, Nat.reduceLeDiff, Nat.reduceEqDiff, Int.reduceNeg, Int.reduceLT, Int.reduceLE, Int.reduceAdd, Int.reduceSub, decide_true, decide_false, Bool.and_self, Bool.and_true, Bool.true_and, Bool.and_false, Bool.false_and, Bool.or_true, Bool.true_or, Bool.or_false, Bool.false_or, Bool.not_true, Bool.not_false, ↓reduceIte, Bool.false_eq_true, truD, bop_addI, bop_subI, bop_mulI, bop_modI, bop_fdivI, bop_pow18, bop_addT, bop_addL, cop_eq, cop_ne, cop_ltI, cop_leI, cop_gtI, cop_geI, eqD_ii, eqD_ss, eqD_bb, fits_lit, recvOk, recvOk.isL, isMut, isDic, killR, List.foldl, List.append_assoc, List.length_append, Nat.add_assoc, dk_len, st_get0, st_get1, st_get2, st_set0, st_set1, st_set2, Option.some.injEq, exists_eq_left', exists_eq_left, SV.d.injEq, PyData.bool.injEq, SV.ref.injEq, reduceCtorEq, false_and, and_false, exists_false, or_false, false_or, true_and, and_true, true_implies, false_implies, forall_const, beq_self_eq_true, Bool.true_eq_false, flP_set, flP_asg, flP_par, flP_sti, flP_expr, flP_for, flP_whl, flP_rets, bop_pow6, bop_pow9, bfn_max2, bfn_min2, bfn_tupL, bfn_tupT, bfn_lenL, bfn_lenT, bfn_listL, bfn_listT, bfn_intB, bfn_intI, SV.d.injEq, PyData.str.injEq, PyData.int.injEq, exm0, exm1, exists_and_right, mg0, mg1, mg2, ms0, ms1, ms2, noxK, flP_ifs, ssD]
  refine FlP.forT (fun pre r m' => r = [none, some (.ref m.length), some (.ref (m.length + 1)), none, none, none, none] ∧ m' = m ++ [.dt (kvD (gaF [] pre)), .dt (kvD (gaF [] (preS pre)))]) ⟨rfl, rfl⟩ ?_ ?_
  · rintro pre s post r m' e ⟨rfl, rfl⟩
    have nd : (keysS (gaF [] pre)).Nodup := nd_gaF List.nodup_nil
    have hs : s ∈ S := by rw [e]; simp
    have hsl := h s hs
    have hpl : pre.length ≤ 900 := by
      have := congrArg List.length e
      simp only [List.length_append, List.length_cons] at this
      omega
    have hlen : (gaF [] pre).length ≤ 1000 := by
      have := len_gaF (S := pre) (D := [])
      simp only [List.length_nil] at this
      omega
    have hlen2 : (gaF [] (preS pre)).length ≤ 90000 := by
      have := len_gaF (S := preS pre) (D := [])
      have := len_preS (S := pre) fun x hx => h x (by rw [e]; exact List.mem_append_left _ hx)
      simp only [List.length_nil] at *
      omega
    have hg : dGet (.dt (kvD (gaF [] pre))) (plD s.1) = some (lkG (kvD (gaF [] pre)) (plK s.1)) := dGet_kv
    have hp := dPut_kv (c := s.2) (p := s.1) nd (by omega)
    have hr : ∀ r m, r[3]? = some (some (.d (plD s.1))) → rng2K (callI G n) (.cst (.int 1)) (.bin .add (.blt .len (.cons (.var 3) .nil)) (.cst (.int 1))) r m = .ok ((List.range s.1.length).map fun j => PyData.int (1 + (j : Nat)), none) m := fun r m hr => by
      have := evI_rng2 (C := callI G n) (i := 1) (k := s.1.length + 1) (m := m) (r := r) (a := .cst (.int 1)) (b := .bin .add (.blt .len (.cons (.var 3) .nil)) (.cst (.int 1))) rfl (by
        have e1 := ev_len (C := callI G n) (m := m) hr
        simp only [ev] at e1 ⊢
        rw [e1]
        rfl) (by decide) (by omega)
      exact this
    simp only [↓evI_r2, ↓flP_retS, ↓outP_and, ↓outP_or, ↓outP_ite, ↓outP_cmp2, flP_of, flP_next, flP_ret, flP_bad, flP_nil, outP_ok, outP_bad, outP_of, outP_bind, outP_nox, ok_bind, ok_of, of_some, open_none, ex, ev, evs, evo, evT, evI, dat, datX, datP, datAll, dOf, seqI, lockM, openM, boxK, freshE, retOk, asgT_nm, asgT_tup, asgT_lst, asgTs_nil, asgTs_cons, List.map_cons, List.map_nil, List.cons_append, List.nil_append, List.getElem?_cons_zero, List.getElem?_cons_succ, List.length_cons, List.length_nil, List.replicate, Option.bind_some, Option.map_some, Option.isSome_some, List.set_cons_zero, List.set_cons_succ, Nat.zero_add, Nat.reduceAdd, Nat.reduceSub, Nat.reduceLT, Nat.reduceLeDiff, Nat.reduceEqDiff, Int.reduceNeg, Int.reduceLT, Int.reduceLE, Int.reduceAdd, Int.reduceSub, decide_true, decide_false, Bool.and_self, Bool.and_true, Bool.true_and, Bool.and_false, Bool.false_and, Bool.or_true, Bool.true_or, Bool.or_false, Bool.false_or, Bool.not_true, Bool.not_false, ↓reduceIte, Bool.false_eq_true, truD, bop_addI, bop_subI, bop_mulI, bop_modI, bop_fdivI, bop_pow18, bop_addT, bop_addL, cop_eq, cop_ne, cop_ltI, cop_leI, cop_gtI, cop_geI, eqD_ii, eqD_ss, eqD_bb, fits_lit, recvOk, recvOk.isL, isMut, isDic, killR, List.foldl, List.append_assoc, List.length_append, Nat.add_assoc, dk_len, st_get0, st_get1, st_get2, st_set0, st_set1, st_set2, Option.some.injEq, exists_eq_left', exists_eq_left, SV.d.injEq, PyData.bool.injEq, SV.ref.injEq, reduceCtorEq, false_and, and_false, exists_false, or_false, false_or, true_and, and_true, true_implies, false_implies, forall_const, beq_self_eq_true, Bool.true_eq_false, flP_set, flP_asg, flP_par, flP_sti, flP_expr, flP_for, flP_whl, flP_rets, bop_pow6, bop_pow9, bfn_max2, bfn_min2, bfn_tupL, bfn_tupT, bfn_lenL, bfn_lenT, bfn_listL, bfn_listT, bfn_intB, bfn_intI, SV.d.injEq, PyData.str.injEq, PyData.int.injEq, exm0, exm1, exists_and_right, mg0, mg1, mg2, ms0, ms1, ms2, noxK, flP_ifs, smD, isDic, hg, lk_cnt nd, hp]
    rw [hr _ _ rfl]
    simp only [↓flP_retS, ↓outP_and, ↓outP_or, ↓outP_ite, ↓outP_cmp2, flP_of, flP_next, flP_ret, flP_bad, flP_nil, outP_ok, outP_bad, outP_of, outP_bind, outP_nox, ok_bind, ok_of, of_some, open_none, ex, ev, evs, evo, evT, evI, dat, datX, datP, datAll, dOf, seqI, lockM, openM, boxK, freshE, retOk, asgT_nm, asgT_tup, asgT_lst, asgTs_nil, asgTs_cons, List.map_cons, List.map_nil, List.cons_append, List.nil_append, List.getElem?_cons_zero, List.getElem?_cons_succ, List.length_cons, List.length_nil, List.replicate, Option.bind_some, Option.map_some, Option.isSome_some, List.set_cons_zero, List.set_cons_succ, Nat.zero_add, Nat.reduceAdd, Nat.reduceSub, Nat.reduceLT, Nat.reduceLeDiff, Nat.reduceEqDiff, Int.reduceNeg, Int.reduceLT, Int.reduceLE, Int.reduceAdd, Int.reduceSub, decide_true, decide_false, Bool.and_self, Bool.and_true, Bool.true_and, Bool.and_false, Bool.false_and, Bool.or_true, Bool.true_or, Bool.or_false, Bool.false_or, Bool.not_true, Bool.not_false, ↓reduceIte, Bool.false_eq_true, truD, bop_addI, bop_subI, bop_mulI, bop_modI, bop_fdivI, bop_pow18, bop_addT, bop_addL, cop_eq, cop_ne, cop_ltI, cop_leI, cop_gtI, cop_geI, eqD_ii, eqD_ss, eqD_bb, fits_lit, recvOk, recvOk.isL, isMut, isDic, killR, List.foldl, List.append_assoc, List.length_append, Nat.add_assoc, dk_len, st_get0, st_get1, st_get2, st_set0, st_set1, st_set2, Option.some.injEq, exists_eq_left', exists_eq_left, SV.d.injEq, PyData.bool.injEq, SV.ref.injEq, reduceCtorEq, false_and, and_false, exists_false, or_false, false_or, true_and, and_true, true_implies, false_implies, forall_const, beq_self_eq_true, Bool.true_eq_false, flP_set, flP_asg, flP_par, flP_sti, flP_expr, flP_for, flP_whl, flP_rets, bop_pow6, bop_pow9, bfn_max2, bfn_min2, bfn_tupL, bfn_tupT, bfn_lenL, bfn_lenT, bfn_listL, bfn_listT, bfn_intB, bfn_intI, SV.d.injEq, PyData.str.injEq, PyData.int.injEq, exm0, exm1, exists_and_right, mg0, mg1, mg2, ms0, ms1, ms2, noxK, flP_ifs]
    refine FlP.forT (fun pk r m' => r = [none, some (.ref m.length), some (.ref (m.length + 1)), some (.d (plD s.1)), some (.d (.int s.2)), none, none] ∧ m' = m ++ [.dt (kvD (addS (gaF [] pre) s.1 s.2)), .dt (kvD (gaF (gaF [] (preS pre)) (pk.map fun k => (s.1.take (k + 1), s.2))))]) ⟨rfl, rfl⟩ ?_ ?_
    · rintro pk j post' r m' e' ⟨rfl, rfl⟩
      have nd2 : (keysS (gaF (gaF [] (preS pre)) (pk.map fun k => (s.1.take (k + 1), s.2)))).Nodup := nd_gaF (nd_gaF List.nodup_nil)
      have hlen3 : (gaF (gaF [] (preS pre)) (pk.map fun k => (s.1.take (k + 1), s.2))).length ≤ 100000 := by
        have := len_gaF (S := pk.map fun k => (s.1.take (k + 1), s.2)) (D := gaF [] (preS pre))
        have := congrArg List.length e'
        simp only [List.length_append, List.length_cons, List.length_range, List.length_map] at *
        omega
      have hsl : slD (plD s.1) none (some (1 + (j : Nat))) = some (plD (s.1.take (j + 1))) := by
        rw [sl_to (by omega), show (1 + (j : Int)).toNat = j + 1 by omega]
      have hg2 : dGet (.dt (kvD (gaF (gaF [] (preS pre)) (pk.map fun k => (s.1.take (k + 1), s.2))))) (plD (s.1.take (j + 1))) = some _ := dGet_kv
      have hp2 := dPut_kv (c := s.2) (p := s.1.take (j + 1)) nd2 hlen3
      simp only [↓flP_retS, ↓outP_and, ↓outP_or, ↓outP_ite, ↓outP_cmp2, flP_of, flP_next, flP_ret, flP_bad, flP_nil, outP_ok, outP_bad, outP_of, outP_bind, outP_nox, ok_bind, ok_of, of_some, open_none, ex, ev, evs, evo, evT, evI, dat, datX, datP, datAll, dOf, seqI, lockM, openM, boxK, freshE, retOk, asgT_nm, asgT_tup, asgT_lst, asgTs_nil, asgTs_cons, List.map_cons, List.map_nil, List.cons_append, List.nil_append, List.getElem?_cons_zero, List.getElem?_cons_succ, List.length_cons, List.length_nil, List.replicate, Option.bind_some, Option.map_some, Option.isSome_some, List.set_cons_zero, List.set_cons_succ, Nat.zero_add, Nat.reduceAdd, Nat.reduceSub, Nat.reduceLT, Nat.reduceLeDiff, Nat.reduceEqDiff, Int.reduceNeg, Int.reduceLT, Int.reduceLE, Int.reduceAdd, Int.reduceSub, decide_true, decide_false, Bool.and_self, Bool.and_true, Bool.true_and, Bool.and_false, Bool.false_and, Bool.or_true, Bool.true_or, Bool.or_false, Bool.false_or, Bool.not_true, Bool.not_false, ↓reduceIte, Bool.false_eq_true, truD, bop_addI, bop_subI, bop_mulI, bop_modI, bop_fdivI, bop_pow18, bop_addT, bop_addL, cop_eq, cop_ne, cop_ltI, cop_leI, cop_gtI, cop_geI, eqD_ii, eqD_ss, eqD_bb, fits_lit, recvOk, recvOk.isL, isMut, isDic, killR, List.foldl, List.append_assoc, List.length_append, Nat.add_assoc, dk_len, st_get0, st_get1, st_get2, st_set0, st_set1, st_set2, Option.some.injEq, exists_eq_left', exists_eq_left, SV.d.injEq, PyData.bool.injEq, SV.ref.injEq, reduceCtorEq, false_and, and_false, exists_false, or_false, false_or, true_and, and_true, true_implies, false_implies, forall_const, beq_self_eq_true, Bool.true_eq_false, flP_set, flP_asg, flP_par, flP_sti, flP_expr, flP_for, flP_whl, flP_rets, bop_pow6, bop_pow9, bfn_max2, bfn_min2, bfn_tupL, bfn_tupT, bfn_lenL, bfn_lenT, bfn_listL, bfn_listT, bfn_intB, bfn_intI, SV.d.injEq, PyData.str.injEq, PyData.int.injEq, exm0, exm1, exists_and_right, mg0, mg1, mg2, ms0, ms1, ms2, noxK, flP_ifs, hsl, isDic, hg2, lk_cnt nd2, hp2]
      rw [List.map_append]
      show _ = _ ++ [_, Ob.dt (kvD (gaF _ (_ ++ [(s.1.take (j + 1), s.2)])))]
      rw [gaF_snoc]
    · rintro r m' ⟨rfl, rfl⟩
      refine ⟨rfl, ?_⟩
      rw [gaF_snoc, preS_snoc, gaF_app2]
      unfold begs
      rw [List.map_map]
      rfl
  · rintro r m' ⟨rfl, rfl⟩
    have nd : (keysS (gaF [] S)).Nodup := nd_gaF List.nodup_nil
    have nd2 : (keysS (gaF [] (preS S))).Nodup := nd_gaF List.nodup_nil
    have hlp := len_preS h
    have hgl : (gaF [] (preS S)).length ≤ 90000 := by
      have := len_gaF (S := preS S) (D := [])
      simp only [List.length_nil] at this
      omega
    have hks := keysD_kv (D := gaF [] (preS S))
    have hsd : sortD ((gaF [] (preS S)).map fun s => plD s.1) = some ((gath (preS S)).map fun s => plD s.1) := sortD_kv (D := gaD (preS S)) (fun s hs => by
      obtain ⟨t, ht, e⟩ := List.mem_map.mp (mem_gaD.mp hs).2
      exact e ▸ ne_preS ht) (by show (gaF [] (preS S)).length ≤ _; omega)
    simp only [↓ev_comp, ↓flP_retS, ↓outP_and, ↓outP_or, ↓outP_ite, ↓outP_cmp2, flP_of, flP_next, flP_ret, flP_bad, flP_nil, outP_ok, outP_bad, outP_of, outP_bind, outP_nox, ok_bind, ok_of, of_some, open_none, ex, ev, evs, evo, evT, evI, dat, datX, datP, datAll, dOf, seqI, lockM, openM, boxK, freshE, retOk, asgT_nm, asgT_tup, asgT_lst, asgTs_nil, asgTs_cons, List.map_cons, List.map_nil, List.cons_append, List.nil_append, List.getElem?_cons_zero, List.getElem?_cons_succ, List.length_cons, List.length_nil, List.replicate, Option.bind_some, Option.map_some, Option.isSome_some, List.set_cons_zero, List.set_cons_succ, Nat.zero_add, Nat.reduceAdd, Nat.reduceSub, Nat.reduceLT, Nat.reduceLeDiff, Nat.reduceEqDiff, Int.reduceNeg, Int.reduceLT, Int.reduceLE, Int.reduceAdd, Int.reduceSub, decide_true, decide_false, Bool.and_self, Bool.and_true, Bool.true_and, Bool.and_false, Bool.false_and, Bool.or_true, Bool.true_or, Bool.or_false, Bool.false_or, Bool.not_true, Bool.not_false, ↓reduceIte, Bool.false_eq_true, truD, bop_addI, bop_subI, bop_mulI, bop_modI, bop_fdivI, bop_pow18, bop_addT, bop_addL, cop_eq, cop_ne, cop_ltI, cop_leI, cop_gtI, cop_geI, eqD_ii, eqD_ss, eqD_bb, fits_lit, recvOk, recvOk.isL, isMut, isDic, killR, List.foldl, List.append_assoc, List.length_append, Nat.add_assoc, dk_len, st_get0, st_get1, st_get2, st_set0, st_set1, st_set2, Option.some.injEq, exists_eq_left', exists_eq_left, SV.d.injEq, PyData.bool.injEq, SV.ref.injEq, reduceCtorEq, false_and, and_false, exists_false, or_false, false_or, true_and, and_true, true_implies, false_implies, forall_const, beq_self_eq_true, Bool.true_eq_false, flP_set, flP_asg, flP_par, flP_sti, flP_expr, flP_for, flP_whl, flP_rets, bop_pow6, bop_pow9, bfn_max2, bfn_min2, bfn_tupL, bfn_tupT, bfn_lenL, bfn_lenT, bfn_listL, bfn_listT, bfn_intB, bfn_intI, SV.d.injEq, PyData.str.injEq, PyData.int.injEq, exm0, exm1, exists_and_right, mg0, mg1, mg2, ms0, ms1, ms2, noxK, flP_ifs, hks, hsd]
    refine OutP.compM (fun s => rwD (s.1, cnt S s.1, s.2)) (fun s hs => ⟨rfl, ?_⟩) ?_
    · have hg1 : dGet (.dt (kvD (gaF [] S))) (plD s.1) = some (lkG (kvD (gaF [] S)) (plK s.1)) := dGet_kv
      have hg2 : dGet (.dt (kvD (gaF [] (preS S)))) (.tuple (s.1.map nmD)) = some (some (.d (.int s.2))) := (dGet_kv (p := s.1)).trans (congrArg some (lk_mem (D := gaF [] (preS S)) nd2 (gath_perm.subset hs)))
      have hc : cnt (gaF [] S) s.1 = cnt S s.1 := by rw [cnt_gaF]; show 0 + _ = _; omega
      simp only [eltF, ↓flP_retS, ↓outP_and, ↓outP_or, ↓outP_ite, ↓outP_cmp2, flP_of, flP_next, flP_ret, flP_bad, flP_nil, outP_ok, outP_bad, outP_of, outP_bind, outP_nox, ok_bind, ok_of, of_some, open_none, ex, ev, evs, evo, evT, evI, dat, datX, datP, datAll, dOf, seqI, lockM, openM, boxK, freshE, retOk, asgT_nm, asgT_tup, asgT_lst, asgTs_nil, asgTs_cons, List.map_cons, List.map_nil, List.cons_append, List.nil_append, List.getElem?_cons_zero, List.getElem?_cons_succ, List.length_cons, List.length_nil, List.replicate, Option.bind_some, Option.map_some, Option.isSome_some, List.set_cons_zero, List.set_cons_succ, Nat.zero_add, Nat.reduceAdd, Nat.reduceSub, Nat.reduceLT, Nat.reduceLeDiff, Nat.reduceEqDiff, Int.reduceNeg, Int.reduceLT, Int.reduceLE, Int.reduceAdd, Int.reduceSub, decide_true, decide_false, Bool.and_self, Bool.and_true, Bool.true_and, Bool.and_false, Bool.false_and, Bool.or_true, Bool.true_or, Bool.or_false, Bool.false_or, Bool.not_true, Bool.not_false, ↓reduceIte, Bool.false_eq_true, truD, bop_addI, bop_subI, bop_mulI, bop_modI, bop_fdivI, bop_pow18, bop_addT, bop_addL, cop_eq, cop_ne, cop_ltI, cop_leI, cop_gtI, cop_geI, eqD_ii, eqD_ss, eqD_bb, fits_lit, recvOk, recvOk.isL, isMut, isDic, killR, List.foldl, List.append_assoc, List.length_append, Nat.add_assoc, dk_len, st_get0, st_get1, st_get2, st_set0, st_set1, st_set2, Option.some.injEq, exists_eq_left', exists_eq_left, SV.d.injEq, PyData.bool.injEq, SV.ref.injEq, reduceCtorEq, false_and, and_false, exists_false, or_false, false_or, true_and, and_true, true_implies, false_implies, forall_const, beq_self_eq_true, Bool.true_eq_false, flP_set, flP_asg, flP_par, flP_sti, flP_expr, flP_for, flP_whl, flP_rets, bop_pow6, bop_pow9, bfn_max2, bfn_min2, bfn_tupL, bfn_tupT, bfn_lenL, bfn_lenT, bfn_listL, bfn_listT, bfn_intB, bfn_intI, SV.d.injEq, PyData.str.injEq, PyData.int.injEq, exm0, exm1, exists_and_right, mg0, mg1, mg2, ms0, ms1, ms2, noxK, flP_ifs, isDic, hg1, lk_cnt nd, hc]
      simp only [↓flP_retS, ↓outP_and, ↓outP_or, ↓outP_ite, ↓outP_cmp2, flP_of, flP_next, flP_ret, flP_bad, flP_nil, outP_ok, outP_bad, outP_of, outP_bind, outP_nox, ok_bind, ok_of, of_some, open_none, ex, ev, evs, evo, evT, evI, dat, datX, datP, datAll, dOf, seqI, lockM, openM, boxK, freshE, retOk, asgT_nm, asgT_tup, asgT_lst, asgTs_nil, asgTs_cons, List.map_cons, List.map_nil, List.cons_append, List.nil_append, List.getElem?_cons_zero, List.getElem?_cons_succ, List.length_cons, List.length_nil, List.replicate, Option.bind_some, Option.map_some, Option.isSome_some, List.set_cons_zero, List.set_cons_succ, Nat.zero_add, Nat.reduceAdd, Nat.reduceSub, Nat.reduceLT, Nat.reduceLeDiff, Nat.reduceEqDiff, Int.reduceNeg, Int.reduceLT, Int.reduceLE, Int.reduceAdd, Int.reduceSub, decide_true, decide_false, Bool.and_self, Bool.and_true, Bool.true_and, Bool.and_false, Bool.false_and, Bool.or_true, Bool.true_or, Bool.or_false, Bool.false_or, Bool.not_true, Bool.not_false, ↓reduceIte, Bool.false_eq_true, truD, bop_addI, bop_subI, bop_mulI, bop_modI, bop_fdivI, bop_pow18, bop_addT, bop_addL, cop_eq, cop_ne, cop_ltI, cop_leI, cop_gtI, cop_geI, eqD_ii, eqD_ss, eqD_bb, fits_lit, recvOk, recvOk.isL, isMut, isDic, killR, List.foldl, List.append_assoc, List.length_append, Nat.add_assoc, dk_len, st_get0, st_get1, st_get2, st_set0, st_set1, st_set2, Option.some.injEq, exists_eq_left', exists_eq_left, SV.d.injEq, PyData.bool.injEq, SV.ref.injEq, reduceCtorEq, false_and, and_false, exists_false, or_false, false_or, true_and, and_true, true_implies, false_implies, forall_const, beq_self_eq_true, Bool.true_eq_false, flP_set, flP_asg, flP_par, flP_sti, flP_expr, flP_for, flP_whl, flP_rets, bop_pow6, bop_pow9, bfn_max2, bfn_min2, bfn_tupL, bfn_tupT, bfn_lenL, bfn_lenT, bfn_listL, bfn_listT, bfn_intB, bfn_intI, SV.d.injEq, PyData.str.injEq, PyData.int.injEq, exm0, exm1, exists_and_right, mg0, mg1, mg2, ms0, ms1, ms2, noxK, flP_ifs, plD, isDic, hg2]
      rfl
    have em : ((gath (preS S)).map fun s => rwD (s.1, cnt S s.1, s.2)) = (rowsS S).map rwD := by unfold rowsS; rw [List.map_map]; rfl
    rw [em]
    have hf : fitsN ((rowsS S).map rwD).length = true := fits_lit (by have := len_gath (S := preS S); unfold rowsS; rw [List.length_map, List.length_map]; omega)
    simp only [↓flP_retS, ↓outP_and, ↓outP_or, ↓outP_ite, ↓outP_cmp2, flP_of, flP_next, flP_ret, flP_bad, flP_nil, outP_ok, outP_bad, outP_of, outP_bind, outP_nox, ok_bind, ok_of, of_some, open_none, ex, ev, evs, evo, evT, evI, dat, datX, datP, datAll, dOf, seqI, lockM, openM, boxK, freshE, retOk, asgT_nm, asgT_tup, asgT_lst, asgTs_nil, asgTs_cons, List.map_cons, List.map_nil, List.cons_append, List.nil_append, List.getElem?_cons_zero, List.getElem?_cons_succ, List.length_cons, List.length_nil, List.replicate, Option.bind_some, Option.map_some, Option.isSome_some, List.set_cons_zero, List.set_cons_succ, Nat.zero_add, Nat.reduceAdd, Nat.reduceSub, Nat.reduceLT, Nat.reduceLeDiff, Nat.reduceEqDiff, Int.reduceNeg, Int.reduceLT, Int.reduceLE, Int.reduceAdd, Int.reduceSub, decide_true, decide_false, Bool.and_self, Bool.and_true, Bool.true_and, Bool.and_false, Bool.false_and, Bool.or_true, Bool.true_or, Bool.or_false, Bool.false_or, Bool.not_true, Bool.not_false, ↓reduceIte, Bool.false_eq_true, truD, bop_addI, bop_subI, bop_mulI, bop_modI, bop_fdivI, bop_pow18, bop_addT, bop_addL, cop_eq, cop_ne, cop_ltI, cop_leI, cop_gtI, cop_geI, eqD_ii, eqD_ss, eqD_bb, fits_lit, recvOk, recvOk.isL, isMut, isDic, killR, List.foldl, List.append_assoc, List.length_append, Nat.add_assoc, dk_len, st_get0, st_get1, st_get2, st_set0, st_set1, st_set2, Option.some.injEq, exists_eq_left', exists_eq_left, SV.d.injEq, PyData.bool.injEq, SV.ref.injEq, reduceCtorEq, false_and, and_false, exists_false, or_false, false_or, true_and, and_true, true_implies, false_implies, forall_const, beq_self_eq_true, Bool.true_eq_false, flP_set, flP_asg, flP_par, flP_sti, flP_expr, flP_for, flP_whl, flP_rets, bop_pow6, bop_pow9, bfn_max2, bfn_min2, bfn_tupL, bfn_tupT, bfn_lenL, bfn_lenT, bfn_listL, bfn_listT, bfn_intB, bfn_intI, SV.d.injEq, PyData.str.injEq, PyData.int.injEq, exm0, exm1, exists_and_right, mg0, mg1, mg2, ms0, ms1, ms2, noxK, flP_ifs, hf]
end
end Pil

set_option Elab.async false
set_option linter.all false
set_option autoImplicit false
set_option maxRecDepth 100000
set_option maxHeartbeats 4000000
namespace Pil
open PySem PySem.Spec PyProof.Rows L2
section
variable {G : Nat → Option Fn} {n : Nat}
/-! ### the tree of rows: what waits -/
def updV (V : Pile → List Knt) (w : Pile) (x : List Knt) : Pile → List Knt := fun q => if q = w then x else V q
def stepV (V : Pile → List Knt) (r : Row) : Pile → List Knt :=
  updV (updV V r.1 []) r.1.dropLast (updV V r.1 [] r.1.dropLast ++ [⟨r.1.getLastD [], r.2.1, r.2.2, ofL (V r.1).reverse⟩])
theorem step_snoc {V : Pile → List Knt} {w : Pile} {x : List Nat} {o a : Int} : stepV V (w ++ [x], o, a) = fun q => if q = w then V w ++ [⟨x, o, a, ofL (V (w ++ [x])).reverse⟩] else if q = w ++ [x] then [] else V q := by
  funext q
  have hne : w ≠ w ++ [x] := fun e => by
    have := congrArg List.length e
    simp at this
  unfold stepV updV
  simp only [List.dropLast_concat]
  rw [if_neg hne]
  simp
theorem fold_rows : ∀ {t : Tr} {w : Pile} {V : Pile → List Knt}, (∀ q, w <+: q → q ≠ w → V q = []) → (rowsT w t).reverse.foldl stepV V = fun q => if q = w then V w ++ (topL t).reverse else V q
  | .nil, w, V, _ => by
    funext q
    show V q = _
    by_cases e : q = w
    · subst e; simp [topL]
    · simp [e]
  | .cons x o a b r, w, V, h => by
    rw [rowsT_cons, List.reverse_cons, List.reverse_append, List.foldl_append, List.foldl_append]
    have hne : w ≠ w ++ [x] := fun e => by
      have := congrArg List.length e
      simp at this
    rw [fold_rows (t := r) h, fold_rows (t := b)]
    · show stepV _ (w ++ [x], o, a) = _
      rw [step_snoc]
      funext q
      have h1 : V (w ++ [x]) = [] := h _ (List.prefix_append _ _) hne.symm
      by_cases e : q = w
      · subst e
        simp only [if_true, if_neg hne, if_neg hne.symm, h1, List.nil_append, List.reverse_reverse, ofL_top, topL, List.reverse_cons, List.append_assoc]
      · by_cases e2 : q = w ++ [x]
        · subst e2
          simp only [if_neg e, if_true, h1]
        · simp only [if_neg e, if_neg e2]
    · intro q hq hn
      have hqw : q ≠ w := fun e => by
        have := hq.length_le
        rw [e, List.length_append, List.length_cons, List.length_nil] at this
        omega
      rw [if_neg hqw]
      exact h q ((List.prefix_append _ _).trans hq) hqw
theorem fold_root {t : Tr} : ((rws t).reverse.foldl stepV fun _ => []) [] = (topL t).reverse := by
  rw [← rowsT_root, fold_rows fun _ _ _ => rfl]
  simp
theorem ltree_e {g : Nat} {F : Fn} (hG : G g = some F) (hb : F.body = F67.body) (hk : F.keep = false) (hps : F.ps.length = 1) (hns : F.ns.length = 6) {t : Tr} {m : Sto} (hl : (rws t).length ≤ 100000) : callI G (n + 1) g [.d (.tuple ((rws t).map rwD))] m = .ok (.d (trD t)) m := by
  refine callP hG hk (by rw [hps]; rfl) ?_
  rw [hb, hns]
  show FlP (exs _ F67.body [some (.d (.tuple ((rws t).map rwD))), none, none, none, none, none] (m ++ [])) _ _
  rw [List.append_nil]
  have er : ((rws t).map rwD).reverse = (rws t).reverse.map rwD := List.map_reverse.symm
  simp only [F67, ↓flP_retS, ↓outP_and, ↓outP_or, ↓outP_ite, ↓outP_cmp2, flP_of, flP_next, flP_ret, flP_bad, flP_nil, outP_ok, outP_bad, outP_of, outP_bind, outP_nox, ok_bind, ok_of, of_some, open_none, ex, ev, evs, evo, evT, evI, dat, datX, datP, datAll, dOf, seqI, lockM, openM, boxK, freshE, retOk, asgT_nm, asgT_tup, asgT_lst, asgTs_nil, asgTs_cons, List.map_cons, List.map_nil, List.cons_append, List.nil_append, List.getElem?_cons_zero, List.getElem?_cons_succ, List.length_cons, List.length_nil, List.replicate, Option.bind_some, Option.map_some, Option.isSome_some, List.set_cons_zero, List.set_cons_succ, Nat.zero_add, Nat.reduceAdd, Nat.reduceSub, Nat.reduceLT, Nat.reduceLeDiff, Nat.reduceEqDiff, Int.reduceNeg, Int.reduceLT, Int.reduceLE, Int.reduceAdd, Int.reduceSub, decide_true, decide_false, Bool.and_self, Bool.and_true, Bool.true_and, Bool.and_false, Bool.false_and, Bool.or_true, Bool.true_or, Bool.or_false, Bool.false_or, Bool.not_true, Bool.not_false, ↓reduceIte, Bool.false_eq_true, truD, bop_addI, bop_subI, bop_mulI, bop_modI, bop_fdivI, bop_pow18, bop_addT, bop_addL, cop_eq, cop_ne, cop_ltI, cop_leI, cop_gtI, cop_geI, eqD_ii, eqD_ss, eqD_bb, fits_lit, recvOk, recvOk.isL, isMut, isDic, killR, List.foldl, List.append_assoc, List.length_append, Nat.add_assoc, dk_len, st_get0, st_get1, st_get2, st_set0, st_set1, st_set2, Option.some.injEq, exists_eq_left', exists_eq_left, SV.d.injEq, PyData.bool.injEq, SV.ref.injEq, reduceCtorEq, false_and, and_false, exists_false, or_false, false_or, true_and, and_true, true_implies, false_implies, forall_const, beq_self_eq_true, Bool.true_eq_false, flP_set, flP_asg, flP_par, flP_sti, flP_expr, flP_for, flP_whl, flP_rets, bop_pow6, bop_pow9, bfn_max2, bfn_min2, bfn_tupL, bfn_tupT, bfn_lenL, bfn_lenT, bfn_listL, bfn_listT, bfn_intB, bfn_intI, SV.d.injEq, PyData.str.injEq, PyData.int.injEq, exm0, exm1, exists_and_right, mg0, mg1, mg2, ms0, ms1, ms2, noxK, flP_ifs, er]
  have hfin := fold_root (t := t)
  have hne : ∀ z ∈ (rws t).reverse, z.1 ≠ [] := fun z hz => rws_ne (List.mem_reverse.mp hz)
  have hlr : (rws t).reverse.length ≤ 100000 := by rw [List.length_reverse]; exact hl
  revert hfin hne hlr
  generalize (rws t).reverse = R
  intro hfin hne hlr
  refine FlP.forT (fun pr r m' => r = [none, some (.ref m.length), none, none, none, none] ∧ ∃ kvs, m' = m ++ [.dt kvs] ∧ kvs.length ≤ pr.length ∧ (∀ p, (lkG kvs (plK p)).getD (.d (.list [])) = .d (.list ((pr.foldl stepV (fun _ => []) p).map knD))) ∧ (∀ p, (pr.foldl stepV (fun _ => []) p).length ≤ pr.length)) ⟨rfl, [], rfl, Nat.le_refl _, fun p => rfl, fun p => Nat.le_refl _⟩ ?_ ?_
  · rintro pr a post r m' e ⟨rfl, kvs, rfl, hk1, hv, hvl⟩
    have ha := hne a (by rw [e]; simp)
    obtain ⟨w, o, al⟩ := a
    have ha : w ≠ [] := ha
    obtain ⟨w, x, rfl⟩ : ∃ u x, w = u ++ [x] := ⟨w.dropLast, w.getLast ha, (List.dropLast_concat_getLast ha).symm⟩
    have hpr : pr.length + 1 ≤ 100000 := by
      have := congrArg List.length e
      simp only [List.length_append, List.length_cons] at this
      omega
    have hg : ∀ kvs : List (List Key × SV), (dGet (.dt kvs) (plD w)) = some (lkG kvs (plK w)) := fun kvs => dGet_pl
    rw [List.foldl_append]
    simp only [List.foldl_cons, List.foldl_nil]
    generalize pr.foldl stepV (fun _ => []) = V at *
    have hvx := hv (w ++ [x])
    have hne2 : w ≠ w ++ [x] := fun e => by
      have := congrArg List.length e
      simp at this
    -- the dict without the way
    obtain ⟨kv2, e2, hl2, hv2⟩ : ∃ kv2 : List (List Key × SV), (match lkG kvs (plK (w ++ [x])) with
        | some v => (Out.ok v (m ++ [Ob.dt (drG kvs (plK (w ++ [x])))]))
        | none => .ok (SV.d (.list [])) (m ++ [Ob.dt kvs])) = .ok (.d (.list ((V (w ++ [x])).map knD))) (m ++ [Ob.dt kv2]) ∧ kv2.length ≤ pr.length ∧ ∀ p, (lkG kv2 (plK p)).getD (.d (.list [])) = .d (.list ((if p = w ++ [x] then [] else V p).map knD)) := by
      cases q : lkG kvs (plK (w ++ [x])) with
      | none =>
        rw [q] at hvx
        have hvx : SV.d (PyData.list []) = .d (.list ((V (w ++ [x])).map knD)) := hvx
        refine ⟨kvs, by rw [hvx], hk1, fun p => ?_⟩
        by_cases ep : p = w ++ [x]
        · subst ep; rw [q]; simp
        · rw [if_neg ep]; exact hv p
      | some v =>
        rw [q] at hvx
        have hvx : v = .d (.list ((V (w ++ [x])).map knD)) := hvx
        refine ⟨drG kvs (plK (w ++ [x])), by rw [hvx], Nat.le_trans len_dr hk1, fun p => ?_⟩
        rw [lk_dr]
        by_cases ep : p = w ++ [x]
        · subst ep; simp
        · rw [if_neg ep, if_neg (fun z => ep (plK_inj z))]; exact hv p
    have ek : asKs ((w ++ [x]).map nmD) = some (plK (w ++ [x])) := asKs_pl _
    have hw2 := hv2 w
    rw [if_neg hne2] at hw2
    have hp := fun v => dPut_pl (kvs := kv2) (p := w) (v := v) (by omega)
    have ad : bop .add (.list ((V w).map knD)) (.list [.tuple [nmD x, .int o, .int al, .tuple ((V (w ++ [x])).map knD).reverse]]) = some (.list ((V w ++ [(⟨x, o, al, ofL (V (w ++ [x])).reverse⟩ : Knt)]).map knD)) := by
      rw [bop_addL (by have := hvl w; rw [List.length_map]; simp only [List.length_cons, List.length_nil]; omega), List.map_append]
      have ekn : knD ⟨x, o, al, ofL (V (w ++ [x])).reverse⟩ = .tuple [nmD x, .int o, .int al, .tuple ((V (w ++ [x])).map knD).reverse] := by
        show PyData.tuple [_, _, _, .tuple (trL _)] = _
        rw [trL_top, top_ofL, List.map_reverse]
      rw [List.map_cons, ekn]; rfl
    have st : ∀ p, stepV V (w ++ [x], o, al) p = if p = w then V w ++ [⟨x, o, al, ofL (V (w ++ [x])).reverse⟩] else if p = w ++ [x] then [] else V p := fun p => by rw [step_snoc]
    simp only [↓flP_retS, ↓outP_and, ↓outP_or, ↓outP_ite, ↓outP_cmp2, flP_of, flP_next, flP_ret, flP_bad, flP_nil, outP_ok, outP_bad, outP_of, outP_bind, outP_nox, ok_bind, ok_of, of_some, open_none, ex, ev, evs, evo, evT, evI, dat, datX, datP, datAll, dOf, seqI, lockM, openM, boxK, freshE, retOk, asgT_nm, asgT_tup, asgT_lst, asgTs_nil, asgTs_cons, List.map_cons, List.map_nil, List.cons_append, List.nil_append, List.getElem?_cons_zero, List.getElem?_cons_succ, List.length_cons, List.length_nil, List.replicate, Option.bind_some, Option.map_some, Option.isSome_some, List.set_cons_zero, List.set_cons_succ, Nat.zero_add, Nat.reduceAdd, Nat.reduceSub, Nat.reduceLT, Nat.reduceLeDiff, Nat.reduceEqDiff, Int.reduceNeg, Int.reduceLT, Int.reduceLE, Int.reduceAdd, Int.reduceSub, decide_true, decide_false, Bool.and_self, Bool.and_true, Bool.true_and, Bool.and_false, Bool.false_and, Bool.or_true, Bool.true_or, Bool.or_false, Bool.false_or, Bool.not_true, Bool.not_false, ↓reduceIte, Bool.false_eq_true, truD, bop_addI, bop_subI, bop_mulI, bop_modI, bop_fdivI, bop_pow18, bop_addT, bop_addL, cop_eq, cop_ne, cop_ltI, cop_leI, cop_gtI, cop_geI, eqD_ii, eqD_ss, eqD_bb, fits_lit, recvOk, recvOk.isL, isMut, isDic, killR, List.foldl, List.append_assoc, List.length_append, Nat.add_assoc, dk_len, st_get0, st_get1, st_get2, st_set0, st_set1, st_set2, Option.some.injEq, exists_eq_left', exists_eq_left, SV.d.injEq, PyData.bool.injEq, SV.ref.injEq, reduceCtorEq, false_and, and_false, exists_false, or_false, false_or, true_and, and_true, true_implies, false_implies, forall_const, beq_self_eq_true, Bool.true_eq_false, flP_set, flP_asg, flP_par, flP_sti, flP_expr, flP_for, flP_whl, flP_rets, bop_pow6, bop_pow9, bfn_max2, bfn_min2, bfn_tupL, bfn_tupT, bfn_lenL, bfn_lenT, bfn_listL, bfn_listT, bfn_intB, bfn_intI, SV.d.injEq, PyData.str.injEq, PyData.int.injEq, exm0, exm1, exists_and_right, mg0, mg1, mg2, ms0, ms1, ms2, noxK, flP_ifs, rwD, isDic, plD, ek]
    refine ⟨_, _, e2, ?_⟩
    have es := sl_last (p := w) (y := x)
    have ei := ix_lastT (p := w) (y := x)
    simp only [plD] at es ei hg hp
    have hg2 := hg kv2
    simp only [↓flP_retS, ↓outP_and, ↓outP_or, ↓outP_ite, ↓outP_cmp2, flP_of, flP_next, flP_ret, flP_bad, flP_nil, outP_ok, outP_bad, outP_of, outP_bind, outP_nox, ok_bind, ok_of, of_some, open_none, ex, ev, evs, evo, evT, evI, dat, datX, datP, datAll, dOf, seqI, lockM, openM, boxK, freshE, retOk, asgT_nm, asgT_tup, asgT_lst, asgTs_nil, asgTs_cons, List.map_cons, List.map_nil, List.cons_append, List.nil_append, List.getElem?_cons_zero, List.getElem?_cons_succ, List.length_cons, List.length_nil, List.replicate, Option.bind_some, Option.map_some, Option.isSome_some, List.set_cons_zero, List.set_cons_succ, Nat.zero_add, Nat.reduceAdd, Nat.reduceSub, Nat.reduceLT, Nat.reduceLeDiff, Nat.reduceEqDiff, Int.reduceNeg, Int.reduceLT, Int.reduceLE, Int.reduceAdd, Int.reduceSub, decide_true, decide_false, Bool.and_self, Bool.and_true, Bool.true_and, Bool.and_false, Bool.false_and, Bool.or_true, Bool.true_or, Bool.or_false, Bool.false_or, Bool.not_true, Bool.not_false, ↓reduceIte, Bool.false_eq_true, truD, bop_addI, bop_subI, bop_mulI, bop_modI, bop_fdivI, bop_pow18, bop_addT, bop_addL, cop_eq, cop_ne, cop_ltI, cop_leI, cop_gtI, cop_geI, eqD_ii, eqD_ss, eqD_bb, fits_lit, recvOk, recvOk.isL, isMut, isDic, killR, List.foldl, List.append_assoc, List.length_append, Nat.add_assoc, dk_len, st_get0, st_get1, st_get2, st_set0, st_set1, st_set2, Option.some.injEq, exists_eq_left', exists_eq_left, SV.d.injEq, PyData.bool.injEq, SV.ref.injEq, reduceCtorEq, false_and, and_false, exists_false, or_false, false_or, true_and, and_true, true_implies, false_implies, forall_const, beq_self_eq_true, Bool.true_eq_false, flP_set, flP_asg, flP_par, flP_sti, flP_expr, flP_for, flP_whl, flP_rets, bop_pow6, bop_pow9, bfn_max2, bfn_min2, bfn_tupL, bfn_tupT, bfn_lenL, bfn_lenT, bfn_listL, bfn_listT, bfn_intB, bfn_intI, SV.d.injEq, PyData.str.injEq, PyData.int.injEq, exm0, exm1, exists_and_right, mg0, mg1, mg2, ms0, ms1, ms2, noxK, flP_ifs, es, ei, isDic, hg2, hw2, ad, hp]
    refine ⟨_, rfl, Nat.le_trans len_pt (by omega), fun p => ?_, fun p => ?_⟩
    · rw [lk_pt, st]
      by_cases ep : p = w
      · subst ep; simp
      · rw [if_neg ep, if_neg (fun z => ep (plK_inj z))]; exact hv2 p
    · rw [st]
      have := hvl w
      have := hvl p
      split
      · rw [List.length_append]; simp only [List.length_cons, List.length_nil]; omega
      · split
        · exact Nat.zero_le _
        · omega
  · rintro r m' ⟨rfl, kvs, rfl, hk1, hv, hvl⟩
    have hg : dGet (.dt kvs) (.tuple []) = some (lkG kvs (plK [])) := dGet_pl (p := [])
    have h0 := hv []
    rw [hfin] at h0
    simp only [↓flP_retS, ↓outP_and, ↓outP_or, ↓outP_ite, ↓outP_cmp2, flP_of, flP_next, flP_ret, flP_bad, flP_nil, outP_ok, outP_bad, outP_of, outP_bind, outP_nox, ok_bind, ok_of, of_some, open_none, ex, ev, evs, evo, evT, evI, dat, datX, datP, datAll, dOf, seqI, lockM, openM, boxK, freshE, retOk, asgT_nm, asgT_tup, asgT_lst, asgTs_nil, asgTs_cons, List.map_cons, List.map_nil, List.cons_append, List.nil_append, List.getElem?_cons_zero, List.getElem?_cons_succ, List.length_cons, List.length_nil, List.replicate, Option.bind_some, Option.map_some, Option.isSome_some, List.set_cons_zero, List.set_cons_succ, Nat.zero_add, Nat.reduceAdd, Nat.reduceSub, Nat.reduceLT, Nat.reduceLeDiff, Nat.reduceEqDiff, Int.reduceNeg, Int.reduceLT, Int.reduceLE, Int.reduceAdd, Int.reduceSub, decide_true, decide_false, Bool.and_self, Bool.and_true, Bool.true_and, Bool.and_false, Bool.false_and, Bool.or_true, Bool.true_or, Bool.or_false, Bool.false_or, Bool.not_true, Bool.not_false, ↓reduceIte, Bool.false_eq_true, truD, bop_addI, bop_subI, bop_mulI, bop_modI, bop_fdivI, bop_pow18, bop_addT, bop_addL, cop_eq, cop_ne, cop_ltI, cop_leI, cop_gtI, cop_geI, eqD_ii, eqD_ss, eqD_bb, fits_lit, recvOk, recvOk.isL, isMut, isDic, killR, List.foldl, List.append_assoc, List.length_append, Nat.add_assoc, dk_len, st_get0, st_get1, st_get2, st_set0, st_set1, st_set2, Option.some.injEq, exists_eq_left', exists_eq_left, SV.d.injEq, PyData.bool.injEq, SV.ref.injEq, reduceCtorEq, false_and, and_false, exists_false, or_false, false_or, true_and, and_true, true_implies, false_implies, forall_const, beq_self_eq_true, Bool.true_eq_false, flP_set, flP_asg, flP_par, flP_sti, flP_expr, flP_for, flP_whl, flP_rets, bop_pow6, bop_pow9, bfn_max2, bfn_min2, bfn_tupL, bfn_tupT, bfn_lenL, bfn_lenT, bfn_listL, bfn_listT, bfn_intB, bfn_intI, SV.d.injEq, PyData.str.injEq, PyData.int.injEq, exm0, exm1, exists_and_right, mg0, mg1, mg2, ms0, ms1, ms2, noxK, flP_ifs, isDic, hg, h0]
    unfold trD
    rw [trL_top, List.map_reverse, List.reverse_reverse]
/-! ### rows -/
def depT : Tr → Nat
  | .nil => 0
  | .cons _ _ _ b r => max (depT b + 1) (depT r)
theorem dep_top : ∀ {t : Tr} {k : Knt}, k ∈ topL t → depT k.b < depT t
  | .nil, _, h => by cases h
  | .cons x o a b r, k, h => by
    simp only [topL, List.mem_cons] at h
    rcases h with rfl | h
    · show depT b < max (depT b + 1) (depT r); omega
    · have := dep_top h
      show depT k.b < max (depT b + 1) (depT r); omega
theorem rws_top : ∀ {t : Tr} {k : Knt}, k ∈ topL t → (rws k.b).length < (rws t).length
  | .nil, _, h => by cases h
  | .cons x o a b r, k, h => by
    simp only [topL, List.mem_cons] at h
    simp only [rws, List.length_cons, List.length_append, List.length_map]
    rcases h with rfl | h
    · show (rws b).length < _; omega
    · have := rws_top h
      omega
def rowsK (w : Pile) (ks : List Knt) : List Row := ks.flatMap fun k => (w ++ [k.x], k.o, k.a) :: rowsT (w ++ [k.x]) k.b
theorem rowsK_top {w : Pile} : ∀ {t : Tr}, rowsT w t = rowsK w (topL t)
  | .nil => rfl
  | .cons x o a b r => by
    rw [rowsT_cons, rowsK_top (t := r)]
    show _ = ((w ++ [x], o, a) :: rowsT (w ++ [x]) b) ++ rowsK w (topL r)
    rfl
theorem len_rowsT {w : Pile} {t : Tr} : (rowsT w t).length = (rws t).length := by unfold rowsT; rw [List.length_map]
theorem trD_top {t : Tr} : trD t = .tuple ((topL t).map knD) := by unfold trD; rw [trL_top]
theorem len_rowsK {w : Pile} {pre post : List Knt} {k : Knt} : (rowsK w (pre ++ k :: post)).length = (rowsK w pre).length + 1 + (rws k.b).length + (rowsK w post).length := by
  unfold rowsK
  rw [List.flatMap_append, List.flatMap_cons, List.length_append, List.length_append, List.length_cons, len_rowsT]
  omega
theorem rowsb_e (h86 : G 86 = some F86) : ∀ {d : Nat} {t : Tr} {w : Pile} {m : Sto}, depT t ≤ d → (rws t).length ≤ 100000 → w.length + d ≤ 2000 → callI G (n + d + 1) 86 [.d (trD t), .d (plD w)] m = .ok (.d (.list ((rowsT w t).map rwD))) m := by
  intro d
  induction d with
  | zero =>
    intro t w m hd hr hw
    have e0 : topL t = [] := by
      cases e : topL t with
      | nil => rfl
      | cons k ks => have := dep_top (t := t) (k := k) (by rw [e]; simp); omega
    refine callP h86 rfl rfl ?_
    rw [List.append_nil, trD_top, rowsK_top, e0]
    simp only [F86, ↓flP_retS, ↓outP_and, ↓outP_or, ↓outP_ite, ↓outP_cmp2, flP_of, flP_next, flP_ret, flP_bad, flP_nil, outP_ok, outP_bad, outP_of, outP_bind, outP_nox, ok_bind, ok_of, of_some, open_none, ex, ev, evs, evo, evT, evI, dat, datX, datP, datAll, dOf, seqI, lockM, openM, boxK, freshE, retOk, asgT_nm, asgT_tup, asgT_lst, asgTs_nil, asgTs_cons, List.map_cons, List.map_nil, List.cons_append, List.nil_append, List.getElem?_cons_zero, List.getElem?_cons_succ, List.length_cons, List.length_nil, List.replicate, Option.bind_some, Option.map_some, Option.isSome_some, List.set_cons_zero, List.set_cons_succ, Nat.zero_add, Nat.reduceAdd, Nat.reduceSub, Nat.reduceLT, Nat.reduceLeDiff, Nat.reduceEqDiff, Int.reduceNeg, Int.reduceLT, Int.reduceLE, Int.reduceAdd, Int.reduceSub, decide_true, decide_false, Bool.and_self, Bool.and_true, Bool.true_and, Bool.and_false, Bool.false_and, Bool.or_true, Bool.true_or, Bool.or_false, Bool.false_or, Bool.not_true, Bool.not_false, ↓reduceIte, Bool.false_eq_true, truD, bop_addI, bop_subI, bop_mulI, bop_modI, bop_fdivI, bop_pow18, bop_addT, bop_addL, cop_eq, cop_ne, cop_ltI, cop_leI, cop_gtI, cop_geI, eqD_ii, eqD_ss, eqD_bb, fits_lit, recvOk, recvOk.isL, isMut, isDic, killR, List.foldl, List.append_assoc, List.length_append, Nat.add_assoc, dk_len, st_get0, st_get1, st_get2, st_set0, st_set1, st_set2, Option.some.injEq, exists_eq_left', exists_eq_left, SV.d.injEq, PyData.bool.injEq, SV.ref.injEq, reduceCtorEq, false_and, and_false, exists_false, or_false, false_or, true_and, and_true, true_implies, false_implies, forall_const, beq_self_eq_true, Bool.true_eq_false, flP_set, flP_asg, flP_par, flP_sti, flP_expr, flP_for, flP_whl, flP_rets, bop_pow6, bop_pow9, bfn_max2, bfn_min2, bfn_tupL, bfn_tupT, bfn_lenL, bfn_lenT, bfn_listL, bfn_listT, bfn_intB, bfn_intI, SV.d.injEq, PyData.str.injEq, PyData.int.injEq, exm0, exm1, exists_and_right, mg0, mg1, mg2, ms0, ms1, ms2, noxK, flP_ifs]
    refine FlP.for0 (fun xs r m' => r = [none, some (.d (plD w)), some (.ref m.length), none, none, none, none, none] ∧ m' = m ++ [.lst []] ∧ xs = []) ⟨rfl, rfl, rfl⟩ (by rintro _ _ _ _ ⟨_, _, h⟩; cases h) ?_
    rintro r m' ⟨rfl, rfl, _⟩
    simp only [↓flP_retS, ↓outP_and, ↓outP_or, ↓outP_ite, ↓outP_cmp2, flP_of, flP_next, flP_ret, flP_bad, flP_nil, outP_ok, outP_bad, outP_of, outP_bind, outP_nox, ok_bind, ok_of, of_some, open_none, ex, ev, evs, evo, evT, evI, dat, datX, datP, datAll, dOf, seqI, lockM, openM, boxK, freshE, retOk, asgT_nm, asgT_tup, asgT_lst, asgTs_nil, asgTs_cons, List.map_cons, List.map_nil, List.cons_append, List.nil_append, List.getElem?_cons_zero, List.getElem?_cons_succ, List.length_cons, List.length_nil, List.replicate, Option.bind_some, Option.map_some, Option.isSome_some, List.set_cons_zero, List.set_cons_succ, Nat.zero_add, Nat.reduceAdd, Nat.reduceSub, Nat.reduceLT, Nat.reduceLeDiff, Nat.reduceEqDiff, Int.reduceNeg, Int.reduceLT, Int.reduceLE, Int.reduceAdd, Int.reduceSub, decide_true, decide_false, Bool.and_self, Bool.and_true, Bool.true_and, Bool.and_false, Bool.false_and, Bool.or_true, Bool.true_or, Bool.or_false, Bool.false_or, Bool.not_true, Bool.not_false, ↓reduceIte, Bool.false_eq_true, truD, bop_addI, bop_subI, bop_mulI, bop_modI, bop_fdivI, bop_pow18, bop_addT, bop_addL, cop_eq, cop_ne, cop_ltI, cop_leI, cop_gtI, cop_geI, eqD_ii, eqD_ss, eqD_bb, fits_lit, recvOk, recvOk.isL, isMut, isDic, killR, List.foldl, List.append_assoc, List.length_append, Nat.add_assoc, dk_len, st_get0, st_get1, st_get2, st_set0, st_set1, st_set2, Option.some.injEq, exists_eq_left', exists_eq_left, SV.d.injEq, PyData.bool.injEq, SV.ref.injEq, reduceCtorEq, false_and, and_false, exists_false, or_false, false_or, true_and, and_true, true_implies, false_implies, forall_const, beq_self_eq_true, Bool.true_eq_false, flP_set, flP_asg, flP_par, flP_sti, flP_expr, flP_for, flP_whl, flP_rets, bop_pow6, bop_pow9, bfn_max2, bfn_min2, bfn_tupL, bfn_tupT, bfn_lenL, bfn_lenT, bfn_listL, bfn_listT, bfn_intB, bfn_intI, SV.d.injEq, PyData.str.injEq, PyData.int.injEq, exm0, exm1, exists_and_right, mg0, mg1, mg2, ms0, ms1, ms2, noxK, flP_ifs]
    exact ⟨_, rfl, 0, [], rfl, rfl, rfl⟩
  | succ d ih =>
    intro t w m hd hr hw
    refine callP h86 rfl rfl ?_
    rw [List.append_nil, trD_top, rowsK_top]
    have hrk : (rowsK w (topL t)).length ≤ 100000 := by rw [← rowsK_top, len_rowsT]; exact hr
    simp only [F86, ↓flP_retS, ↓outP_and, ↓outP_or, ↓outP_ite, ↓outP_cmp2, flP_of, flP_next, flP_ret, flP_bad, flP_nil, outP_ok, outP_bad, outP_of, outP_bind, outP_nox, ok_bind, ok_of, of_some, open_none, ex, ev, evs, evo, evT, evI, dat, datX, datP, datAll, dOf, seqI, lockM, openM, boxK, freshE, retOk, asgT_nm, asgT_tup, asgT_lst, asgTs_nil, asgTs_cons, List.map_cons, List.map_nil, List.cons_append, List.nil_append, List.getElem?_cons_zero, List.getElem?_cons_succ, List.length_cons, List.length_nil, List.replicate, Option.bind_some, Option.map_some, Option.isSome_some, List.set_cons_zero, List.set_cons_succ, Nat.zero_add, Nat.reduceAdd, Nat.reduceSub, Nat.reduceLT, Nat.reduceLeDiff, Nat.reduceEqDiff, Int.reduceNeg, Int.reduceLT, Int.reduceLE, Int.reduceAdd, Int.reduceSub, decide_true, decide_false, Bool.and_self, Bool.and_true, Bool.true_and, Bool.and_false, Bool.false_and, Bool.or_true, Bool.true_or, Bool.or_false, Bool.false_or, Bool.not_true, Bool.not_false, ↓reduceIte, Bool.false_eq_true, truD, bop_addI, bop_subI, bop_mulI, bop_modI, bop_fdivI, bop_pow18, bop_addT, bop_addL, cop_eq, cop_ne, cop_ltI, cop_leI, cop_gtI, cop_geI, eqD_ii, eqD_ss, eqD_bb, fits_lit, recvOk, recvOk.isL, isMut, isDic, killR, List.foldl, List.append_assoc, List.length_append, Nat.add_assoc, dk_len, st_get0, st_get1, st_get2, st_set0, st_set1, st_set2, Option.some.injEq, exists_eq_left', exists_eq_left, SV.d.injEq, PyData.bool.injEq, SV.ref.injEq, reduceCtorEq, false_and, and_false, exists_false, or_false, false_or, true_and, and_true, true_implies, false_implies, forall_const, beq_self_eq_true, Bool.true_eq_false, flP_set, flP_asg, flP_par, flP_sti, flP_expr, flP_for, flP_whl, flP_rets, bop_pow6, bop_pow9, bfn_max2, bfn_min2, bfn_tupL, bfn_tupT, bfn_lenL, bfn_lenT, bfn_listL, bfn_listT, bfn_intB, bfn_intI, SV.d.injEq, PyData.str.injEq, PyData.int.injEq, exm0, exm1, exists_and_right, mg0, mg1, mg2, ms0, ms1, ms2, noxK, flP_ifs]
    refine FlP.forT (fun pr r m' => r = [none, some (.d (plD w)), some (.ref m.length), none, none, none, none, none] ∧ m' = m ++ [.lst ((rowsK w pr).map rwD)]) ⟨rfl, rfl⟩ ?_ ?_
    · rintro pr k post r m' e ⟨rfl, rfl⟩
      have hk : k ∈ topL t := by rw [e]; simp
      have h1 := dep_top hk
      have h2 := rws_top hk
      have h3 := len_rowsK (w := w) (pre := pr) (post := post) (k := k)
      rw [← e] at h3
      have hc : ∀ m, callI G (n + (d + 1)) 86 [.d (trD k.b), .d (plD (w ++ [k.x]))] m = .ok (.d (.list ((rowsT (w ++ [k.x]) k.b).map rwD))) m := fun m => ih (t := k.b) (w := w ++ [k.x]) (m := m) (by omega) (by omega) (by rw [List.length_append, List.length_cons, List.length_nil]; omega)
      have ad := pl_snoc (p := w) (x := k.x) (by omega)
      have ap : mmu .append ((rowsK w pr).map rwD) [.tuple [plD (w ++ [k.x]), .int k.o, .int k.a]] = some ((rowsK w pr ++ [(w ++ [k.x], k.o, k.a)]).map rwD, .none) := by
        rw [app_mmu (by rw [List.length_map]; omega), List.map_append]; rfl
      have hf : fitsN (((rowsK w pr ++ [(w ++ [k.x], k.o, k.a)]).map rwD).length + ((rowsT (w ++ [k.x]) k.b).map rwD).length) = true := fits_lit (by
        rw [List.length_map, List.length_map, List.length_append, len_rowsT]
        simp only [List.length_cons, List.length_nil]
        omega)
      simp only [↓flP_retS, ↓outP_and, ↓outP_or, ↓outP_ite, ↓outP_cmp2, flP_of, flP_next, flP_ret, flP_bad, flP_nil, outP_ok, outP_bad, outP_of, outP_bind, outP_nox, ok_bind, ok_of, of_some, open_none, ex, ev, evs, evo, evT, evI, dat, datX, datP, datAll, dOf, seqI, lockM, openM, boxK, freshE, retOk, asgT_nm, asgT_tup, asgT_lst, asgTs_nil, asgTs_cons, List.map_cons, List.map_nil, List.cons_append, List.nil_append, List.getElem?_cons_zero, List.getElem?_cons_succ, List.length_cons, List.length_nil, List.replicate, Option.bind_some, Option.map_some, Option.isSome_some, List.set_cons_zero, List.set_cons_succ, Nat.zero_add, Nat.reduceAdd, Nat.reduceSub, Nat.reduceLT, Nat.reduceLeDiff, Nat.reduceEqDiff, Int.reduceNeg, Int.reduceLT, Int.reduceLE, Int.reduceAdd, Int.reduceSub, decide_true, decide_false, Bool.and_self, Bool.and_true, Bool.true_and, Bool.and_false, Bool.false_and, Bool.or_true, Bool.true_or, Bool.or_false, Bool.false_or, Bool.not_true, Bool.not_false, ↓reduceIte, Bool.false_eq_true, truD, bop_addI, bop_subI, bop_mulI, bop_modI, bop_fdivI, bop_pow18, bop_addT, bop_addL, cop_eq, cop_ne, cop_ltI, cop_leI, cop_gtI, cop_geI, eqD_ii, eqD_ss, eqD_bb, fits_lit, recvOk, recvOk.isL, isMut, isDic, killR, List.foldl, List.append_assoc, List.length_append, Nat.add_assoc, dk_len, st_get0, st_get1, st_get2, st_set0, st_set1, st_set2, Option.some.injEq, exists_eq_left', exists_eq_left, SV.d.injEq, PyData.bool.injEq, SV.ref.injEq, reduceCtorEq, false_and, and_false, exists_false, or_false, false_or, true_and, and_true, true_implies, false_implies, forall_const, beq_self_eq_true, Bool.true_eq_false, flP_set, flP_asg, flP_par, flP_sti, flP_expr, flP_for, flP_whl, flP_rets, bop_pow6, bop_pow9, bfn_max2, bfn_min2, bfn_tupL, bfn_tupT, bfn_lenL, bfn_lenT, bfn_listL, bfn_listT, bfn_intB, bfn_intI, SV.d.injEq, PyData.str.injEq, PyData.int.injEq, exm0, exm1, exists_and_right, mg0, mg1, mg2, ms0, ms1, ms2, noxK, flP_ifs, knD, ad, ap, hc, seqD, hf]
      have ef : ((rowsK w pr ++ [(w ++ [k.x], k.o, k.a)]).map rwD ++ (rowsT (w ++ [k.x]) k.b).map rwD) = (rowsK w (pr ++ [k])).map rwD := by
        rw [← List.map_append]
        unfold rowsK
        rw [List.flatMap_append]
        simp
      rw [← ef]
      try simp only [List.map_append, List.append_assoc]
    · rintro r m' ⟨rfl, rfl⟩
      simp only [↓flP_retS, ↓outP_and, ↓outP_or, ↓outP_ite, ↓outP_cmp2, flP_of, flP_next, flP_ret, flP_bad, flP_nil, outP_ok, outP_bad, outP_of, outP_bind, outP_nox, ok_bind, ok_of, of_some, open_none, ex, ev, evs, evo, evT, evI, dat, datX, datP, datAll, dOf, seqI, lockM, openM, boxK, freshE, retOk, asgT_nm, asgT_tup, asgT_lst, asgTs_nil, asgTs_cons, List.map_cons, List.map_nil, List.cons_append, List.nil_append, List.getElem?_cons_zero, List.getElem?_cons_succ, List.length_cons, List.length_nil, List.replicate, Option.bind_some, Option.map_some, Option.isSome_some, List.set_cons_zero, List.set_cons_succ, Nat.zero_add, Nat.reduceAdd, Nat.reduceSub, Nat.reduceLT, Nat.reduceLeDiff, Nat.reduceEqDiff, Int.reduceNeg, Int.reduceLT, Int.reduceLE, Int.reduceAdd, Int.reduceSub, decide_true, decide_false, Bool.and_self, Bool.and_true, Bool.true_and, Bool.and_false, Bool.false_and, Bool.or_true, Bool.true_or, Bool.or_false, Bool.false_or, Bool.not_true, Bool.not_false, ↓reduceIte, Bool.false_eq_true, truD, bop_addI, bop_subI, bop_mulI, bop_modI, bop_fdivI, bop_pow18, bop_addT, bop_addL, cop_eq, cop_ne, cop_ltI, cop_leI, cop_gtI, cop_geI, eqD_ii, eqD_ss, eqD_bb, fits_lit, recvOk, recvOk.isL, isMut, isDic, killR, List.foldl, List.append_assoc, List.length_append, Nat.add_assoc, dk_len, st_get0, st_get1, st_get2, st_set0, st_set1, st_set2, Option.some.injEq, exists_eq_left', exists_eq_left, SV.d.injEq, PyData.bool.injEq, SV.ref.injEq, reduceCtorEq, false_and, and_false, exists_false, or_false, false_or, true_and, and_true, true_implies, false_implies, forall_const, beq_self_eq_true, Bool.true_eq_false, flP_set, flP_asg, flP_par, flP_sti, flP_expr, flP_for, flP_whl, flP_rets, bop_pow6, bop_pow9, bfn_max2, bfn_min2, bfn_tupL, bfn_tupT, bfn_lenL, bfn_lenT, bfn_listL, bfn_listT, bfn_intB, bfn_intI, SV.d.injEq, PyData.str.injEq, PyData.int.injEq, exm0, exm1, exists_and_right, mg0, mg1, mg2, ms0, ms1, ms2, noxK, flP_ifs]
      exact ⟨_, rfl, 0, _, rfl, rfl, rfl⟩
theorem rows_e (h86 : G 86 = some F86) (h87 : G 87 = some F87) {d : Nat} {t : Tr} {m : Sto} (hd : depT t ≤ d) (hr : (rws t).length ≤ 100000) (hw : d ≤ 2000) : callI G (n + d + 2) 87 [.d (trD t)] m = .ok (.d (.tuple ((rws t).map rwD))) m := by
  refine callP h87 rfl rfl ?_
  rw [List.append_nil]
  have e := fun m => rowsb_e (n := n) h86 (w := []) (m := m) hd hr (by simpa using hw)
  rw [rowsT_root] at e
  have e : ∀ m, callI G (n + (d + 1)) 86 [.d (trD t), .d (.tuple [])] m = .ok (.d (.list ((rws t).map rwD))) m := e
  simp only [F87, ↓flP_retS, ↓outP_and, ↓outP_or, ↓outP_ite, ↓outP_cmp2, flP_of, flP_next, flP_ret, flP_bad, flP_nil, outP_ok, outP_bad, outP_of, outP_bind, outP_nox, ok_bind, ok_of, of_some, open_none, ex, ev, evs, evo, evT, evI, dat, datX, datP, datAll, dOf, seqI, lockM, openM, boxK, freshE, retOk, asgT_nm, asgT_tup, asgT_lst, asgTs_nil, asgTs_cons, List.map_cons, List.map_nil, List.cons_append, List.nil_append, List.getElem?_cons_zero, List.getElem?_cons_succ, List.length_cons, List.length_nil, List.replicate, Option.bind_some, Option.map_some, Option.isSome_some, List.set_cons_zero, List.set_cons_succ, Nat.zero_add, Nat.reduceAdd, Nat.reduceSub, Nat.reduceLT, Nat.reduceLeDiff, Nat.reduceEqDiff, Int.reduceNeg, Int.reduceLT, Int.reduceLE, Int.reduceAdd, Int.reduceSub, decide_true, decide_false, Bool.and_self, Bool.and_true, Bool.true_and, Bool.and_false, Bool.false_and, Bool.or_true, Bool.true_or, Bool.or_false, Bool.false_or, Bool.not_true, Bool.not_false, ↓reduceIte, Bool.false_eq_true, truD, bop_addI, bop_subI, bop_mulI, bop_modI, bop_fdivI, bop_pow18, bop_addT, bop_addL, cop_eq, cop_ne, cop_ltI, cop_leI, cop_gtI, cop_geI, eqD_ii, eqD_ss, eqD_bb, fits_lit, recvOk, recvOk.isL, isMut, isDic, killR, List.foldl, List.append_assoc, List.length_append, Nat.add_assoc, dk_len, st_get0, st_get1, st_get2, st_set0, st_set1, st_set2, Option.some.injEq, exists_eq_left', exists_eq_left, SV.d.injEq, PyData.bool.injEq, SV.ref.injEq, reduceCtorEq, false_and, and_false, exists_false, or_false, false_or, true_and, and_true, true_implies, false_implies, forall_const, beq_self_eq_true, Bool.true_eq_false, flP_set, flP_asg, flP_par, flP_sti, flP_expr, flP_for, flP_whl, flP_rets, bop_pow6, bop_pow9, bfn_max2, bfn_min2, bfn_tupL, bfn_tupT, bfn_lenL, bfn_lenT, bfn_listL, bfn_listT, bfn_intB, bfn_intI, SV.d.injEq, PyData.str.injEq, PyData.int.injEq, exm0, exm1, exists_and_right, mg0, mg1, mg2, ms0, ms1, ms2, noxK, flP_ifs, e]
/-! ### at a way -/
def NmT : Tr → Prop
  | .nil => True
  | .cons x _ _ b r => NameOk x ∧ NmT b ∧ NmT r
theorem fine_tr : ∀ {t : Tr}, NmT t → ∀ x ∈ trL t, Fine (2 * depT t) x
  | .nil, _, x, h => by cases h
  | .cons y o a b r, hn, x, h => by
    have e : trL (.cons y o a b r) = .tuple [nmD y, .int o, .int a, .tuple (trL b)] :: trL r := rfl
    rw [e] at h
    have hd : depT (.cons y o a b r) = max (depT b + 1) (depT r) := rfl
    rcases List.mem_cons.mp h with rfl | h
    · have hb : Fine (2 * depT b + 1) (.tuple (trL b)) := fine_tup (fine_tr hn.2.1)
      have := fine_tup (n := 2 * depT b + 1) (xs := [nmD y, .int o, .int a, .tuple (trL b)]) fun z hz => by
        simp only [List.mem_cons, List.not_mem_nil, or_false] at hz
        rcases hz with rfl | rfl | rfl | rfl
        · exact fine_str (tx_ok hn.1.lt)
        · exact fine_int
        · exact fine_int
        · exact hb
      exact this.mono (by omega)
    · exact (fine_tr hn.2.2 x h).mono (by omega)
theorem nm_top : ∀ {t : Tr} {k : Knt}, NmT t → k ∈ topL t → NameOk k.x ∧ NmT k.b
  | .nil, _, _, h => by cases h
  | .cons x o a b r, k, hn, h => by
    simp only [topL, List.mem_cons] at h
    rcases h with rfl | h
    · exact ⟨hn.1, hn.2.1⟩
    · exact nm_top hn.2.2 h
def twD (z : Int × Int) : PyData := .tuple [.int z.1, .int z.2]
theorem at_e (h85 : G 85 = some F85) {t : Tr} {w : Pile} {m : Sto} (hn : NmT t) (hd : depT t ≤ 30) (hl : (rws t).length ≤ 100000) : callI G (n + 1) 85 [.d (trD t), .d (plD w)] m = .ok (.d (twD (atT t w (0, 0)))) m := by
  refine callP h85 rfl rfl ?_
  rw [List.append_nil]
  simp only [F85, ↓ev_comp, ↓flP_retS, ↓outP_and, ↓outP_or, ↓outP_ite, ↓outP_cmp2, flP_of, flP_next, flP_ret, flP_bad, flP_nil, outP_ok, outP_bad, outP_of, outP_bind, outP_nox, ok_bind, ok_of, of_some, open_none, ex, ev, evs, evo, evT, evI, dat, datX, datP, datAll, dOf, seqI, lockM, openM, boxK, freshE, retOk, asgT_nm, asgT_tup, asgT_lst, asgTs_nil, asgTs_cons, List.map_cons, List.map_nil, List.cons_append, List.nil_append, List.getElem?_cons_zero, List.getElem?_cons_succ, List.length_cons, List.length_nil, List.replicate, Option.bind_some, Option.map_some, Option.isSome_some, List.set_cons_zero, List.set_cons_succ, Nat.zero_add, Nat.reduceAdd, Nat.reduceSub, Nat.reduceLT, Nat.reduceLeDiff, Nat.reduceEqDiff, Int.reduceNeg, Int.reduceLT, Int.reduceLE, Int.reduceAdd, Int.reduceSub, decide_true, decide_false, Bool.and_self, Bool.and_true, Bool.true_and, Bool.and_false, Bool.false_and, Bool.or_true, Bool.true_or, Bool.or_false, Bool.false_or, Bool.not_true, Bool.not_false, ↓reduceIte, Bool.false_eq_true, truD, bop_addI, bop_subI, bop_mulI, bop_modI, bop_fdivI, bop_pow18, bop_addT, bop_addL, cop_eq, cop_ne, cop_ltI, cop_leI, cop_gtI, cop_geI, eqD_ii, eqD_ss, eqD_bb, fits_lit, recvOk, recvOk.isL, isMut, isDic, killR, List.foldl, List.append_assoc, List.length_append, Nat.add_assoc, dk_len, st_get0, st_get1, st_get2, st_set0, st_set1, st_set2, Option.some.injEq, exists_eq_left', exists_eq_left, SV.d.injEq, PyData.bool.injEq, SV.ref.injEq, reduceCtorEq, false_and, and_false, exists_false, or_false, false_or, true_and, and_true, true_implies, false_implies, forall_const, beq_self_eq_true, Bool.true_eq_false, flP_set, flP_asg, flP_par, flP_sti, flP_expr, flP_for, flP_whl, flP_rets, bop_pow6, bop_pow9, bfn_max2, bfn_min2, bfn_tupL, bfn_tupT, bfn_lenL, bfn_lenT, bfn_listL, bfn_listT, bfn_intB, bfn_intI, SV.d.injEq, PyData.str.injEq, PyData.int.injEq, exm0, exm1, exists_and_right, mg0, mg1, mg2, ms0, ms1, ms2, noxK, flP_ifs, plD]
  refine FlP.forT (fun pr r m' => ∃ (t' : Tr) (f : Int × Int), r = [some (.d (trD t')), none, some (.d (twD f)), none, none, none] ∧ m' = m ∧ NmT t' ∧ depT t' ≤ 30 ∧ (rws t').length ≤ 100000 ∧ ∀ post, w = pr ++ post → atT t w (0, 0) = atT t' post f) ⟨t, (0, 0), rfl, rfl, hn, hd, hl, fun post e => by rw [e]; rfl⟩ ?_ ?_
  · rintro pr x post r m' e ⟨t', f, rfl, rfl, hn', hd', hl', ha⟩
    have ha := ha (x :: post) e
    simp only [↓ev_comp, ↓flP_retS, ↓outP_and, ↓outP_or, ↓outP_ite, ↓outP_cmp2, flP_of, flP_next, flP_ret, flP_bad, flP_nil, outP_ok, outP_bad, outP_of, outP_bind, outP_nox, ok_bind, ok_of, of_some, open_none, ex, ev, evs, evo, evT, evI, dat, datX, datP, datAll, dOf, seqI, lockM, openM, boxK, freshE, retOk, asgT_nm, asgT_tup, asgT_lst, asgTs_nil, asgTs_cons, List.map_cons, List.map_nil, List.cons_append, List.nil_append, List.getElem?_cons_zero, List.getElem?_cons_succ, List.length_cons, List.length_nil, List.replicate, Option.bind_some, Option.map_some, Option.isSome_some, List.set_cons_zero, List.set_cons_succ, Nat.zero_add, Nat.reduceAdd, Nat.reduceSub, Nat.reduceLT, Nat.reduceLeDiff, Nat.reduceEqDiff, Int.reduceNeg, Int.reduceLT, Int.reduceLE, Int.reduceAdd, Int.reduceSub, decide_true, decide_false, Bool.and_self, Bool.and_true, Bool.true_and, Bool.and_false, Bool.false_and, Bool.or_true, Bool.true_or, Bool.or_false, Bool.false_or, Bool.not_true, Bool.not_false, ↓reduceIte, Bool.false_eq_true, truD, bop_addI, bop_subI, bop_mulI, bop_modI, bop_fdivI, bop_pow18, bop_addT, bop_addL, cop_eq, cop_ne, cop_ltI, cop_leI, cop_gtI, cop_geI, eqD_ii, eqD_ss, eqD_bb, fits_lit, recvOk, recvOk.isL, isMut, isDic, killR, List.foldl, List.append_assoc, List.length_append, Nat.add_assoc, dk_len, st_get0, st_get1, st_get2, st_set0, st_set1, st_set2, Option.some.injEq, exists_eq_left', exists_eq_left, SV.d.injEq, PyData.bool.injEq, SV.ref.injEq, reduceCtorEq, false_and, and_false, exists_false, or_false, false_or, true_and, and_true, true_implies, false_implies, forall_const, beq_self_eq_true, Bool.true_eq_false, flP_set, flP_asg, flP_par, flP_sti, flP_expr, flP_for, flP_whl, flP_rets, bop_pow6, bop_pow9, bfn_max2, bfn_min2, bfn_tupL, bfn_tupT, bfn_lenL, bfn_lenT, bfn_listL, bfn_listT, bfn_intB, bfn_intI, SV.d.injEq, PyData.str.injEq, PyData.int.injEq, exm0, exm1, exists_and_right, mg0, mg1, mg2, ms0, ms1, ms2, noxK, flP_ifs]
    rw [trD_top]
    simp only [↓flP_retS, ↓outP_and, ↓outP_or, ↓outP_ite, ↓outP_cmp2, flP_of, flP_next, flP_ret, flP_bad, flP_nil, outP_ok, outP_bad, outP_of, outP_bind, outP_nox, ok_bind, ok_of, of_some, open_none, ex, ev, evs, evo, evT, evI, dat, datX, datP, datAll, dOf, seqI, lockM, openM, boxK, freshE, retOk, asgT_nm, asgT_tup, asgT_lst, asgTs_nil, asgTs_cons, List.map_cons, List.map_nil, List.cons_append, List.nil_append, List.getElem?_cons_zero, List.getElem?_cons_succ, List.length_cons, List.length_nil, List.replicate, Option.bind_some, Option.map_some, Option.isSome_some, List.set_cons_zero, List.set_cons_succ, Nat.zero_add, Nat.reduceAdd, Nat.reduceSub, Nat.reduceLT, Nat.reduceLeDiff, Nat.reduceEqDiff, Int.reduceNeg, Int.reduceLT, Int.reduceLE, Int.reduceAdd, Int.reduceSub, decide_true, decide_false, Bool.and_self, Bool.and_true, Bool.true_and, Bool.and_false, Bool.false_and, Bool.or_true, Bool.true_or, Bool.or_false, Bool.false_or, Bool.not_true, Bool.not_false, ↓reduceIte, Bool.false_eq_true, truD, bop_addI, bop_subI, bop_mulI, bop_modI, bop_fdivI, bop_pow18, bop_addT, bop_addL, cop_eq, cop_ne, cop_ltI, cop_leI, cop_gtI, cop_geI, eqD_ii, eqD_ss, eqD_bb, fits_lit, recvOk, recvOk.isL, isMut, isDic, killR, List.foldl, List.append_assoc, List.length_append, Nat.add_assoc, dk_len, st_get0, st_get1, st_get2, st_set0, st_set1, st_set2, Option.some.injEq, exists_eq_left', exists_eq_left, SV.d.injEq, PyData.bool.injEq, SV.ref.injEq, reduceCtorEq, false_and, and_false, exists_false, or_false, false_or, true_and, and_true, true_implies, false_implies, forall_const, beq_self_eq_true, Bool.true_eq_false, flP_set, flP_asg, flP_par, flP_sti, flP_expr, flP_for, flP_whl, flP_rets, bop_pow6, bop_pow9, bfn_max2, bfn_min2, bfn_tupL, bfn_tupT, bfn_lenL, bfn_lenT, bfn_listL, bfn_listT, bfn_intB, bfn_intI, SV.d.injEq, PyData.str.injEq, PyData.int.injEq, exm0, exm1, exists_and_right, mg0, mg1, mg2, ms0, ms1, ms2, noxK, flP_ifs]
    refine OutP.compF (f := knD) (as := topL t') (fun k => k.x == x) knD (fun k hk => ⟨?_, fun _ => ?_⟩) ?_
    · have e1 : ixD (knD k) (.int 0) = some (nmD k.x) := rfl
      simp only [tstF, ↓flP_retS, ↓outP_and, ↓outP_or, ↓outP_ite, ↓outP_cmp2, flP_of, flP_next, flP_ret, flP_bad, flP_nil, outP_ok, outP_bad, outP_of, outP_bind, outP_nox, ok_bind, ok_of, of_some, open_none, ex, ev, evs, evo, evT, evI, dat, datX, datP, datAll, dOf, seqI, lockM, openM, boxK, freshE, retOk, asgT_nm, asgT_tup, asgT_lst, asgTs_nil, asgTs_cons, List.map_cons, List.map_nil, List.cons_append, List.nil_append, List.getElem?_cons_zero, List.getElem?_cons_succ, List.length_cons, List.length_nil, List.replicate, Option.bind_some, Option.map_some, Option.isSome_some, List.set_cons_zero, List.set_cons_succ, Nat.zero_add, Nat.reduceAdd, Nat.reduceSub, Nat.reduceLT, Nat.reduceLeDiff, Nat.reduceEqDiff, Int.reduceNeg, Int.reduceLT, Int.reduceLE, Int.reduceAdd, Int.reduceSub, decide_true, decide_false, Bool.and_self, Bool.and_true, Bool.true_and, Bool.and_false, Bool.false_and, Bool.or_true, Bool.true_or, Bool.or_false, Bool.false_or, Bool.not_true, Bool.not_false, ↓reduceIte, Bool.false_eq_true, truD, bop_addI, bop_subI, bop_mulI, bop_modI, bop_fdivI, bop_pow18, bop_addT, bop_addL, cop_eq, cop_ne, cop_ltI, cop_leI, cop_gtI, cop_geI, eqD_ii, eqD_ss, eqD_bb, fits_lit, recvOk, recvOk.isL, isMut, isDic, killR, List.foldl, List.append_assoc, List.length_append, Nat.add_assoc, dk_len, st_get0, st_get1, st_get2, st_set0, st_set1, st_set2, Option.some.injEq, exists_eq_left', exists_eq_left, SV.d.injEq, PyData.bool.injEq, SV.ref.injEq, reduceCtorEq, false_and, and_false, exists_false, or_false, false_or, true_and, and_true, true_implies, false_implies, forall_const, beq_self_eq_true, Bool.true_eq_false, flP_set, flP_asg, flP_par, flP_sti, flP_expr, flP_for, flP_whl, flP_rets, bop_pow6, bop_pow9, bfn_max2, bfn_min2, bfn_tupL, bfn_tupT, bfn_lenL, bfn_lenT, bfn_listL, bfn_listT, bfn_intB, bfn_intI, SV.d.injEq, PyData.str.injEq, PyData.int.injEq, exm0, exm1, exists_and_right, mg0, mg1, mg2, ms0, ms1, ms2, noxK, flP_ifs, e1, eq_nmD]
    · simp only [eltF, ↓flP_retS, ↓outP_and, ↓outP_or, ↓outP_ite, ↓outP_cmp2, flP_of, flP_next, flP_ret, flP_bad, flP_nil, outP_ok, outP_bad, outP_of, outP_bind, outP_nox, ok_bind, ok_of, of_some, open_none, ex, ev, evs, evo, evT, evI, dat, datX, datP, datAll, dOf, seqI, lockM, openM, boxK, freshE, retOk, asgT_nm, asgT_tup, asgT_lst, asgTs_nil, asgTs_cons, List.map_cons, List.map_nil, List.cons_append, List.nil_append, List.getElem?_cons_zero, List.getElem?_cons_succ, List.length_cons, List.length_nil, List.replicate, Option.bind_some, Option.map_some, Option.isSome_some, List.set_cons_zero, List.set_cons_succ, Nat.zero_add, Nat.reduceAdd, Nat.reduceSub, Nat.reduceLT, Nat.reduceLeDiff, Nat.reduceEqDiff, Int.reduceNeg, Int.reduceLT, Int.reduceLE, Int.reduceAdd, Int.reduceSub, decide_true, decide_false, Bool.and_self, Bool.and_true, Bool.true_and, Bool.and_false, Bool.false_and, Bool.or_true, Bool.true_or, Bool.or_false, Bool.false_or, Bool.not_true, Bool.not_false, ↓reduceIte, Bool.false_eq_true, truD, bop_addI, bop_subI, bop_mulI, bop_modI, bop_fdivI, bop_pow18, bop_addT, bop_addL, cop_eq, cop_ne, cop_ltI, cop_leI, cop_gtI, cop_geI, eqD_ii, eqD_ss, eqD_bb, fits_lit, recvOk, recvOk.isL, isMut, isDic, killR, List.foldl, List.append_assoc, List.length_append, Nat.add_assoc, dk_len, st_get0, st_get1, st_get2, st_set0, st_set1, st_set2, Option.some.injEq, exists_eq_left', exists_eq_left, SV.d.injEq, PyData.bool.injEq, SV.ref.injEq, reduceCtorEq, false_and, and_false, exists_false, or_false, false_or, true_and, and_true, true_implies, false_implies, forall_const, beq_self_eq_true, Bool.true_eq_false, flP_set, flP_asg, flP_par, flP_sti, flP_expr, flP_for, flP_whl, flP_rets, bop_pow6, bop_pow9, bfn_max2, bfn_min2, bfn_tupL, bfn_tupT, bfn_lenL, bfn_lenT, bfn_listL, bfn_listT, bfn_intB, bfn_intI, SV.d.injEq, PyData.str.injEq, PyData.int.injEq, exm0, exm1, exists_and_right, mg0, mg1, mg2, ms0, ms1, ms2, noxK, flP_ifs]
    have hfin : ∀ k ∈ (topL t').filter (fun k => k.x == x), Fine 60 (knD k) := fun k hk => by
      have hm : knD k ∈ trL t' := by rw [trL_top]; exact List.mem_map.mpr ⟨k, (List.mem_filter.mp hk).1, rfl⟩
      exact (fine_tr hn' _ hm).mono (by omega)
    have hlf : ((topL t').filter fun k => k.x == x).length ≤ 100000 := by
      have h1 := List.length_filter_le (fun k : Knt => k.x == x) (topL t')
      have h2 : ∀ {t : Tr}, (topL t).length ≤ (rws t).length := by
        intro t
        induction t with
        | nil => exact Nat.le_refl _
        | cons y o a b r _ ih => simp only [topL, rws, List.length_cons, List.length_append]; omega
      have := h2 (t := t')
      omega
    have hf : fitsN (((topL t').filter fun k => k.x == x).map knD).length = true := fits_lit (by rw [List.length_map]; omega)
    have en := eqD_nil (n := 61) (fine_list (n := 60) (xs := ((topL t').filter fun k => k.x == x).map knD) fun y hy => by
      obtain ⟨k, hk, rfl⟩ := List.mem_map.mp hy
      exact hfin k hk) (by decide)
    have hh : (topL t').find? (fun k => k.x == x) = ((topL t').filter fun k => k.x == x).head? := List.head?_filter.symm
    have hmem : ∀ k ∈ (topL t').filter (fun k => k.x == x), k ∈ topL t' := fun k hk => (List.mem_filter.mp hk).1
    have hat : atT t' (x :: post) f = match (topL t').find? (fun k => k.x == x) with | none => (0, 0) | some k => atT k.b post (k.o, k.a) := rfl
    rw [hat, hh] at ha
    simp only [↓flP_retS, ↓outP_and, ↓outP_or, ↓outP_ite, ↓outP_cmp2, flP_of, flP_next, flP_ret, flP_bad, flP_nil, outP_ok, outP_bad, outP_of, outP_bind, outP_nox, ok_bind, ok_of, of_some, open_none, ex, ev, evs, evo, evT, evI, dat, datX, datP, datAll, dOf, seqI, lockM, openM, boxK, freshE, retOk, asgT_nm, asgT_tup, asgT_lst, asgTs_nil, asgTs_cons, List.map_cons, List.map_nil, List.cons_append, List.nil_append, List.getElem?_cons_zero, List.getElem?_cons_succ, List.length_cons, List.length_nil, List.replicate, Option.bind_some, Option.map_some, Option.isSome_some, List.set_cons_zero, List.set_cons_succ, Nat.zero_add, Nat.reduceAdd, Nat.reduceSub, Nat.reduceLT, Nat.reduceLeDiff, Nat.reduceEqDiff, Int.reduceNeg, Int.reduceLT, Int.reduceLE, Int.reduceAdd, Int.reduceSub, decide_true, decide_false, Bool.and_self, Bool.and_true, Bool.true_and, Bool.and_false, Bool.false_and, Bool.or_true, Bool.true_or, Bool.or_false, Bool.false_or, Bool.not_true, Bool.not_false, ↓reduceIte, Bool.false_eq_true, truD, bop_addI, bop_subI, bop_mulI, bop_modI, bop_fdivI, bop_pow18, bop_addT, bop_addL, cop_eq, cop_ne, cop_ltI, cop_leI, cop_gtI, cop_geI, eqD_ii, eqD_ss, eqD_bb, fits_lit, recvOk, recvOk.isL, isMut, isDic, killR, List.foldl, List.append_assoc, List.length_append, Nat.add_assoc, dk_len, st_get0, st_get1, st_get2, st_set0, st_set1, st_set2, Option.some.injEq, exists_eq_left', exists_eq_left, SV.d.injEq, PyData.bool.injEq, SV.ref.injEq, reduceCtorEq, false_and, and_false, exists_false, or_false, false_or, true_and, and_true, true_implies, false_implies, forall_const, beq_self_eq_true, Bool.true_eq_false, flP_set, flP_asg, flP_par, flP_sti, flP_expr, flP_for, flP_whl, flP_rets, bop_pow6, bop_pow9, bfn_max2, bfn_min2, bfn_tupL, bfn_tupT, bfn_lenL, bfn_lenT, bfn_listL, bfn_listT, bfn_intB, bfn_intI, SV.d.injEq, PyData.str.injEq, PyData.int.injEq, exm0, exm1, exists_and_right, mg0, mg1, mg2, ms0, ms1, ms2, noxK, flP_ifs, hf, en]
    revert ha hmem
    generalize ((topL t').filter fun k => k.x == x) = L
    intro ha hmem
    cases L with
    | nil =>
      have ha : atT t w (0, 0) = (0, 0) := ha
      simp only [↓flP_retS, ↓outP_and, ↓outP_or, ↓outP_ite, ↓outP_cmp2, flP_of, flP_next, flP_ret, flP_bad, flP_nil, outP_ok, outP_bad, outP_of, outP_bind, outP_nox, ok_bind, ok_of, of_some, open_none, ex, ev, evs, evo, evT, evI, dat, datX, datP, datAll, dOf, seqI, lockM, openM, boxK, freshE, retOk, asgT_nm, asgT_tup, asgT_lst, asgTs_nil, asgTs_cons, List.map_cons, List.map_nil, List.cons_append, List.nil_append, List.getElem?_cons_zero, List.getElem?_cons_succ, List.length_cons, List.length_nil, List.replicate, Option.bind_some, Option.map_some, Option.isSome_some, List.set_cons_zero, List.set_cons_succ, Nat.zero_add, Nat.reduceAdd, Nat.reduceSub, Nat.reduceLT, Nat.reduceLeDiff, Nat.reduceEqDiff, Int.reduceNeg, Int.reduceLT, Int.reduceLE, Int.reduceAdd, Int.reduceSub, decide_true, decide_false, Bool.and_self, Bool.and_true, Bool.true_and, Bool.and_false, Bool.false_and, Bool.or_true, Bool.true_or, Bool.or_false, Bool.false_or, Bool.not_true, Bool.not_false, ↓reduceIte, Bool.false_eq_true, truD, bop_addI, bop_subI, bop_mulI, bop_modI, bop_fdivI, bop_pow18, bop_addT, bop_addL, cop_eq, cop_ne, cop_ltI, cop_leI, cop_gtI, cop_geI, eqD_ii, eqD_ss, eqD_bb, fits_lit, recvOk, recvOk.isL, isMut, isDic, killR, List.foldl, List.append_assoc, List.length_append, Nat.add_assoc, dk_len, st_get0, st_get1, st_get2, st_set0, st_set1, st_set2, Option.some.injEq, exists_eq_left', exists_eq_left, SV.d.injEq, PyData.bool.injEq, SV.ref.injEq, reduceCtorEq, false_and, and_false, exists_false, or_false, false_or, true_and, and_true, true_implies, false_implies, forall_const, beq_self_eq_true, Bool.true_eq_false, flP_set, flP_asg, flP_par, flP_sti, flP_expr, flP_for, flP_whl, flP_rets, bop_pow6, bop_pow9, bfn_max2, bfn_min2, bfn_tupL, bfn_tupT, bfn_lenL, bfn_lenT, bfn_listL, bfn_listT, bfn_intB, bfn_intI, SV.d.injEq, PyData.str.injEq, PyData.int.injEq, exm0, exm1, exists_and_right, mg0, mg1, mg2, ms0, ms1, ms2, noxK, flP_ifs, List.isEmpty_nil, ha]
      rfl
    | cons k L =>
      have ha : atT t w (0, 0) = atT k.b post (k.o, k.a) := ha
      have e0 : ixD (.list (knD k :: L.map knD)) (.int 0) = some (knD k) := by
        show L2.atI (knD k :: L.map knD) 0 = _
        unfold L2.atI L2.ixN
        rw [if_pos (Int.le_refl _), if_pos (by rw [List.length_cons]; omega)]
        rfl
      have e3 : ixD (knD k) (.int 3) = some (trD k.b) := rfl
      have es : slD (knD k) (some 1) (some 3) = some (twD (k.o, k.a)) := rfl
      have hk := hmem k List.mem_cons_self
      simp only [↓flP_retS, ↓outP_and, ↓outP_or, ↓outP_ite, ↓outP_cmp2, flP_of, flP_next, flP_ret, flP_bad, flP_nil, outP_ok, outP_bad, outP_of, outP_bind, outP_nox, ok_bind, ok_of, of_some, open_none, ex, ev, evs, evo, evT, evI, dat, datX, datP, datAll, dOf, seqI, lockM, openM, boxK, freshE, retOk, asgT_nm, asgT_tup, asgT_lst, asgTs_nil, asgTs_cons, List.map_cons, List.map_nil, List.cons_append, List.nil_append, List.getElem?_cons_zero, List.getElem?_cons_succ, List.length_cons, List.length_nil, List.replicate, Option.bind_some, Option.map_some, Option.isSome_some, List.set_cons_zero, List.set_cons_succ, Nat.zero_add, Nat.reduceAdd, Nat.reduceSub, Nat.reduceLT, Nat.reduceLeDiff, Nat.reduceEqDiff, Int.reduceNeg, Int.reduceLT, Int.reduceLE, Int.reduceAdd, Int.reduceSub, decide_true, decide_false, Bool.and_self, Bool.and_true, Bool.true_and, Bool.and_false, Bool.false_and, Bool.or_true, Bool.true_or, Bool.or_false, Bool.false_or, Bool.not_true, Bool.not_false, ↓reduceIte, Bool.false_eq_true, truD, bop_addI, bop_subI, bop_mulI, bop_modI, bop_fdivI, bop_pow18, bop_addT, bop_addL, cop_eq, cop_ne, cop_ltI, cop_leI, cop_gtI, cop_geI, eqD_ii, eqD_ss, eqD_bb, fits_lit, recvOk, recvOk.isL, isMut, isDic, killR, List.foldl, List.append_assoc, List.length_append, Nat.add_assoc, dk_len, st_get0, st_get1, st_get2, st_set0, st_set1, st_set2, Option.some.injEq, exists_eq_left', exists_eq_left, SV.d.injEq, PyData.bool.injEq, SV.ref.injEq, reduceCtorEq, false_and, and_false, exists_false, or_false, false_or, true_and, and_true, true_implies, false_implies, forall_const, beq_self_eq_true, Bool.true_eq_false, flP_set, flP_asg, flP_par, flP_sti, flP_expr, flP_for, flP_whl, flP_rets, bop_pow6, bop_pow9, bfn_max2, bfn_min2, bfn_tupL, bfn_tupT, bfn_lenL, bfn_lenT, bfn_listL, bfn_listT, bfn_intB, bfn_intI, SV.d.injEq, PyData.str.injEq, PyData.int.injEq, exm0, exm1, exists_and_right, mg0, mg1, mg2, ms0, ms1, ms2, noxK, flP_ifs, List.isEmpty_cons, e0, e3, es]
      exact ⟨k.b, (k.o, k.a), rfl, (nm_top hn' hk).2, by have := dep_top hk; omega, by have := rws_top hk; omega, fun post' e' => by
        rw [e] at e'
        have e2 := List.append_cancel_left (as := pr) (bs := x :: post) (cs := x :: post') (by first | (rw [e']; done) | (rw [e']; simp))
        cases e2
        exact ha⟩
  · rintro r m' ⟨t', f, rfl, rfl, hn', hd', hl', ha⟩
    have ha := ha [] (List.append_nil _).symm
    have ha : atT t w (0, 0) = f := by rw [ha]; cases t' <;> rfl
    rw [ha]
    simp only [↓flP_retS, ↓outP_and, ↓outP_or, ↓outP_ite, ↓outP_cmp2, flP_of, flP_next, flP_ret, flP_bad, flP_nil, outP_ok, outP_bad, outP_of, outP_bind, outP_nox, ok_bind, ok_of, of_some, open_none, ex, ev, evs, evo, evT, evI, dat, datX, datP, datAll, dOf, seqI, lockM, openM, boxK, freshE, retOk, asgT_nm, asgT_tup, asgT_lst, asgTs_nil, asgTs_cons, List.map_cons, List.map_nil, List.cons_append, List.nil_append, List.getElem?_cons_zero, List.getElem?_cons_succ, List.length_cons, List.length_nil, List.replicate, Option.bind_some, Option.map_some, Option.isSome_some, List.set_cons_zero, List.set_cons_succ, Nat.zero_add, Nat.reduceAdd, Nat.reduceSub, Nat.reduceLT, Nat.reduceLeDiff, Nat.reduceEqDiff, Int.reduceNeg, Int.reduceLT, Int.reduceLE, Int.reduceAdd, Int.reduceSub, decide_true, decide_false, Bool.and_self, Bool.and_true, Bool.true_and, Bool.and_false, Bool.false_and, Bool.or_true, Bool.true_or, Bool.or_false, Bool.false_or, Bool.not_true, Bool.not_false, ↓reduceIte, Bool.false_eq_true, truD, bop_addI, bop_subI, bop_mulI, bop_modI, bop_fdivI, bop_pow18, bop_addT, bop_addL, cop_eq, cop_ne, cop_ltI, cop_leI, cop_gtI, cop_geI, eqD_ii, eqD_ss, eqD_bb, fits_lit, recvOk, recvOk.isL, isMut, isDic, killR, List.foldl, List.append_assoc, List.length_append, Nat.add_assoc, dk_len, st_get0, st_get1, st_get2, st_set0, st_set1, st_set2, Option.some.injEq, exists_eq_left', exists_eq_left, SV.d.injEq, PyData.bool.injEq, SV.ref.injEq, reduceCtorEq, false_and, and_false, exists_false, or_false, false_or, true_and, and_true, true_implies, false_implies, forall_const, beq_self_eq_true, Bool.true_eq_false, flP_set, flP_asg, flP_par, flP_sti, flP_expr, flP_for, flP_whl, flP_rets, bop_pow6, bop_pow9, bfn_max2, bfn_min2, bfn_tupL, bfn_tupT, bfn_lenL, bfn_lenT, bfn_listL, bfn_listT, bfn_intB, bfn_intI, SV.d.injEq, PyData.str.injEq, PyData.int.injEq, exm0, exm1, exists_and_right, mg0, mg1, mg2, ms0, ms1, ms2, noxK, flP_ifs]
    rfl
end
end Pil

set_option Elab.async false
set_option linter.all false
set_option autoImplicit false
set_option maxRecDepth 100000
set_option maxHeartbeats 4000000
namespace Pil
open PySem PySem.Spec PyProof.Rows L2
section
variable {G : Nat → Option Fn} {n : Nat}
/-! ### bounds of a tree of samples -/
theorem dep_chain : ∀ {p : Pile} {c : Int}, depT (chainT p c) = p.length
  | [], _ => rfl
  | x :: p, c => by
    show max (depT (chainT p c) + 1) 0 = _
    rw [dep_chain, List.length_cons]; omega
theorem dep_ins : ∀ {t : Tr} {p : Pile} {c : Int}, depT (insT t p c) ≤ max (depT t) p.length
  | .nil, p, c => by
    show depT (chainT p c) ≤ _
    rw [dep_chain]; omega
  | .cons y o a b r, [], c => by simp only [insT]; omega
  | .cons y o a b r, x :: p, c => by
    simp only [insT]
    have h1 := dep_ins (t := b) (p := p) (c := c)
    have h2 := dep_ins (t := r) (p := x :: p) (c := c)
    have h3 := dep_chain (p := p) (c := c)
    split
    · simp only [depT, List.length_cons] at *; omega
    · split <;> (simp only [depT, List.length_cons] at *; omega)
theorem dep_treeF {N : Nat} : ∀ {S : List Smp} {t : Tr}, depT t ≤ N → (∀ s ∈ S, s.1.length ≤ N) → depT (treeF t S) ≤ N
  | [], _, h, _ => h
  | s :: S, t, h, hs => dep_treeF (S := S) (t := insT t s.1 s.2) (by
      have := dep_ins (t := t) (p := s.1) (c := s.2)
      have := hs s List.mem_cons_self
      omega) fun x hx => hs x (List.mem_cons_of_mem _ hx)
theorem dep_tree {N : Nat} {S : List Smp} (h : ∀ s ∈ S, s.1.length ≤ N) : depT (treeOf S) ≤ N := dep_treeF (t := .nil) (Nat.zero_le _) h
theorem nm_chain : ∀ {p : Pile} {c : Int}, (∀ x ∈ p, NameOk x) → NmT (chainT p c)
  | [], _, _ => trivial
  | x :: p, c, h => ⟨h x List.mem_cons_self, nm_chain fun y hy => h y (List.mem_cons_of_mem _ hy), trivial⟩
theorem nm_ins : ∀ {t : Tr} {p : Pile} {c : Int}, NmT t → (∀ x ∈ p, NameOk x) → NmT (insT t p c)
  | .nil, p, c, _, h => nm_chain h
  | .cons y o a b r, [], c, k, h => by simp only [insT]; exact k
  | .cons y o a b r, x :: p, c, k, h => by
    have hx := h x List.mem_cons_self
    have hp : ∀ y ∈ p, NameOk y := fun y hy => h y (List.mem_cons_of_mem _ hy)
    simp only [insT]
    split
    · exact ⟨hx, nm_chain hp, k⟩
    · split
      · exact ⟨k.1, nm_ins k.2.1 hp, k.2.2⟩
      · exact ⟨k.1, k.2.1, nm_ins k.2.2 h⟩
theorem nm_treeF : ∀ {S : List Smp} {t : Tr}, NmT t → (∀ s ∈ S, ∀ x ∈ s.1, NameOk x) → NmT (treeF t S)
  | [], _, h, _ => h
  | s :: S, t, h, hs => nm_treeF (S := S) (nm_ins h (hs s List.mem_cons_self)) fun x hx => hs x (List.mem_cons_of_mem _ hx)
theorem nm_tree {S : List Smp} (h : ∀ s ∈ S, ∀ x ∈ s.1, NameOk x) : NmT (treeOf S) := nm_treeF (t := .nil) trivial h
theorem len_rowsS {S : List Smp} (h : ∀ s ∈ S, s.1.length ≤ 100) : (rowsS S).length ≤ 100 * S.length := by
  unfold rowsS
  rw [List.length_map]
  exact Nat.le_trans len_gath (len_preS h)
theorem row_of {S : List Smp} {r : Row} (h : r ∈ rowsS S) : ∃ s ∈ S, hitT s.1 r.1 = true := by
  unfold rowsS at h
  obtain ⟨s, hs, rfl⟩ := List.mem_map.mp h
  have := key_gath hs
  rw [keys_preS] at this
  obtain ⟨t, ht, e⟩ := List.any_eq_true.mp this
  exact ⟨t, ht, e⟩
theorem hit_len {p q : Pile} (h : hitT p q = true) : 1 ≤ q.length ∧ q.length ≤ p.length := by
  unfold hitT at h
  simp only [Bool.and_eq_true, Bool.not_eq_true', List.isEmpty_eq_false_iff, List.isPrefixOf_iff_prefix] at h
  exact ⟨List.length_pos_iff.mpr h.1, h.2.length_le⟩
theorem plN_rows {k : Nat} {R : List Row} (h : ∀ r ∈ R, r.1.length ≤ 16777216) (hR : R.length ≤ 16777216) : PlN (k + 3) (.tuple (R.map rwD)) := by
  rw [PlN]
  refine .inr ⟨_, rfl, by rw [List.length_map]; exact hR, fun x hx => ?_⟩
  obtain ⟨s, hs, rfl⟩ := List.mem_map.mp hx
  rw [PlN]
  refine .inr ⟨_, rfl, by show 3 ≤ _; decide, fun y hy => ?_⟩
  simp only [List.mem_cons, List.not_mem_nil, or_false] at hy
  rcases hy with rfl | rfl | rfl
  · exact plN_pl (h s hs)
  · simp [PlN]
  · simp [PlN]
theorem plN_tw {k : Nat} {z : Int × Int} : PlN (k + 1) (twD z) := by
  rw [PlN]
  refine .inr ⟨_, rfl, by show 2 ≤ _; decide, fun y hy => ?_⟩
  simp only [List.mem_cons, List.not_mem_nil, or_false] at hy
  rcases hy with rfl | rfl <;> (cases k <;> simp [PlN])
theorem app_pl {L : List Pile} {w : Pile} (h : L.length ≤ 100000) : mmu .append (L.map plD) [plD w] = some ((L ++ [w]).map plD, .none) := by
  rw [app_mmu (by rw [List.length_map]; omega), List.map_append]; rfl
/-! ### the law -/
theorem eqD_tw {z : Int × Int} : eqD (twD z) (twD z) = some true := by
  have f : Fine 1 (twD z) := fine_tup fun y hy => by
    simp only [List.mem_cons, List.not_mem_nil, or_false] at hy
    rcases hy with rfl | rfl <;> exact fine_int
  have e : SeqAt.shaped (twD z) = true := f.shaped (by decide)
  show (if SeqAt.shaped (twD z) && SeqAt.shaped (twD z) then some (PyData.eqv (twD z) (twD z)) else none) = _
  rw [e]
  simp [twD, PyData.eqv, PyData.eqvAll]
theorem dictT_rows : ∀ {R : List Row}, dictT (R.map fun r => .tuple [plD r.1, twD r.2]) = some (R.map fun r => (plK r.1, SV.d (twD r.2)))
  | [] => rfl
  | r :: R => by
    show (asKs (r.1.map nmD)).bind (fun k => (dictT (R.map fun r => .tuple [plD r.1, twD r.2])).map ((k, SV.d (twD r.2)) :: ·)) = _
    rw [asKs_pl, dictT_rows]; rfl
theorem lk_rows {w : Pile} : ∀ {R : List Row}, lkG (R.map fun r => (plK r.1, SV.d (twD r.2))) (plK w) = (R.find? fun r => decide (r.1 = w)).map fun r => SV.d (twD r.2)
  | [] => rfl
  | r :: R => by
    have ih := lk_rows (w := w) (R := R)
    unfold lkG at ih ⊢
    rw [List.map_cons]
    by_cases h : r.1 = w
    · subst h
      rw [List.find?_cons_of_pos (by simp), List.find?_cons_of_pos (by simp)]; rfl
    · have h2 : plK r.1 ≠ plK w := fun z => h (plK_inj z)
      rw [List.find?_cons_of_neg (by simpa using h2), List.find?_cons_of_neg (by simpa using h)]
      exact ih
theorem find_look {t : Tr} {w : Pile} (h : SoT t) : ((rws t).find? fun r => decide (r.1 = w)).map (·.2) = lookT t w := by
  cases e : (rws t).find? fun r => decide (r.1 = w) with
  | none =>
    cases e2 : lookT t w with
    | none => rfl
    | some z =>
      have := List.find?_eq_none.mp e _ ((rws_look h).mpr e2)
      simp at this
  | some r =>
    have h1 := List.mem_of_find?_eq_some e
    have h2 : r.1 = w := by simpa using List.find?_some e
    obtain ⟨q, z⟩ := r
    have h2 : q = w := h2
    subst h2
    exact ((rws_look h).mp h1).symm
theorem lk_look {t : Tr} {w : Pile} (h : SoT t) : (lkG ((rws t).map fun r => (plK r.1, SV.d (twD r.2))) (plK w)).getD (.d (twD (0, 0))) = .d (twD (atT t w (0, 0))) := by
  rw [lk_rows]
  have e := find_look (w := w) h
  cases w with
  | nil =>
    rw [look_empty] at e
    cases q : (rws t).find? fun r => decide (r.1 = []) with
    | none => cases t <;> rfl
    | some r => rw [q] at e; cases e
  | cons x w =>
    rw [at_look (by simp), ← e]
    cases (rws t).find? fun r => decide (r.1 = x :: w) <;> rfl
theorem nd_rows {t : Tr} (h : SoT t) : (((rws t).map fun r => (plK r.1, SV.d (twD r.2))).map (·.1)).Nodup := by
  rw [List.map_map]
  refine List.pairwise_map.mpr ((rws_sorted h).imp fun {a b} hab e => ?_)
  have := plK_inj e
  rw [this] at hab
  exact List.lt_irrefl _ hab
theorem sg0 {k : Deck} {a : Ob} {c : Sto} : (k.st ++ (a :: c))[2]? = some a := st_get0 (k := k) (rest := []) (a := a) (c := c)
theorem ss0 {k : Deck} {a o : Ob} {c : Sto} : (k.st ++ (a :: c)).set 2 o = k.st ++ (o :: c) := st_set0 (k := k) (rest := []) (a := a) (c := c)
end
end Pil

set_option Elab.async false
set_option linter.all false
set_option autoImplicit false
set_option maxRecDepth 100000
set_option maxHeartbeats 4000000
namespace Pil
open PySem PySem.Spec PyProof.Rows L2
def F60 : Fn := { nm := "all_of", ps := ["tree"], ns := ["tree", "name", "own", "every", "boughs"], keep := false, body := (.cons (.ret (.blt .sum (.cons (.comp [1, 2, 3, 4] (.tp (.cons (.nm 1) (.cons (.nm 2) (.cons (.nm 3) (.cons (.nm 4) .nil))))) (.seq (.var 0)) .none (.var 3)) .nil)))
  .nil) }
def F77 : Fn := { nm := "parted_by_name", ps := ["samples", "deep"], ns := ["samples", "deep", "found", "pile", "count"], keep := true, body := (.cons (.set 2 (.dnw false))
  (.cons (.for_ (.tp (.cons (.nm 3) (.cons (.nm 4) .nil))) [0, 3, 4] (.seq (.var 0))
 (.cons (.expr (.mth .append (.dsd (.var 2) (.idx (.var 3) (.var 1)) (.box (.lst .nil))) (.cons (.tup (.cons (.var 3) (.cons (.var 4) .nil))) .nil)))
  .nil))
  (.cons (.ret (.var 2))
  .nil))) }
def F78 : Fn := { nm := "tree_below", ps := ["samples", "deep"], ns := ["samples", "deep", "found", "name", "some", "own", "boughs", "pile", "count", "one"], keep := false, body := (.cons (.set 2 (.box (.lst .nil)))
  (.cons (.for_ (.tp (.cons (.nm 3) (.cons (.nm 4) .nil))) [0, 3, 4, 5, 6, 7, 8, 9] (.itm (.call 77 (.cons (.var 0) (.cons (.var 1) .nil))))
 (.cons (.set 5 (.blt .sum (.cons (.comp [7, 8] (.tp (.cons (.nm 7) (.cons (.nm 8) .nil))) (.seq (.var 4)) (.some (.cmp .eq (.blt .len (.cons (.var 7) .nil)) (.bin .add (.var 1) (.cst (.int 1))))) (.var 8)) .nil)))
  (.cons (.set 6 (.call 78 (.cons (.comp [9] (.nm 9) (.seq (.var 4)) (.some (.cmp .gt (.blt .len (.cons (.idx (.var 9) (.cst (.int 0))) .nil)) (.bin .add (.var 1) (.cst (.int 1))))) (.var 9)) (.cons (.bin .add (.var 1) (.cst (.int 1))) .nil))))
  (.cons (.expr (.mth .append (.var 2) (.cons (.tup (.cons (.var 3) (.cons (.var 5) (.cons (.bin .add (.var 5) (.call 60 (.cons (.var 6) .nil))) (.cons (.var 6) .nil))))) .nil)))
  .nil))))
  (.cons (.ret (.blt .tuple (.cons (.var 2) .nil)))
  .nil))) }
def F79 : Fn := { nm := "tree_of", ps := ["samples"], ns := ["samples"], keep := false, body := (.cons (.ret (.call 78 (.cons (.call 23 (.cons (.var 0) .nil)) (.cons (.cst (.int 0)) .nil))))
  .nil) }
def F23 : Fn := { nm := "gathered", ps := ["samples"], ns := ["samples", "counts", "pile", "count"], keep := false, body := (.cons (.set 1 (.dnw true))
  (.cons (.for_ (.tp (.cons (.nm 2) (.cons (.nm 3) .nil))) [0, 3] (.seq (.var 0))
 (.cons (.sti (.var 1) (.var 2) (.bin .add (.dget (.var 1) (.var 2) (.cst (.int 0))) (.var 3)))
  .nil))
  (.cons (.ret (.blt .tuple (.cons (.comp [2] (.nm 2) (.seq (.skd (.var 1))) .none (.tup (.cons (.var 2) (.cons (.idx (.var 1) (.var 2)) .nil)))) .nil)))
  .nil))) }
section
variable {G : Nat → Option Fn} {n : Nat}
/-! ### the tree below: plain -/
def tailS (x : List Nat) (U : List Smp) : List Smp := U.filterMap fun s => match s.1 with
  | y :: z :: q => if y = x then some (z :: q, s.2) else none
  | _ => none
theorem tail_ne {x : List Nat} {U : List Smp} : ∀ s ∈ tailS x U, s.1 ≠ [] := fun s hs => by
  unfold tailS at hs
  obtain ⟨t, _, e⟩ := List.mem_filterMap.mp hs
  split at e
  · split at e
    · cases e; simp
    · cases e
  · cases e
theorem tail_cons {x : List Nat} {s : Smp} {U : List Smp} : tailS x (s :: U) = (match s.1 with
  | y :: z :: q => if y = x then [(z :: q, s.2)] else []
  | _ => []) ++ tailS x U := by
  obtain ⟨p, c⟩ := s
  unfold tailS
  match p with
  | [] => rfl
  | [y] => rfl
  | y :: z :: q =>
    by_cases h : y = x
    · simp [h]
    · simp [h]
theorem hitS_tail {x z : List Nat} {q : Pile} : ∀ {U : List Smp}, hitS U (x :: z :: q) = hitS (tailS x U) (z :: q)
  | [] => rfl
  | s :: U => by
    rw [tail_cons]
    unfold hitS
    rw [List.any_append, List.any_cons]
    have ih := hitS_tail (x := x) (z := z) (q := q) (U := U)
    unfold hitS at ih
    rw [ih]
    congr 1
    obtain ⟨p, c⟩ := s
    match p with
    | [] => simp [hit_nil]
    | [y] => simp [hit_cons, hit_nil]
    | y :: w :: p =>
      by_cases h : y = x
      · subst h
        simp [hit_cons]
      · have : ¬ x = y := fun e => h e.symm
        simp [hit_cons, h, this]
theorem cnt_tail {x z : List Nat} {q : Pile} : ∀ {U : List Smp}, cnt U (x :: z :: q) = cnt (tailS x U) (z :: q)
  | [] => rfl
  | s :: U => by
    rw [tail_cons, cnt_append, ← cnt_tail]
    obtain ⟨p, c⟩ := s
    show (if p = _ then c else 0) + _ = _
    congr 1
    match p with
    | [] => simp [cnt]
    | [y] => simp [cnt]
    | y :: w :: p =>
      by_cases h : y = x
      · subst h
        simp [cnt]
      · simp [cnt, h]
theorem pre_tail {x z : List Nat} {q : Pile} : ∀ {U : List Smp}, pre U (x :: z :: q) = pre (tailS x U) (z :: q)
  | [] => rfl
  | s :: U => by
    have pa : ∀ {S T : List Smp} {q : Pile}, pre (S ++ T) q = pre S q + pre T q := by
      intro S
      induction S with
      | nil => intro T q; simp [pre]
      | cons a S ih => intro T q; simp only [List.cons_append, pre, ih]; omega
    rw [tail_cons, pa, ← pre_tail]
    obtain ⟨p, c⟩ := s
    show (if hitT p _ = true then c else 0) + _ = _
    congr 1
    match p with
    | [] => simp [pre, hit_nil]
    | [y] => simp [pre, hit_cons, hit_nil]
    | y :: w :: p =>
      by_cases h : y = x
      · subst h
        simp [pre, hit_cons]
      · have : ¬ x = y := fun e => h e.symm
        simp [pre, hit_cons, h, this]
theorem pre_one {x : List Nat} : ∀ {U : List Smp}, (∀ s ∈ U, s.1 ≠ []) → pre U [x] = cnt U [x] + sumS (tailS x U)
  | [], _ => rfl
  | s :: U, hU => by
    have ih := pre_one (x := x) (U := U) fun y hy => hU y (List.mem_cons_of_mem _ hy)
    have hs := hU s List.mem_cons_self
    rw [tail_cons]
    simp only [pre, cnt, ih]
    obtain ⟨p, c⟩ := s
    have sa : ∀ {S T : List Smp}, sumS (S ++ T) = sumS S + sumS T := by intro S T; simp [sumS]
    rw [sa]
    match p with
    | [] => exact absurd rfl hs
    | [y] =>
      by_cases h : y = x
      · subst h; simp [hit_cons, sumS]; omega
      · have : ¬ x = y := fun e => h e.symm
        simp [hit_cons, sumS, h, this]
    | y :: w :: p =>
      by_cases h : y = x
      · subst h; simp [hit_cons, sumS]; omega
      · have : ¬ x = y := fun e => h e.symm
        simp [hit_cons, sumS, h, this]
def allT : Tr → Int
  | .nil => 0
  | .cons _ _ a _ r => a + allT r
theorem all_chain {p : Pile} {c : Int} (h : p ≠ []) : allT (chainT p c) = c := by
  cases p with
  | nil => exact absurd rfl h
  | cons x p => show c + 0 = c; omega
theorem all_ins {p : Pile} {c : Int} (h : p ≠ []) : ∀ {t : Tr}, allT (insT t p c) = allT t + c
  | .nil => by
    show allT (chainT p c) = 0 + c
    rw [all_chain h]; omega
  | .cons y o a b r => by
    cases p with
    | nil => exact absurd rfl h
    | cons x p =>
      have ih := all_ins (c := c) h (t := r)
      simp only [insT]
      split
      · simp only [allT]; omega
      · split
        · simp only [allT]; omega
        · simp only [allT, ih]; omega
theorem all_treeF : ∀ {S : List Smp} {t : Tr}, (∀ s ∈ S, s.1 ≠ []) → allT (treeF t S) = allT t + sumS S
  | [], t, _ => by show allT t = allT t + 0; omega
  | s :: S, t, h => by
    show allT (treeF (insT t s.1 s.2) S) = _
    rw [all_treeF fun x hx => h x (List.mem_cons_of_mem _ hx), all_ins (h s List.mem_cons_self)]
    simp [sumS]; omega
theorem all_tree {S : List Smp} (h : ∀ s ∈ S, s.1 ≠ []) : allT (treeOf S) = sumS S := by
  unfold treeOf
  rw [all_treeF h]
  simp [allT]
theorem all_top : ∀ {t : Tr}, allT t = ((topL t).map (·.a)).sum
  | .nil => rfl
  | .cons x o a b r => by simp only [allT, topL, List.map_cons, List.sum_cons, all_top (t := r)]
def knotU (U : List Smp) (x : List Nat) : Knt := ⟨x, cnt U [x], cnt U [x] + sumS (tailS x U), treeOf (tailS x U)⟩
theorem build_so {U : List Smp} : ∀ {ns : List (List Nat)}, ns.Pairwise (· < ·) → SoT (ofL (ns.map (knotU U))) ∧ ∀ y, (∀ x ∈ ns, y < x) → lowT y (ofL (ns.map (knotU U)))
  | [], _ => ⟨trivial, fun _ _ => trivial⟩
  | x :: ns, h => by
    obtain ⟨h1, h2⟩ := List.pairwise_cons.mp h
    obtain ⟨i1, i2⟩ := build_so (U := U) h2
    exact ⟨⟨i2 x h1, so_tree, i1⟩, fun y hy => ⟨hy x List.mem_cons_self, i2 y fun z hz => hy z (List.mem_cons_of_mem _ hz)⟩⟩
theorem build_look {U : List Smp} (hU : ∀ s ∈ U, s.1 ≠ []) : ∀ {ns : List (List Nat)} {x : List Nat} {q : Pile}, lookT (ofL (ns.map (knotU U))) (x :: q) = if x ∈ ns then (if q = [] then some (cnt U [x], pre U [x]) else lookT (treeOf (tailS x U)) q) else none
  | [], x, q => by simp [ofL, lookT]
  | y :: ns, x, q => by
    show lookT (.cons y (cnt U [y]) (cnt U [y] + sumS (tailS y U)) (treeOf (tailS y U)) (ofL (ns.map (knotU U)))) (x :: q) = _
    by_cases h : x = y
    · subst h
      cases q with
      | nil => rw [look_one, pre_one hU]; simp
      | cons z q => rw [look_in (by simp)]; simp
    · rw [look_ne h, build_look hU]
      simp [h]
theorem build_tree {U : List Smp} {ns : List (List Nat)} (hU : ∀ s ∈ U, s.1 ≠ []) (h1 : ns.Pairwise (· < ·)) (h2 : ∀ x, x ∈ ns ↔ hitS U [x] = true) : ofL (ns.map (knotU U)) = treeOf U := by
  refine tr_ext (build_so h1).1 so_tree fun q => ?_
  cases q with
  | nil => rw [look_empty, look_empty]
  | cons x q =>
    rw [build_look hU, look_tree hU]
    cases q with
    | nil =>
      by_cases h : hitS U [x] = true
      · rw [if_pos ((h2 x).mpr h), if_pos h]; simp
      · rw [if_neg (fun z => h ((h2 x).mp z)), if_neg h]
    | cons z q =>
      rw [look_tree tail_ne, ← hitS_tail, ← cnt_tail, ← pre_tail]
      by_cases h : hitS U (x :: z :: q) = true
      · have hx : hitS U [x] = true := by
          obtain ⟨s, hs, e⟩ := List.any_eq_true.mp h
          refine List.any_eq_true.mpr ⟨s, hs, ?_⟩
          cases e1 : s.1 with
          | nil => exact absurd e1 (hU s hs)
          | cons y p => rw [e1, hit_cons] at e; rw [hit_cons]; simp at e ⊢; exact e.1
        rw [if_pos ((h2 x).mpr hx), if_pos h]; simp
      · rw [if_neg h]
        split <;> simp
/-! names in the order they come -/
def nubF (ns : List (List Nat)) (xs : List (List Nat)) : List (List Nat) := xs.foldl (fun ns x => if x ∈ ns then ns else ns ++ [x]) ns
def nub (xs : List (List Nat)) : List (List Nat) := nubF [] xs
theorem mem_nubF {x : List Nat} : ∀ {xs ns : List (List Nat)}, x ∈ nubF ns xs ↔ x ∈ ns ∨ x ∈ xs
  | [], ns => by simp [nubF]
  | y :: xs, ns => by
    show x ∈ nubF (if y ∈ ns then ns else ns ++ [y]) xs ↔ _
    rw [mem_nubF]
    split
    · rename_i h
      constructor
      · rintro (a | a)
        · exact .inl a
        · exact .inr (List.mem_cons_of_mem _ a)
      · rintro (a | a)
        · exact .inl a
        · rcases List.mem_cons.mp a with rfl | a
          · exact .inl h
          · exact .inr a
    · simp only [List.mem_append, List.mem_cons, List.not_mem_nil, or_false]
      grind
theorem mem_nub {x : List Nat} {xs : List (List Nat)} : x ∈ nub xs ↔ x ∈ xs := by unfold nub; rw [mem_nubF]; simp
theorem nub_snoc {x : List Nat} {xs : List (List Nat)} : nub (xs ++ [x]) = if x ∈ nub xs then nub xs else nub xs ++ [x] := by unfold nub nubF; rw [List.foldl_append]; rfl
theorem nub_sorted : ∀ {xs ns : List (List Nat)}, ns.Pairwise (· < ·) → xs.Pairwise (· ≤ ·) → (∀ a ∈ ns, ∀ b ∈ xs, a ≤ b) → (nubF ns xs).Pairwise (· < ·)
  | [], ns, h, _, _ => h
  | y :: xs, ns, h, hx, hn => by
    obtain ⟨h1, h2⟩ := List.pairwise_cons.mp hx
    show (nubF (if y ∈ ns then ns else ns ++ [y]) xs).Pairwise (· < ·)
    split
    · exact nub_sorted h h2 fun a ha b hb => hn a ha b (List.mem_cons_of_mem _ hb)
    · rename_i hy
      refine nub_sorted (List.pairwise_append.mpr ⟨h, List.pairwise_singleton _ _, fun a ha b hb => ?_⟩) h2 fun a ha b hb => ?_
      · rw [List.mem_singleton] at hb
        subst hb
        exact Std.lt_of_le_of_ne (hn a ha b List.mem_cons_self) fun e => hy (e ▸ ha)
      · rcases List.mem_append.mp ha with ha | ha
        · exact hn a ha b (List.mem_cons_of_mem _ hb)
        · rw [List.mem_singleton] at ha
          subst ha
          exact h1 b hb
/-! by a place of the piles -/
def hdS (d : Nat) (s : Smp) : List Nat := s.1.getD d []
def dropS (d : Nat) (S : List Smp) : List Smp := S.map fun s => (s.1.drop d, s.2)
def grps (d : Nat) (S : List Smp) : List (List Nat × List Smp) := (nub (S.map (hdS d))).map fun x => (x, S.filter fun s => hdS d s == x)
theorem drop_hd {d : Nat} {s : Smp} (h : d < s.1.length) : s.1.drop d = hdS d s :: s.1.drop (d + 1) := by
  unfold hdS
  rw [List.drop_eq_getElem_cons h, List.getD_eq_getElem?_getD, List.getElem?_eq_getElem h]; rfl
theorem hit_drop {d : Nat} {x : List Nat} {S : List Smp} (h : ∀ s ∈ S, d < s.1.length) : hitS (dropS d S) [x] = true ↔ x ∈ S.map (hdS d) := by
  unfold hitS dropS
  rw [List.any_map, List.any_eq_true, List.mem_map]
  constructor
  · rintro ⟨s, hs, e⟩
    refine ⟨s, hs, ?_⟩
    have e : hitT (s.1.drop d) [x] = true := e
    rw [drop_hd (h s hs), hit_cons] at e
    simp at e
    exact e.symm
  · rintro ⟨s, hs, rfl⟩
    refine ⟨s, hs, ?_⟩
    show hitT (s.1.drop d) [hdS d s] = true
    rw [drop_hd (h s hs), hit_cons]
    simp
theorem own_drop {d : Nat} {x : List Nat} : ∀ {S : List Smp}, (∀ s ∈ S, d < s.1.length) → (((S.filter fun s => hdS d s == x).filter fun s => ((s.1.length : Nat) : Int) == (d : Int) + 1).map (·.2)).sum = cnt (dropS d S) [x]
  | [], _ => rfl
  | s :: S, h => by
    have ih := own_drop (d := d) (x := x) (S := S) fun y hy => h y (List.mem_cons_of_mem _ hy)
    have hs := h s List.mem_cons_self
    show _ = (if s.1.drop d = [x] then s.2 else 0) + cnt (dropS d S) [x]
    rw [← ih, drop_hd hs]
    by_cases h1 : hdS d s = x
    · rw [List.filter_cons_of_pos (by simpa using h1)]
      by_cases h2 : s.1.length = d + 1
      · rw [List.filter_cons_of_pos (by simp; omega)]
        have : s.1.drop (d + 1) = [] := List.drop_of_length_le (by omega)
        simp [h1, this]
      · rw [List.filter_cons_of_neg (by simp; omega)]
        have : s.1.drop (d + 1) ≠ [] := fun e => by
          have := congrArg List.length e
          rw [List.length_drop, List.length_nil] at this
          omega
        simp [h1, this]
    · rw [List.filter_cons_of_neg (by simpa using h1)]
      simp [h1]
theorem rest_drop {d : Nat} {x : List Nat} : ∀ {S : List Smp}, (∀ s ∈ S, d < s.1.length) → dropS (d + 1) ((S.filter fun s => hdS d s == x).filter fun s => decide ((d : Int) + 1 < ((s.1.length : Nat) : Int))) = tailS x (dropS d S)
  | [], _ => rfl
  | s :: S, h => by
    have ih := rest_drop (d := d) (x := x) (S := S) fun y hy => h y (List.mem_cons_of_mem _ hy)
    have hs := h s List.mem_cons_self
    show _ = tailS x ((s.1.drop d, s.2) :: dropS d S)
    rw [tail_cons, drop_hd hs, ← ih]
    by_cases h1 : hdS d s = x
    · rw [List.filter_cons_of_pos (by simpa using h1)]
      by_cases h2 : s.1.length = d + 1
      · rw [List.filter_cons_of_neg (by simp; omega)]
        have : s.1.drop (d + 1) = [] := List.drop_of_length_le (by omega)
        simp [this]
      · rw [List.filter_cons_of_pos (by simp; omega)]
        have hl : d + 1 < s.1.length := by omega
        rw [drop_hd (d := d + 1) hl]
        show (s.1.drop (d + 1), s.2) :: dropS (d + 1) _ = _
        rw [drop_hd (d := d + 1) hl]
        simp [h1]
    · rw [List.filter_cons_of_neg (by simpa using h1)]
      cases s.1.drop (d + 1) <;> simp [h1]
def SrtD (d : Nat) (S : List Smp) : Prop := (S.map fun s => s.1.drop d).Pairwise (· ≤ ·)
theorem srt_hd {d : Nat} {S : List Smp} (h : ∀ s ∈ S, d < s.1.length) (hs : SrtD d S) : (S.map (hdS d)).Pairwise (· ≤ ·) := by
  unfold SrtD at hs
  rw [List.pairwise_map] at hs ⊢
  refine List.Pairwise.imp_of_mem (fun {a b} ha hb hab => ?_) hs
  rw [drop_hd (h a ha), drop_hd (h b hb), List.cons_le_cons_iff] at hab
  rcases hab with h | ⟨h, _⟩
  · exact List.le_of_lt h
  · rw [h]; exact List.le_refl _
theorem srt_rest {d : Nat} {x : List Nat} {S : List Smp} (h : ∀ s ∈ S, d < s.1.length) (hs : SrtD d S) : SrtD (d + 1) ((S.filter fun s => hdS d s == x).filter fun s => decide ((d : Int) + 1 < ((s.1.length : Nat) : Int))) := by
  unfold SrtD at hs ⊢
  rw [List.pairwise_map] at hs ⊢
  have h2 := (hs.sublist (List.filter_sublist (p := fun s => hdS d s == x))).sublist (List.filter_sublist (p := fun s => decide ((d : Int) + 1 < ((s.1.length : Nat) : Int))))
  refine List.Pairwise.imp_of_mem (fun {a b} ha hb hab => ?_) h2
  obtain ⟨ha1, ha2⟩ := List.mem_filter.mp (List.mem_filter.mp ha).1
  obtain ⟨hb1, hb2⟩ := List.mem_filter.mp (List.mem_filter.mp hb).1
  rw [drop_hd (h a ha1), drop_hd (h b hb1)] at hab
  have e : hdS d a = hdS d b := by simp at ha2 hb2; rw [ha2, hb2]
  rw [e, List.cons_le_cons_iff] at hab
  rcases hab with h | ⟨_, h⟩
  · exact absurd h (List.lt_irrefl _)
  · exact h
theorem tree_grps {d : Nat} {S : List Smp} (h : ∀ s ∈ S, d < s.1.length) (hs : SrtD d S) : ofL ((nub (S.map (hdS d))).map (knotU (dropS d S))) = treeOf (dropS d S) := by
  refine build_tree (fun s hs => ?_) (nub_sorted List.Pairwise.nil (srt_hd h hs) fun a ha => by cases ha) fun x => ?_
  · obtain ⟨t, ht, rfl⟩ := List.mem_map.mp hs
    show t.1.drop d ≠ []
    rw [drop_hd (h t ht)]; simp
  · rw [mem_nub, hit_drop h]
theorem srt_gath {S : List Smp} : SrtD 0 (gath S) := by
  unfold SrtD
  rw [List.pairwise_map]
  exact gath_sorted.imp fun {a b} h => by simpa [leS] using h
theorem drop0 {S : List Smp} : dropS 0 S = S := by unfold dropS; simp
/-- the tree of what is gathered -/
theorem tree_gath {S : List Smp} (h : ∀ s ∈ S, s.1 ≠ []) (hp : PosS S) : treeOf (gath S) = treeOf S := by
  have h2 : ∀ s ∈ gath S, s.1 ≠ [] := fun s hs => by
    obtain ⟨t, ht, e⟩ := List.mem_map.mp (key_gath hs)
    exact e ▸ h t ht
  refine tr_ext so_tree so_tree fun q => ?_
  rw [look_tree h, look_tree h2, cnt_gath]
  have e1 : hitS (gath S) q = hitS S q := by
    rw [Bool.eq_iff_iff]
    unfold hitS
    rw [List.any_eq_true, List.any_eq_true]
    constructor
    · rintro ⟨s, hs, e⟩
      obtain ⟨t, ht, e2⟩ := List.mem_map.mp (key_gath hs)
      exact ⟨t, ht, by rw [show t.1 = s.1 from e2]; exact e⟩
    · rintro ⟨s, hs, e⟩
      exact ⟨(s.1, cnt S s.1), gath_perm.symm.subset (mem_gaD.mpr ⟨rfl, List.mem_map.mpr ⟨s, hs, rfl⟩⟩), e⟩
  have pp : ∀ {S T : List Smp}, S.Perm T → pre S q = pre T q := by
    intro S T h
    induction h with
    | nil => rfl
    | cons x _ ih => simp only [pre, ih]
    | swap x y l => simp only [pre]; omega
    | trans _ _ i j => exact i.trans j
  have pad : ∀ {D : List Smp} {p : Pile} {c : Int}, pre (addS D p c) q = pre D q + (if hitT p q = true then c else 0) := by
    intro D
    induction D with
    | nil => intro p c; simp [addS, pre]
    | cons t D ih =>
      intro p c
      unfold addS
      split
      · rename_i h
        subst h
        simp only [pre]
        split <;> omega
      · simp only [pre, ih]; omega
  have pga : ∀ {S D : List Smp}, pre (gaF D S) q = pre D q + pre S q := by
    intro S
    induction S with
    | nil => intro D; show pre D q = _; simp [pre]
    | cons s S ih => intro D; rw [gaF_cons, ih, pad]; simp only [pre]; omega
  have e2 : pre (gath S) q = pre S q := by
    rw [pp gath_perm]
    unfold gaD
    rw [pga]
    simp [pre]
  rw [e1, e2]
end
end Pil

set_option Elab.async false
set_option linter.all false
set_option autoImplicit false
set_option maxRecDepth 100000
set_option maxHeartbeats 4000000
namespace Pil
open PySem PySem.Spec PyProof.Rows L2
section
variable {G : Nat → Option Fn} {n : Nat}
/-! ### the tree below: run -/
def itmK (C : Nat → List SV → Sto → Out SV) (e : E) (r : Rho) (m : Sto) : Out (List PyData × Option Nat) := evI C (.itm e) r m
theorem evI_itm {C : Nat → List SV → Sto → Out SV} {e : E} {r : Rho} {m : Sto} : evI C (.itm e) r m = itmK C e r m := rfl
theorem allof_e (h60 : G 60 = some F60) {t : Tr} {m : Sto} (hl : (topL t).length ≤ 100000) : callI G (n + 1) 60 [.d (trD t)] m = .ok (.d (.int (allT t))) m := by
  refine callP h60 rfl rfl ?_
  rw [List.append_nil, trD_top]
  simp only [F60, ↓ev_comp, ↓flP_retS, ↓outP_and, ↓outP_or, ↓outP_ite, ↓outP_cmp2, flP_of, flP_next, flP_ret, flP_bad, flP_nil, outP_ok, outP_bad, outP_of, outP_bind, outP_nox, ok_bind, ok_of, of_some, open_none, ex, ev, evs, evo, evT, evI, dat, datX, datP, datAll, dOf, seqI, lockM, openM, boxK, freshE, retOk, asgT_nm, asgT_tup, asgT_lst, asgTs_nil, asgTs_cons, List.map_cons, List.map_nil, List.cons_append, List.nil_append, List.getElem?_cons_zero, List.getElem?_cons_succ, List.length_cons, List.length_nil, List.replicate, Option.bind_some, Option.map_some, Option.isSome_some, List.set_cons_zero, List.set_cons_succ, Nat.zero_add, Nat.reduceAdd, Nat.reduceSub, Nat.reduceLT, Nat.reduceLeDiff, Nat.reduceEqDiff, Int.reduceNeg, Int.reduceLT, Int.reduceLE, Int.reduceAdd, Int.reduceSub, decide_true, decide_false, Bool.and_self, Bool.and_true, Bool.true_and, Bool.and_false, Bool.false_and, Bool.or_true, Bool.true_or, Bool.or_false, Bool.false_or, Bool.not_true, Bool.not_false, ↓reduceIte, Bool.false_eq_true, truD, bop_addI, bop_subI, bop_mulI, bop_modI, bop_fdivI, bop_pow18, bop_addT, bop_addL, cop_eq, cop_ne, cop_ltI, cop_leI, cop_gtI, cop_geI, eqD_ii, eqD_ss, eqD_bb, fits_lit, recvOk, recvOk.isL, isMut, isDic, killR, List.foldl, List.append_assoc, List.length_append, Nat.add_assoc, dk_len, st_get0, st_get1, st_get2, st_set0, st_set1, st_set2, Option.some.injEq, exists_eq_left', exists_eq_left, SV.d.injEq, PyData.bool.injEq, SV.ref.injEq, reduceCtorEq, false_and, and_false, exists_false, or_false, false_or, true_and, and_true, true_implies, false_implies, forall_const, beq_self_eq_true, Bool.true_eq_false, flP_set, flP_asg, flP_par, flP_sti, flP_expr, flP_for, flP_whl, flP_rets, bop_pow6, bop_pow9, bfn_max2, bfn_min2, bfn_tupL, bfn_tupT, bfn_lenL, bfn_lenT, bfn_listL, bfn_listT, bfn_intB, bfn_intI, SV.d.injEq, PyData.str.injEq, PyData.int.injEq, exm0, exm1, exists_and_right, mg0, mg1, mg2, ms0, ms1, ms2, noxK, flP_ifs]
  refine OutP.compM (f := knD) (as := topL t) (fun k => .int k.a) (fun k hk => ⟨rfl, ?_⟩) ?_
  · simp only [eltF, ↓flP_retS, ↓outP_and, ↓outP_or, ↓outP_ite, ↓outP_cmp2, flP_of, flP_next, flP_ret, flP_bad, flP_nil, outP_ok, outP_bad, outP_of, outP_bind, outP_nox, ok_bind, ok_of, of_some, open_none, ex, ev, evs, evo, evT, evI, dat, datX, datP, datAll, dOf, seqI, lockM, openM, boxK, freshE, retOk, asgT_nm, asgT_tup, asgT_lst, asgTs_nil, asgTs_cons, List.map_cons, List.map_nil, List.cons_append, List.nil_append, List.getElem?_cons_zero, List.getElem?_cons_succ, List.length_cons, List.length_nil, List.replicate, Option.bind_some, Option.map_some, Option.isSome_some, List.set_cons_zero, List.set_cons_succ, Nat.zero_add, Nat.reduceAdd, Nat.reduceSub, Nat.reduceLT, Nat.reduceLeDiff, Nat.reduceEqDiff, Int.reduceNeg, Int.reduceLT, Int.reduceLE, Int.reduceAdd, Int.reduceSub, decide_true, decide_false, Bool.and_self, Bool.and_true, Bool.true_and, Bool.and_false, Bool.false_and, Bool.or_true, Bool.true_or, Bool.or_false, Bool.false_or, Bool.not_true, Bool.not_false, ↓reduceIte, Bool.false_eq_true, truD, bop_addI, bop_subI, bop_mulI, bop_modI, bop_fdivI, bop_pow18, bop_addT, bop_addL, cop_eq, cop_ne, cop_ltI, cop_leI, cop_gtI, cop_geI, eqD_ii, eqD_ss, eqD_bb, fits_lit, recvOk, recvOk.isL, isMut, isDic, killR, List.foldl, List.append_assoc, List.length_append, Nat.add_assoc, dk_len, st_get0, st_get1, st_get2, st_set0, st_set1, st_set2, Option.some.injEq, exists_eq_left', exists_eq_left, SV.d.injEq, PyData.bool.injEq, SV.ref.injEq, reduceCtorEq, false_and, and_false, exists_false, or_false, false_or, true_and, and_true, true_implies, false_implies, forall_const, beq_self_eq_true, Bool.true_eq_false, flP_set, flP_asg, flP_par, flP_sti, flP_expr, flP_for, flP_whl, flP_rets, bop_pow6, bop_pow9, bfn_max2, bfn_min2, bfn_tupL, bfn_tupT, bfn_lenL, bfn_lenT, bfn_listL, bfn_listT, bfn_intB, bfn_intI, SV.d.injEq, PyData.str.injEq, PyData.int.injEq, exm0, exm1, exists_and_right, mg0, mg1, mg2, ms0, ms1, ms2, noxK, flP_ifs, knD, noxK]
  have hf : fitsN ((topL t).map fun k => PyData.int k.a).length = true := fits_lit (by rw [List.length_map]; omega)
  have es : bfn .sum [.list ((topL t).map fun k => PyData.int k.a)] = some (.int (allT t)) := by rw [bfn_sumM, all_top]
  simp only [↓flP_retS, ↓outP_and, ↓outP_or, ↓outP_ite, ↓outP_cmp2, flP_of, flP_next, flP_ret, flP_bad, flP_nil, outP_ok, outP_bad, outP_of, outP_bind, outP_nox, ok_bind, ok_of, of_some, open_none, ex, ev, evs, evo, evT, evI, dat, datX, datP, datAll, dOf, seqI, lockM, openM, boxK, freshE, retOk, asgT_nm, asgT_tup, asgT_lst, asgTs_nil, asgTs_cons, List.map_cons, List.map_nil, List.cons_append, List.nil_append, List.getElem?_cons_zero, List.getElem?_cons_succ, List.length_cons, List.length_nil, List.replicate, Option.bind_some, Option.map_some, Option.isSome_some, List.set_cons_zero, List.set_cons_succ, Nat.zero_add, Nat.reduceAdd, Nat.reduceSub, Nat.reduceLT, Nat.reduceLeDiff, Nat.reduceEqDiff, Int.reduceNeg, Int.reduceLT, Int.reduceLE, Int.reduceAdd, Int.reduceSub, decide_true, decide_false, Bool.and_self, Bool.and_true, Bool.true_and, Bool.and_false, Bool.false_and, Bool.or_true, Bool.true_or, Bool.or_false, Bool.false_or, Bool.not_true, Bool.not_false, ↓reduceIte, Bool.false_eq_true, truD, bop_addI, bop_subI, bop_mulI, bop_modI, bop_fdivI, bop_pow18, bop_addT, bop_addL, cop_eq, cop_ne, cop_ltI, cop_leI, cop_gtI, cop_geI, eqD_ii, eqD_ss, eqD_bb, fits_lit, recvOk, recvOk.isL, isMut, isDic, killR, List.foldl, List.append_assoc, List.length_append, Nat.add_assoc, dk_len, st_get0, st_get1, st_get2, st_set0, st_set1, st_set2, Option.some.injEq, exists_eq_left', exists_eq_left, SV.d.injEq, PyData.bool.injEq, SV.ref.injEq, reduceCtorEq, false_and, and_false, exists_false, or_false, false_or, true_and, and_true, true_implies, false_implies, forall_const, beq_self_eq_true, Bool.true_eq_false, flP_set, flP_asg, flP_par, flP_sti, flP_expr, flP_for, flP_whl, flP_rets, bop_pow6, bop_pow9, bfn_max2, bfn_min2, bfn_tupL, bfn_tupT, bfn_lenL, bfn_lenT, bfn_listL, bfn_listT, bfn_intB, bfn_intI, SV.d.injEq, PyData.str.injEq, PyData.int.injEq, exm0, exm1, exists_and_right, mg0, mg1, mg2, ms0, ms1, ms2, noxK, flP_ifs, hf, es]
def kvG (b : Nat) (gs : List (List Nat × Nat)) : List (Key × SV) := gs.map fun g => (.inr (tx g.1), .ref (b + g.2))
theorem lk_kvG {b : Nat} {x : List Nat} : ∀ {gs : List (List Nat × Nat)}, lkG (kvG b gs) (.inr (tx x)) = (gs.find? fun g => decide (g.1 = x)).map fun g => .ref (b + g.2)
  | [] => rfl
  | g :: gs => by
    have ih := lk_kvG (b := b) (x := x) (gs := gs)
    unfold lkG at ih ⊢
    show Option.map _ (List.find? _ (((.inr (tx g.1) : Key), SV.ref (b + g.2)) :: kvG b gs)) = _
    by_cases h : g.1 = x
    · subst h
      rw [List.find?_cons_of_pos (by simp), List.find?_cons_of_pos (by simp)]; rfl
    · have h2 : ((.inr (tx g.1) : Key)) ≠ .inr (tx x) := fun z => h (tx_inj (Sum.inr.inj z))
      rw [List.find?_cons_of_neg (by simpa using h2), List.find?_cons_of_neg (by simpa using h)]
      exact ih
theorem pt_kvG {b i : Nat} {x : List Nat} {gs : List (List Nat × Nat)} (h : x ∉ gs.map (·.1)) : ptG (kvG b gs) (.inr (tx x)) (.ref (b + i)) = kvG b (gs ++ [(x, i)]) := by
  unfold ptG
  rw [if_neg]
  · unfold kvG; rw [List.map_append]; rfl
  · intro z
    obtain ⟨kv, hkv, e⟩ := List.any_eq_true.mp z
    obtain ⟨g, hg, rfl⟩ := List.mem_map.mp hkv
    have e : (.inr (tx g.1) : Key) = .inr (tx x) := by simpa using e
    exact h (List.mem_map.mpr ⟨g, hg, tx_inj (Sum.inr.inj e)⟩)
/-- how the groups stand -/
structure GrpOk (d : Nat) (S : List Smp) (gs : List (List Nat × Nat)) (bx : List Ob) : Prop where
  len : bx.length = S.length
  nm : gs.map (·.1) = nub (S.map (hdS d))
  nd : (gs.map (·.2)).Nodup
  at_ : ∀ g ∈ gs, bx[g.2]? = some (.lst ((S.filter fun s => hdS d s == g.1).map smD))
theorem nub_nd {xs : List (List Nat)} : (nub xs).Nodup := by
  have : ∀ {xs ns : List (List Nat)}, ns.Nodup → (nubF ns xs).Nodup := by
    intro xs
    induction xs with
    | nil => exact fun h => h
    | cons y xs ih =>
      intro ns h
      show (nubF (if y ∈ ns then ns else ns ++ [y]) xs).Nodup
      split
      · exact ih h
      · rename_i hy
        refine ih (List.nodup_append.mpr ⟨h, List.nodup_cons.mpr ⟨List.not_mem_nil, List.nodup_nil⟩, fun a ha b hb => ?_⟩)
        rw [List.mem_singleton] at hb
        subst hb
        exact fun e => hy (e ▸ ha)
  exact this List.nodup_nil
theorem inj_nd {α β : Type} {f : α → β} : ∀ {l : List α} {a b : α}, (l.map f).Nodup → a ∈ l → b ∈ l → f a = f b → a = b
  | x :: l, a, b, h, ha, hb, e => by
    obtain ⟨h1, h2⟩ := List.nodup_cons.mp (show (f x :: l.map f).Nodup from h)
    rcases List.mem_cons.mp ha with e1 | ha'
    · rcases List.mem_cons.mp hb with e2 | hb'
      · rw [e1, e2]
      · exact absurd (List.mem_map.mpr ⟨b, hb', by rw [← e, e1]⟩) h1
    · rcases List.mem_cons.mp hb with e2 | hb'
      · exact absurd (List.mem_map.mpr ⟨a, ha', by rw [e, e2]⟩) h1
      · exact inj_nd h2 ha' hb' e
theorem bxg1 {m : Sto} {o a : Ob} {bx : List Ob} : (m ++ (o :: (bx ++ [a])))[m.length + (bx.length + 1)]? = some a := by
  rw [List.getElem?_append_right (by omega), show m.length + (bx.length + 1) - m.length = bx.length + 1 by omega]
  show (bx ++ [a])[bx.length]? = _
  rw [List.getElem?_append_right (Nat.le_refl _), Nat.sub_self]; rfl
theorem bxs1 {m : Sto} {o a u : Ob} {bx : List Ob} : (m ++ (o :: (bx ++ [a]))).set (m.length + (bx.length + 1)) u = m ++ (o :: (bx ++ [u])) := by
  rw [List.set_append_right _ _ (by omega), show m.length + (bx.length + 1) - m.length = bx.length + 1 by omega]
  show m ++ (o :: (bx ++ [a]).set bx.length u) = _
  rw [List.set_append_right _ _ (Nat.le_refl _), Nat.sub_self]; rfl
theorem bx_get {m : Sto} {o : Ob} {bx : List Ob} {i : Nat} : (m ++ (o :: bx))[m.length + (1 + i)]? = bx[i]? := by
  rw [List.getElem?_append_right (by omega), show m.length + (1 + i) - m.length = i + 1 by omega]; rfl
theorem bx_set {m : Sto} {o u : Ob} {bx : List Ob} {i : Nat} : (m ++ (o :: bx)).set (m.length + (1 + i)) u = m ++ (o :: bx.set i u) := by
  rw [List.set_append_right _ _ (by omega), show m.length + (1 + i) - m.length = i + 1 by omega]; rfl
theorem keep_call {g : Nat} {F : Fn} {xs : List SV} {m : Sto} {K : SV → Sto → Prop} (hG : G g = some F) (hk : F.keep = true) (hl : xs.length = F.ps.length) (h : FlP (exs (callI G n) F.body (xs.map some ++ List.replicate (F.ns.length - xs.length) none) m) (fun _ _ => False) K) : OutP (callI G (n + 1) g xs m) K := by
  rw [callI_s hG hl, hk]
  cases e : exs (callI G n) F.body (xs.map some ++ List.replicate (F.ns.length - xs.length) none) m with
  | ret x m' => rw [e] at h; exact ⟨x, m', rfl, h⟩
  | _ => rw [e] at h; exact h.elim
theorem parted_e (h77 : G 77 = some F77) {d : Nat} {S : List Smp} {xs : List PyData} {xv : PyData} {m : Sto} {K : SV → Sto → Prop} (hx : xv = .tuple (S.map smD) ∨ xv = .list (S.map smD)) (h : ∀ s ∈ S, d < s.1.length ∧ s.1.length ≤ 1000) (hl : S.length ≤ 100000)
    (hK : ∀ gs bx, GrpOk d S gs bx → K (.ref m.length) (m ++ (.dk (kvG (m.length + 1) gs) :: bx))) : OutP (callI G (n + 1) 77 [.d xv, .d (.int (d : Nat))] m) K := by
  refine keep_call h77 rfl rfl ?_
  rcases hx with rfl | rfl <;> (
  simp only [F77, ↓flP_retS, ↓outP_and, ↓outP_or, ↓outP_ite, ↓outP_cmp2, flP_of, flP_next, flP_ret, flP_bad, flP_nil, outP_ok, outP_bad, outP_of, outP_bind, outP_nox, ok_bind, ok_of, of_some, open_none, ex, ev, evs, evo, evT, evI, dat, datX, datP, datAll, dOf, seqI, lockM, openM, boxK, freshE, retOk, asgT_nm, asgT_tup, asgT_lst, asgTs_nil, asgTs_cons, List.map_cons, List.map_nil, List.cons_append, List.nil_append, List.getElem?_cons_zero, List.getElem?_cons_succ, List.length_cons, List.length_nil, List.replicate, Option.bind_some, Option.map_some, Option.isSome_some, List.set_cons_zero, List.set_cons_succ, Nat.zero_add, Nat.reduceAdd, Nat.reduceSub, Nat.reduceLT, Nat.reduceLeDiff, Nat.reduceEqDiff, Int.reduceNeg, Int.reduceLT, Int.reduceLE, Int.reduceAdd, Int.reduceSub, decide_true, decide_false, Bool.and_self, Bool.and_true, Bool.true_and, Bool.and_false, Bool.false_and, Bool.or_true, Bool.true_or, Bool.or_false, Bool.false_or, Bool.not_true, Bool.not_false, ↓reduceIte, Bool.false_eq_true, truD, bop_addI, bop_subI, bop_mulI, bop_modI, bop_fdivI, bop_pow18, bop_addT, bop_addL, cop_eq, cop_ne, cop_ltI, cop_leI, cop_gtI, cop_geI, eqD_ii, eqD_ss, eqD_bb, fits_lit, recvOk, recvOk.isL, isMut, isDic, killR, List.foldl, List.append_assoc, List.length_append, Nat.add_assoc, dk_len, st_get0, st_get1, st_get2, st_set0, st_set1, st_set2, Option.some.injEq, exists_eq_left', exists_eq_left, SV.d.injEq, PyData.bool.injEq, SV.ref.injEq, reduceCtorEq, false_and, and_false, exists_false, or_false, false_or, true_and, and_true, true_implies, false_implies, forall_const, beq_self_eq_true, Bool.true_eq_false, flP_set, flP_asg, flP_par, flP_sti, flP_expr, flP_for, flP_whl, flP_rets, bop_pow6, bop_pow9, bfn_max2, bfn_min2, bfn_tupL, bfn_tupT, bfn_lenL, bfn_lenT, bfn_listL, bfn_listT, bfn_intB, bfn_intI, SV.d.injEq, PyData.str.injEq, PyData.int.injEq]
  refine FlP.forT (fun pr r m' => r = [none, some (SV.d (.int (d : Nat))), some (.ref m.length), none, none] ∧ ∃ gs bx, GrpOk d pr gs bx ∧ m' = m ++ (.dk (kvG (m.length + 1) gs) :: bx)) ⟨rfl, [], [], ⟨rfl, rfl, List.nodup_nil, fun g hg => by cases hg⟩, rfl⟩ ?_ ?_
  · rintro pr s post r m' e ⟨rfl, gs, bx, hg, rfl⟩
    have hs := h s (by rw [e]; simp)
    have hpr : pr.length + 1 ≤ 100000 := by
      have := congrArg List.length e
      simp only [List.length_append, List.length_cons] at this
      omega
    have ei : ixD (.tuple (s.1.map nmD)) (.int (d : Nat)) = some (nmD (hdS d s)) := ix_pl (p := s.1) hs.1
    have ek : asK (nmD (hdS d s)) = some (.inr (tx (hdS d s))) := rfl
    have hgl : gs.length ≤ pr.length := by
      have h1 := congrArg List.length hg.nm
      rw [List.length_map] at h1
      have h2 : ∀ {xs ns : List (List Nat)}, (nubF ns xs).length ≤ ns.length + xs.length := by
        intro xs
        induction xs with
        | nil => intro ns; exact Nat.le_refl _
        | cons y xs ih =>
          intro ns
          show (nubF (if y ∈ ns then ns else ns ++ [y]) xs).length ≤ _
          split
          · have := ih (ns := ns); rw [List.length_cons]; omega
          · have := ih (ns := ns ++ [y]); rw [List.length_append] at this; simp only [List.length_cons, List.length_nil] at this ⊢; omega
      have h3 := h2 (xs := pr.map (hdS d)) (ns := [])
      rw [List.length_map, List.length_nil] at h3
      unfold nub at h1
      omega
    have hf : fitsN ((kvG (m.length + 1) gs).length + 1) = true := fits_lit (by unfold kvG; rw [List.length_map]; omega)
    have hnd : (gs.map (·.1)).Nodup := by rw [hg.nm]; exact nub_nd
    have hml : (m ++ (Ob.dk (kvG (m.length + 1) gs) :: bx)).length = m.length + (1 + bx.length) := by rw [List.length_append, List.length_cons]; omega
    have hap : ∀ zs : List Smp, zs.length ≤ pr.length → mmu .append (zs.map smD) [smD s] = some ((zs ++ [s]).map smD, .none) := fun zs hz => by
      rw [app_mmu (by rw [List.length_map]; omega), List.map_append]; rfl
    have hfl : ∀ x, (pr.filter fun s => hdS d s == x).length ≤ pr.length := fun x => List.length_filter_le _ _
    have e0 : ((m ++ (Ob.dk (kvG (m.length + 1) gs) :: bx)) ++ [Ob.lst []]) = m ++ (Ob.dk (kvG (m.length + 1) gs) :: (bx ++ [.lst []])) := by rw [List.append_assoc]; rfl
    have lk := lk_kvG (b := m.length + 1) (x := hdS d s) (gs := gs)
    cases q : gs.find? (fun g => decide (g.1 = hdS d s)) with
    | some g =>
      have hgm := List.mem_of_find?_eq_some q
      have hgx : g.1 = hdS d s := by simpa using List.find?_some q
      rw [q] at lk
      have hat := hg.at_ g hgm
      have hlt := (List.getElem?_eq_some_iff.mp hat).1
      have hat2 : (bx ++ [Ob.lst []])[g.2]? = some (.lst ((pr.filter fun s => hdS d s == g.1).map smD)) := by rw [List.getElem?_append_left hlt]; exact hat
      have lk2 : lkG (kvG (m.length + 1) gs) (.inr (tx (hdS d s))) = some (.ref (m.length + (1 + g.2))) := by rw [lk]; show some (SV.ref (m.length + 1 + g.2)) = _; rw [Nat.add_assoc]
      have hmem : hdS d s ∈ nub (pr.map (hdS d)) := by rw [← hg.nm]; exact List.mem_map.mpr ⟨g, hgm, hgx⟩
      have hap2 : mmu .append ((pr.filter fun s => hdS d s == g.1).map smD) [.tuple [.tuple (s.1.map nmD), .int s.2]] = some (((pr.filter fun s => hdS d s == g.1) ++ [s]).map smD, .none) := hap _ (hfl _)
      simp only [↓flP_retS, ↓outP_and, ↓outP_or, ↓outP_ite, ↓outP_cmp2, flP_of, flP_next, flP_ret, flP_bad, flP_nil, outP_ok, outP_bad, outP_of, outP_bind, outP_nox, ok_bind, ok_of, of_some, open_none, ex, ev, evs, evo, evT, evI, dat, datX, datP, datAll, dOf, seqI, lockM, openM, boxK, freshE, retOk, asgT_nm, asgT_tup, asgT_lst, asgTs_nil, asgTs_cons, List.map_cons, List.map_nil, List.cons_append, List.nil_append, List.getElem?_cons_zero, List.getElem?_cons_succ, List.length_cons, List.length_nil, List.replicate, Option.bind_some, Option.map_some, Option.isSome_some, List.set_cons_zero, List.set_cons_succ, Nat.zero_add, Nat.reduceAdd, Nat.reduceSub, Nat.reduceLT, Nat.reduceLeDiff, Nat.reduceEqDiff, Int.reduceNeg, Int.reduceLT, Int.reduceLE, Int.reduceAdd, Int.reduceSub, decide_true, decide_false, Bool.and_self, Bool.and_true, Bool.true_and, Bool.and_false, Bool.false_and, Bool.or_true, Bool.true_or, Bool.or_false, Bool.false_or, Bool.not_true, Bool.not_false, ↓reduceIte, Bool.false_eq_true, truD, bop_addI, bop_subI, bop_mulI, bop_modI, bop_fdivI, bop_pow18, bop_addT, bop_addL, cop_eq, cop_ne, cop_ltI, cop_leI, cop_gtI, cop_geI, eqD_ii, eqD_ss, eqD_bb, fits_lit, recvOk, recvOk.isL, isMut, isDic, killR, List.foldl, List.append_assoc, List.length_append, Nat.add_assoc, dk_len, st_get0, st_get1, st_get2, st_set0, st_set1, st_set2, Option.some.injEq, exists_eq_left', exists_eq_left, SV.d.injEq, PyData.bool.injEq, SV.ref.injEq, reduceCtorEq, false_and, and_false, exists_false, or_false, false_or, true_and, and_true, true_implies, false_implies, forall_const, beq_self_eq_true, Bool.true_eq_false, flP_set, flP_asg, flP_par, flP_sti, flP_expr, flP_for, flP_whl, flP_rets, bop_pow6, bop_pow9, bfn_max2, bfn_min2, bfn_tupL, bfn_tupT, bfn_lenL, bfn_lenT, bfn_listL, bfn_listT, bfn_intB, bfn_intI, SV.d.injEq, PyData.str.injEq, PyData.int.injEq, smD, plD, isDic, ei, ek, mg0, hf, lk2, bx_get, hat2, hap2, bx_set]
      refine ⟨gs, _, ⟨by rw [List.length_set, List.length_append, hg.len, List.length_append]; rfl, by rw [List.map_append, List.map_cons, List.map_nil, nub_snoc, if_pos hmem]; exact hg.nm, hg.nd, fun g' hg' => ?_⟩, rfl⟩
      have hlt2 : g.2 < (bx ++ [Ob.lst []]).length := by rw [List.length_append]; omega
      by_cases eg : g' = g
      · subst eg
        rw [List.getElem?_set_self hlt2, List.filter_append, hgx]
        simp
      · have n2 : g.2 ≠ g'.2 := fun z => eg (inj_nd hg.nd hg' hgm z.symm)
        have n1 : hdS d s ≠ g'.1 := fun z => eg (inj_nd hnd hg' hgm (by rw [← z, hgx]))
        rw [List.getElem?_set_ne n2, List.getElem?_append_left (List.getElem?_eq_some_iff.mp (hg.at_ g' hg')).1, hg.at_ g' hg', List.filter_append]
        simp [n1]
    | none =>
      rw [q] at lk
      have lk2 : lkG (kvG (m.length + 1) gs) (.inr (tx (hdS d s))) = none := lk
      have hni : hdS d s ∉ gs.map (·.1) := fun z => by
        obtain ⟨g, hgm, e⟩ := List.mem_map.mp z
        have := List.find?_eq_none.mp q g hgm
        simp at this
        exact this e
      have hpt : ptG (kvG (m.length + 1) gs) (.inr (tx (hdS d s))) (.ref (m.length + (bx.length + 1))) = kvG (m.length + 1) (gs ++ [(hdS d s, bx.length)]) := by
        rw [show m.length + (bx.length + 1) = m.length + 1 + bx.length by omega]; exact pt_kvG hni
      have hap2 : mmu .append [] [.tuple [.tuple (s.1.map nmD), .int s.2]] = some ([smD s], .none) := hap [] (Nat.zero_le _)
      have hmem : hdS d s ∉ nub (pr.map (hdS d)) := by rw [← hg.nm]; exact hni
      simp only [↓flP_retS, ↓outP_and, ↓outP_or, ↓outP_ite, ↓outP_cmp2, flP_of, flP_next, flP_ret, flP_bad, flP_nil, outP_ok, outP_bad, outP_of, outP_bind, outP_nox, ok_bind, ok_of, of_some, open_none, ex, ev, evs, evo, evT, evI, dat, datX, datP, datAll, dOf, seqI, lockM, openM, boxK, freshE, retOk, asgT_nm, asgT_tup, asgT_lst, asgTs_nil, asgTs_cons, List.map_cons, List.map_nil, List.cons_append, List.nil_append, List.getElem?_cons_zero, List.getElem?_cons_succ, List.length_cons, List.length_nil, List.replicate, Option.bind_some, Option.map_some, Option.isSome_some, List.set_cons_zero, List.set_cons_succ, Nat.zero_add, Nat.reduceAdd, Nat.reduceSub, Nat.reduceLT, Nat.reduceLeDiff, Nat.reduceEqDiff, Int.reduceNeg, Int.reduceLT, Int.reduceLE, Int.reduceAdd, Int.reduceSub, decide_true, decide_false, Bool.and_self, Bool.and_true, Bool.true_and, Bool.and_false, Bool.false_and, Bool.or_true, Bool.true_or, Bool.or_false, Bool.false_or, Bool.not_true, Bool.not_false, ↓reduceIte, Bool.false_eq_true, truD, bop_addI, bop_subI, bop_mulI, bop_modI, bop_fdivI, bop_pow18, bop_addT, bop_addL, cop_eq, cop_ne, cop_ltI, cop_leI, cop_gtI, cop_geI, eqD_ii, eqD_ss, eqD_bb, fits_lit, recvOk, recvOk.isL, isMut, isDic, killR, List.foldl, List.append_assoc, List.length_append, Nat.add_assoc, dk_len, st_get0, st_get1, st_get2, st_set0, st_set1, st_set2, Option.some.injEq, exists_eq_left', exists_eq_left, SV.d.injEq, PyData.bool.injEq, SV.ref.injEq, reduceCtorEq, false_and, and_false, exists_false, or_false, false_or, true_and, and_true, true_implies, false_implies, forall_const, beq_self_eq_true, Bool.true_eq_false, flP_set, flP_asg, flP_par, flP_sti, flP_expr, flP_for, flP_whl, flP_rets, bop_pow6, bop_pow9, bfn_max2, bfn_min2, bfn_tupL, bfn_tupT, bfn_lenL, bfn_lenT, bfn_listL, bfn_listT, bfn_intB, bfn_intI, SV.d.injEq, PyData.str.injEq, PyData.int.injEq, smD, plD, isDic, ei, ek, mg0, ms0, hf, lk2, bxg1, hap2, bxs1, hpt]
      refine ⟨gs ++ [(hdS d s, bx.length)], bx ++ [.lst [smD s]], ⟨by rw [List.length_append, hg.len, List.length_append]; rfl, by rw [List.map_append, List.map_append, List.map_cons, List.map_nil, List.map_cons, List.map_nil, nub_snoc, if_neg hmem, hg.nm], ?_, fun g' hg' => ?_⟩, rfl⟩
      · rw [List.map_append]
        refine List.nodup_append.mpr ⟨hg.nd, List.nodup_cons.mpr ⟨List.not_mem_nil, List.nodup_nil⟩, fun a ha b hb => ?_⟩
        rw [List.map_cons, List.map_nil, List.mem_singleton] at hb
        subst hb
        obtain ⟨g, hgm, rfl⟩ := List.mem_map.mp ha
        have := (List.getElem?_eq_some_iff.mp (hg.at_ g hgm)).1
        show g.2 ≠ bx.length
        omega
      · rcases List.mem_append.mp hg' with hg' | hg'
        · have n1 : hdS d s ≠ g'.1 := fun z => hni (List.mem_map.mpr ⟨g', hg', z.symm⟩)
          rw [List.getElem?_append_left (List.getElem?_eq_some_iff.mp (hg.at_ g' hg')).1, hg.at_ g' hg', List.filter_append]
          simp [n1]
        · rw [List.mem_singleton] at hg'
          subst hg'
          have hfn : (pr.filter fun t => hdS d t == hdS d s) = [] := by
            rw [List.filter_eq_nil_iff]
            intro t ht z
            refine hmem (mem_nub.mpr (List.mem_map.mpr ⟨t, ht, ?_⟩))
            simpa using z
          show (bx ++ [Ob.lst [smD s]])[bx.length]? = _
          rw [List.getElem?_append_right (Nat.le_refl _), Nat.sub_self, List.filter_append]
          show _ = some (Ob.lst (((pr.filter fun t => hdS d t == hdS d s) ++ _).map smD))
          rw [hfn]
          simp
  · rintro r m' ⟨rfl, gs, bx, hg, rfl⟩
    simp only [↓flP_retS, ↓outP_and, ↓outP_or, ↓outP_ite, ↓outP_cmp2, flP_of, flP_next, flP_ret, flP_bad, flP_nil, outP_ok, outP_bad, outP_of, outP_bind, outP_nox, ok_bind, ok_of, of_some, open_none, ex, ev, evs, evo, evT, evI, dat, datX, datP, datAll, dOf, seqI, lockM, openM, boxK, freshE, retOk, asgT_nm, asgT_tup, asgT_lst, asgTs_nil, asgTs_cons, List.map_cons, List.map_nil, List.cons_append, List.nil_append, List.getElem?_cons_zero, List.getElem?_cons_succ, List.length_cons, List.length_nil, List.replicate, Option.bind_some, Option.map_some, Option.isSome_some, List.set_cons_zero, List.set_cons_succ, Nat.zero_add, Nat.reduceAdd, Nat.reduceSub, Nat.reduceLT, Nat.reduceLeDiff, Nat.reduceEqDiff, Int.reduceNeg, Int.reduceLT, Int.reduceLE, Int.reduceAdd, Int.reduceSub, decide_true, decide_false, Bool.and_self, Bool.and_true, Bool.true_and, Bool.and_false, Bool.false_and, Bool.or_true, Bool.true_or, Bool.or_false, Bool.false_or, Bool.not_true, Bool.not_false, ↓reduceIte, Bool.false_eq_true, truD, bop_addI, bop_subI, bop_mulI, bop_modI, bop_fdivI, bop_pow18, bop_addT, bop_addL, cop_eq, cop_ne, cop_ltI, cop_leI, cop_gtI, cop_geI, eqD_ii, eqD_ss, eqD_bb, fits_lit, recvOk, recvOk.isL, isMut, isDic, killR, List.foldl, List.append_assoc, List.length_append, Nat.add_assoc, dk_len, st_get0, st_get1, st_get2, st_set0, st_set1, st_set2, Option.some.injEq, exists_eq_left', exists_eq_left, SV.d.injEq, PyData.bool.injEq, SV.ref.injEq, reduceCtorEq, false_and, and_false, exists_false, or_false, false_or, true_and, and_true, true_implies, false_implies, forall_const, beq_self_eq_true, Bool.true_eq_false, flP_set, flP_asg, flP_par, flP_sti, flP_expr, flP_for, flP_whl, flP_rets, bop_pow6, bop_pow9, bfn_max2, bfn_min2, bfn_tupL, bfn_tupT, bfn_lenL, bfn_lenT, bfn_listL, bfn_listT, bfn_intB, bfn_intI, SV.d.injEq, PyData.str.injEq, PyData.int.injEq]
    exact hK gs bx hg)
/-! the dict, walked for good -/
theorem itmD_kv {m c : Sto} {d : Nat} {S : List Smp} {o : Ob} {bx : List Ob} : ∀ {gs : List (List Nat × Nat)}, (∀ g ∈ gs, bx[g.2]? = some (.lst ((S.filter fun s => hdS d s == g.1).map smD))) →
    itmD (m ++ (o :: bx)) (kvG (m.length + 1) gs) = some (gs.map fun g => (.inr (tx g.1), .list ((S.filter fun s => hdS d s == g.1).map smD)))
  | [], _ => rfl
  | g :: gs, h => by
    have ih := itmD_kv (m := m) (c := c) (o := o) (gs := gs) fun x hx => h x (List.mem_cons_of_mem _ hx)
    have hg := h g List.mem_cons_self
    have e : dat (m ++ (o :: bx)) (.ref (m.length + 1 + g.2)) = some (.list ((S.filter fun s => hdS d s == g.1).map smD)) := by
      show (match (m ++ (o :: bx))[m.length + 1 + g.2]? with | some (.lst xs) => some (PyData.list xs) | _ => none) = _
      rw [Nat.add_assoc, bx_get, hg]
    show (dat (m ++ (o :: bx)) (.ref (m.length + 1 + g.2))).bind (fun x => (itmD (m ++ (o :: bx)) (kvG (m.length + 1) gs)).map ((.inr (tx g.1), x) :: ·)) = _
    rw [e, ih]; rfl
theorem killM_app {m : Sto} : ∀ {ls : List Nat} {c : Sto}, (∀ l ∈ ls, m.length ≤ l) → ∃ c', killM ls (m ++ c) = m ++ c'
  | [], c, _ => ⟨c, rfl⟩
  | l :: ls, c, h => by
    have h1 := h l List.mem_cons_self
    obtain ⟨c', e⟩ := killM_app (m := m) (ls := ls) (c := c.set (l - m.length) .dead) fun x hx => h x (List.mem_cons_of_mem _ hx)
    refine ⟨c', ?_⟩
    show killM ls ((m ++ c).set l .dead) = _
    rw [List.set_append_right _ _ h1]
    exact e
def grpD (g : List Nat × List Smp) : PyData := .tuple [nmD g.1, .list (g.2.map smD)]
theorem itm77 (h77 : G 77 = some F77) {d : Nat} {S : List Smp} {xv : PyData} {r : Rho} {m : Sto} (hx : xv = .tuple (S.map smD) ∨ xv = .list (S.map smD)) (h : ∀ s ∈ S, d < s.1.length ∧ s.1.length ≤ 1000) (hl : S.length ≤ 100000) (h0 : r[0]? = some (some (.d xv))) (h1 : r[1]? = some (some (.d (.int (d : Nat))))) :
    ∃ c', itmK (callI G (n + 1)) (.call 77 (.cons (.var 0) (.cons (.var 1) .nil))) r m = .ok ((grps d S).map grpD, none) (m ++ c') := by
  have ho := parted_e (n := n) (m := m) (K := fun x m' => ∃ gs bx, GrpOk d S gs bx ∧ x = .ref m.length ∧ m' = m ++ (.dk (kvG (m.length + 1) gs) :: bx)) h77 (xs := []) hx h hl fun gs bx hg => ⟨gs, bx, hg, rfl, rfl⟩
  obtain ⟨x, m', e, gs, bx, hg, rfl, rfl⟩ := ho
  have ei := itmD_kv (m := m) (c := []) (o := .dk (kvG (m.length + 1) gs)) hg.at_
  obtain ⟨c', ek⟩ := killM_app (m := m) (ls := refsL (kvG (m.length + 1) gs)) (c := .dead :: bx) fun l hl => by
    unfold refsL at hl
    obtain ⟨kv, hkv, e⟩ := List.mem_filterMap.mp hl
    obtain ⟨g, _, rfl⟩ := List.mem_map.mp hkv
    cases e
    omega
  refine ⟨c', ?_⟩
  show evI _ _ _ _ = _
  simp only [evI, ev, evs, h0, h1, ok_bind, e, mg0, ei]
  rw [ms0, ek]
  congr 2
  unfold grps grpD
  rw [List.map_map, ← hg.nm, List.map_map, List.map_map]
  rfl
end
end Pil

set_option Elab.async false
set_option linter.all false
set_option autoImplicit false
set_option maxRecDepth 100000
set_option maxHeartbeats 4000000
namespace Pil
open PySem PySem.Spec PyProof.Rows L2
section
variable {G : Nat → Option Fn} {n : Nat}
theorem gath_e {g : Nat} {F : Fn} (hG : G g = some F) (hb : F.body = F23.body) (hk : F.keep = false) (hps : F.ps.length = 1) (hns : F.ns.length = 4) {S : List Smp} {m : Sto} (h : ∀ s ∈ S, s.1 ≠ []) (hl : S.length ≤ 1000) : callI G (n + 1) g [.d (ssD S)] m = .ok (.d (ssD (gath S))) m := by
  refine callP hG hk (by rw [hps]; rfl) ?_
  rw [hb, hns]
  show FlP (exs _ F23.body [some (.d (ssD S)), none, none, none] (m ++ [])) _ _
  rw [List.append_nil]
  simp only [F23, ↓flP_retS, ↓outP_and, ↓outP_or, ↓outP_ite, ↓outP_cmp2, flP_of, flP_next, flP_ret, flP_bad, flP_nil, outP_ok, outP_bad, outP_of, outP_bind, outP_nox, ok_bind, ok_of, of_some, open_none, ex, ev, evs, evo, evT, evI, dat, datX, datP, datAll, dOf, seqI, lockM, openM, boxK, freshE, retOk, asgT_nm, asgT_tup, asgT_lst, asgTs_nil, asgTs_cons, List.map_cons, List.map_nil, List.cons_append, List.nil_append, List.getElem?_cons_zero, List.getElem?_cons_succ, List.length_cons, List.length_nil, List.replicate, Option.bind_some, Option.map_some, Option.isSome_some, List.set_cons_zero, List.set_cons_succ, Nat.zero_add, Nat.reduceAdd, Nat.reduceSub, Nat.reduceLT, Nat.reduceLeDiff, Nat.reduceEqDiff, Int.reduceNeg, Int.reduceLT, Int.reduceLE, Int.reduceAdd, Int.reduceSub, decide_true, decide_false, Bool.and_self, Bool.and_true, Bool.true_and, Bool.and_false, Bool.false_and, Bool.or_true, Bool.true_or, Bool.or_false, Bool.false_or, Bool.not_true, Bool.not_false, ↓reduceIte, Bool.false_eq_true, truD, bop_addI, bop_subI, bop_mulI, bop_modI, bop_fdivI, bop_pow18, bop_addT, bop_addL, cop_eq, cop_ne, cop_ltI, cop_leI, cop_gtI, cop_geI, eqD_ii, eqD_ss, eqD_bb, fits_lit, recvOk, recvOk.isL, isMut, isDic, killR, List.foldl, List.append_assoc, List.length_append, Nat.add_assoc, dk_len, st_get0, st_get1, st_get2, st_set0, st_set1, st_set2, Option.some.injEq, exists_eq_left', exists_eq_left, SV.d.injEq, PyData.bool.injEq, SV.ref.injEq, reduceCtorEq, false_and, and_false, exists_false, or_false, false_or, true_and, and_true, true_implies, false_implies, forall_const, beq_self_eq_true, Bool.true_eq_false, flP_set, flP_asg, flP_par, flP_sti, flP_expr, flP_for, flP_whl, flP_rets, bop_pow6, bop_pow9, bfn_max2, bfn_min2, bfn_tupL, bfn_tupT, bfn_lenL, bfn_lenT, bfn_listL, bfn_listT, bfn_intB, bfn_intI, SV.d.injEq, PyData.str.injEq, PyData.int.injEq, exm0, exm1, exists_and_right, mg0, mg1, mg2, ms0, ms1, ms2, noxK, flP_ifs, ssD]
  refine FlP.forT (fun pre r m' => (∃ o, r = [none, some (.ref m.length), o, none]) ∧ m' = m ++ [.dt (kvD (gaF [] pre))]) ⟨⟨none, rfl⟩, rfl⟩ ?_ ?_
  · rintro pre s post r m' e ⟨⟨o, rfl⟩, rfl⟩
    have nd : (keysS (gaF [] pre)).Nodup := nd_gaF List.nodup_nil
    have hlen : (gaF [] pre).length ≤ 1000 := by
      have := len_gaF (S := pre) (D := [])
      have := congrArg List.length e
      simp only [List.length_append, List.length_cons, List.length_nil] at *
      omega
    have hg : dGet (.dt (kvD (gaF [] pre))) (plD s.1) = some (lkG (kvD (gaF [] pre)) (plK s.1)) := dGet_kv
    have hp := dPut_kv (c := s.2) (p := s.1) nd (by omega)
    simp only [↓flP_retS, ↓outP_and, ↓outP_or, ↓outP_ite, ↓outP_cmp2, flP_of, flP_next, flP_ret, flP_bad, flP_nil, outP_ok, outP_bad, outP_of, outP_bind, outP_nox, ok_bind, ok_of, of_some, open_none, ex, ev, evs, evo, evT, evI, dat, datX, datP, datAll, dOf, seqI, lockM, openM, boxK, freshE, retOk, asgT_nm, asgT_tup, asgT_lst, asgTs_nil, asgTs_cons, List.map_cons, List.map_nil, List.cons_append, List.nil_append, List.getElem?_cons_zero, List.getElem?_cons_succ, List.length_cons, List.length_nil, List.replicate, Option.bind_some, Option.map_some, Option.isSome_some, List.set_cons_zero, List.set_cons_succ, Nat.zero_add, Nat.reduceAdd, Nat.reduceSub, Nat.reduceLT, Nat.reduceLeDiff, Nat.reduceEqDiff, Int.reduceNeg, Int.reduceLT, Int.reduceLE, Int.reduceAdd, Int.reduceSub, decide_true, decide_false, Bool.and_self, Bool.and_true, Bool.true_and, Bool.and_false, Bool.false_and, Bool.or_true, Bool.true_or, Bool.or_false, Bool.false_or, Bool.not_true, Bool.not_false, ↓reduceIte, Bool.false_eq_true, truD, bop_addI, bop_subI, bop_mulI, bop_modI, bop_fdivI, bop_pow18, bop_addT, bop_addL, cop_eq, cop_ne, cop_ltI, cop_leI, cop_gtI, cop_geI, eqD_ii, eqD_ss, eqD_bb, fits_lit, recvOk, recvOk.isL, isMut, isDic, killR, List.foldl, List.append_assoc, List.length_append, Nat.add_assoc, dk_len, st_get0, st_get1, st_get2, st_set0, st_set1, st_set2, Option.some.injEq, exists_eq_left', exists_eq_left, SV.d.injEq, PyData.bool.injEq, SV.ref.injEq, reduceCtorEq, false_and, and_false, exists_false, or_false, false_or, true_and, and_true, true_implies, false_implies, forall_const, beq_self_eq_true, Bool.true_eq_false, flP_set, flP_asg, flP_par, flP_sti, flP_expr, flP_for, flP_whl, flP_rets, bop_pow6, bop_pow9, bfn_max2, bfn_min2, bfn_tupL, bfn_tupT, bfn_lenL, bfn_lenT, bfn_listL, bfn_listT, bfn_intB, bfn_intI, SV.d.injEq, PyData.str.injEq, PyData.int.injEq, exm0, exm1, exists_and_right, mg0, mg1, mg2, ms0, ms1, ms2, noxK, flP_ifs, smD, isDic, hg, lk_cnt nd, hp]
    exact ⟨⟨_, rfl⟩, by rw [gaF_snoc]⟩
  · rintro r m' ⟨⟨o, rfl⟩, rfl⟩
    have nd : (keysS (gaD S)).Nodup := nd_gaD
    have hgl : (gaD S).length ≤ 1000 := by
      have := len_gaF (S := S) (D := [])
      simp only [List.length_nil] at this
      show (gaF [] S).length ≤ _
      omega
    have hks := keysD_kv (D := gaF [] S)
    have hsd : sortD ((gaF [] S).map fun s => plD s.1) = some ((gath S).map fun s => plD s.1) := sortD_kv (D := gaD S) (fun s hs => by
      obtain ⟨t, ht, e⟩ := List.mem_map.mp (mem_gaD.mp hs).2
      exact e ▸ h t ht) (by omega)
    simp only [↓flP_retS, ↓outP_and, ↓outP_or, ↓outP_ite, ↓outP_cmp2, flP_of, flP_next, flP_ret, flP_bad, flP_nil, outP_ok, outP_bad, outP_of, outP_bind, outP_nox, ok_bind, ok_of, of_some, open_none, ex, ev, evs, evo, evT, evI, dat, datX, datP, datAll, dOf, seqI, lockM, openM, boxK, freshE, retOk, asgT_nm, asgT_tup, asgT_lst, asgTs_nil, asgTs_cons, List.map_cons, List.map_nil, List.cons_append, List.nil_append, List.getElem?_cons_zero, List.getElem?_cons_succ, List.length_cons, List.length_nil, List.replicate, Option.bind_some, Option.map_some, Option.isSome_some, List.set_cons_zero, List.set_cons_succ, Nat.zero_add, Nat.reduceAdd, Nat.reduceSub, Nat.reduceLT, Nat.reduceLeDiff, Nat.reduceEqDiff, Int.reduceNeg, Int.reduceLT, Int.reduceLE, Int.reduceAdd, Int.reduceSub, decide_true, decide_false, Bool.and_self, Bool.and_true, Bool.true_and, Bool.and_false, Bool.false_and, Bool.or_true, Bool.true_or, Bool.or_false, Bool.false_or, Bool.not_true, Bool.not_false, ↓reduceIte, Bool.false_eq_true, truD, bop_addI, bop_subI, bop_mulI, bop_modI, bop_fdivI, bop_pow18, bop_addT, bop_addL, cop_eq, cop_ne, cop_ltI, cop_leI, cop_gtI, cop_geI, eqD_ii, eqD_ss, eqD_bb, fits_lit, recvOk, recvOk.isL, isMut, isDic, killR, List.foldl, List.append_assoc, List.length_append, Nat.add_assoc, dk_len, st_get0, st_get1, st_get2, st_set0, st_set1, st_set2, Option.some.injEq, exists_eq_left', exists_eq_left, SV.d.injEq, PyData.bool.injEq, SV.ref.injEq, reduceCtorEq, false_and, and_false, exists_false, or_false, false_or, true_and, and_true, true_implies, false_implies, forall_const, beq_self_eq_true, Bool.true_eq_false, flP_set, flP_asg, flP_par, flP_sti, flP_expr, flP_for, flP_whl, flP_rets, bop_pow6, bop_pow9, bfn_max2, bfn_min2, bfn_tupL, bfn_tupT, bfn_lenL, bfn_lenT, bfn_listL, bfn_listT, bfn_intB, bfn_intI, SV.d.injEq, PyData.str.injEq, PyData.int.injEq, exm0, exm1, exists_and_right, mg0, mg1, mg2, ms0, ms1, ms2, noxK, flP_ifs, hks, hsd]
    refine OutP.compM smD (fun s hs => ⟨?_, ?_⟩) ?_
    · simp only [↓flP_retS, ↓outP_and, ↓outP_or, ↓outP_ite, ↓outP_cmp2, flP_of, flP_next, flP_ret, flP_bad, flP_nil, outP_ok, outP_bad, outP_of, outP_bind, outP_nox, ok_bind, ok_of, of_some, open_none, ex, ev, evs, evo, evT, evI, dat, datX, datP, datAll, dOf, seqI, lockM, openM, boxK, freshE, retOk, asgT_nm, asgT_tup, asgT_lst, asgTs_nil, asgTs_cons, List.map_cons, List.map_nil, List.cons_append, List.nil_append, List.getElem?_cons_zero, List.getElem?_cons_succ, List.length_cons, List.length_nil, List.replicate, Option.bind_some, Option.map_some, Option.isSome_some, List.set_cons_zero, List.set_cons_succ, Nat.zero_add, Nat.reduceAdd, Nat.reduceSub, Nat.reduceLT, Nat.reduceLeDiff, Nat.reduceEqDiff, Int.reduceNeg, Int.reduceLT, Int.reduceLE, Int.reduceAdd, Int.reduceSub, decide_true, decide_false, Bool.and_self, Bool.and_true, Bool.true_and, Bool.and_false, Bool.false_and, Bool.or_true, Bool.true_or, Bool.or_false, Bool.false_or, Bool.not_true, Bool.not_false, ↓reduceIte, Bool.false_eq_true, truD, bop_addI, bop_subI, bop_mulI, bop_modI, bop_fdivI, bop_pow18, bop_addT, bop_addL, cop_eq, cop_ne, cop_ltI, cop_leI, cop_gtI, cop_geI, eqD_ii, eqD_ss, eqD_bb, fits_lit, recvOk, recvOk.isL, isMut, isDic, killR, List.foldl, List.append_assoc, List.length_append, Nat.add_assoc, dk_len, st_get0, st_get1, st_get2, st_set0, st_set1, st_set2, Option.some.injEq, exists_eq_left', exists_eq_left, SV.d.injEq, PyData.bool.injEq, SV.ref.injEq, reduceCtorEq, false_and, and_false, exists_false, or_false, false_or, true_and, and_true, true_implies, false_implies, forall_const, beq_self_eq_true, Bool.true_eq_false, flP_set, flP_asg, flP_par, flP_sti, flP_expr, flP_for, flP_whl, flP_rets, bop_pow6, bop_pow9, bfn_max2, bfn_min2, bfn_tupL, bfn_tupT, bfn_lenL, bfn_lenT, bfn_listL, bfn_listT, bfn_intB, bfn_intI, SV.d.injEq, PyData.str.injEq, PyData.int.injEq, exm0, exm1, exists_and_right, mg0, mg1, mg2, ms0, ms1, ms2, noxK, flP_ifs]
    · have hg : dGet (.dt (kvD (gaF [] S))) (.tuple (s.1.map nmD)) = some (some (.d (.int s.2))) := (dGet_kv (p := s.1)).trans (congrArg some (lk_mem (D := gaF [] S) nd (gath_perm.subset hs)))
      simp only [↓flP_retS, ↓outP_and, ↓outP_or, ↓outP_ite, ↓outP_cmp2, flP_of, flP_next, flP_ret, flP_bad, flP_nil, outP_ok, outP_bad, outP_of, outP_bind, outP_nox, ok_bind, ok_of, of_some, open_none, ex, ev, evs, evo, evT, evI, dat, datX, datP, datAll, dOf, seqI, lockM, openM, boxK, freshE, retOk, asgT_nm, asgT_tup, asgT_lst, asgTs_nil, asgTs_cons, List.map_cons, List.map_nil, List.cons_append, List.nil_append, List.getElem?_cons_zero, List.getElem?_cons_succ, List.length_cons, List.length_nil, List.replicate, Option.bind_some, Option.map_some, Option.isSome_some, List.set_cons_zero, List.set_cons_succ, Nat.zero_add, Nat.reduceAdd, Nat.reduceSub, Nat.reduceLT, Nat.reduceLeDiff, Nat.reduceEqDiff, Int.reduceNeg, Int.reduceLT, Int.reduceLE, Int.reduceAdd, Int.reduceSub, decide_true, decide_false, Bool.and_self, Bool.and_true, Bool.true_and, Bool.and_false, Bool.false_and, Bool.or_true, Bool.true_or, Bool.or_false, Bool.false_or, Bool.not_true, Bool.not_false, ↓reduceIte, Bool.false_eq_true, truD, bop_addI, bop_subI, bop_mulI, bop_modI, bop_fdivI, bop_pow18, bop_addT, bop_addL, cop_eq, cop_ne, cop_ltI, cop_leI, cop_gtI, cop_geI, eqD_ii, eqD_ss, eqD_bb, fits_lit, recvOk, recvOk.isL, isMut, isDic, killR, List.foldl, List.append_assoc, List.length_append, Nat.add_assoc, dk_len, st_get0, st_get1, st_get2, st_set0, st_set1, st_set2, Option.some.injEq, exists_eq_left', exists_eq_left, SV.d.injEq, PyData.bool.injEq, SV.ref.injEq, reduceCtorEq, false_and, and_false, exists_false, or_false, false_or, true_and, and_true, true_implies, false_implies, forall_const, beq_self_eq_true, Bool.true_eq_false, flP_set, flP_asg, flP_par, flP_sti, flP_expr, flP_for, flP_whl, flP_rets, bop_pow6, bop_pow9, bfn_max2, bfn_min2, bfn_tupL, bfn_tupT, bfn_lenL, bfn_lenT, bfn_listL, bfn_listT, bfn_intB, bfn_intI, SV.d.injEq, PyData.str.injEq, PyData.int.injEq, exm0, exm1, exists_and_right, mg0, mg1, mg2, ms0, ms1, ms2, noxK, flP_ifs, plD, isDic, hg]
      rfl
    have hf : fitsN ((gath S).map smD).length = true := fits_lit (by have := len_gath (S := S); rw [List.length_map]; omega)
    simp only [↓flP_retS, ↓outP_and, ↓outP_or, ↓outP_ite, ↓outP_cmp2, flP_of, flP_next, flP_ret, flP_bad, flP_nil, outP_ok, outP_bad, outP_of, outP_bind, outP_nox, ok_bind, ok_of, of_some, open_none, ex, ev, evs, evo, evT, evI, dat, datX, datP, datAll, dOf, seqI, lockM, openM, boxK, freshE, retOk, asgT_nm, asgT_tup, asgT_lst, asgTs_nil, asgTs_cons, List.map_cons, List.map_nil, List.cons_append, List.nil_append, List.getElem?_cons_zero, List.getElem?_cons_succ, List.length_cons, List.length_nil, List.replicate, Option.bind_some, Option.map_some, Option.isSome_some, List.set_cons_zero, List.set_cons_succ, Nat.zero_add, Nat.reduceAdd, Nat.reduceSub, Nat.reduceLT, Nat.reduceLeDiff, Nat.reduceEqDiff, Int.reduceNeg, Int.reduceLT, Int.reduceLE, Int.reduceAdd, Int.reduceSub, decide_true, decide_false, Bool.and_self, Bool.and_true, Bool.true_and, Bool.and_false, Bool.false_and, Bool.or_true, Bool.true_or, Bool.or_false, Bool.false_or, Bool.not_true, Bool.not_false, ↓reduceIte, Bool.false_eq_true, truD, bop_addI, bop_subI, bop_mulI, bop_modI, bop_fdivI, bop_pow18, bop_addT, bop_addL, cop_eq, cop_ne, cop_ltI, cop_leI, cop_gtI, cop_geI, eqD_ii, eqD_ss, eqD_bb, fits_lit, recvOk, recvOk.isL, isMut, isDic, killR, List.foldl, List.append_assoc, List.length_append, Nat.add_assoc, dk_len, st_get0, st_get1, st_get2, st_set0, st_set1, st_set2, Option.some.injEq, exists_eq_left', exists_eq_left, SV.d.injEq, PyData.bool.injEq, SV.ref.injEq, reduceCtorEq, false_and, and_false, exists_false, or_false, false_or, true_and, and_true, true_implies, false_implies, forall_const, beq_self_eq_true, Bool.true_eq_false, flP_set, flP_asg, flP_par, flP_sti, flP_expr, flP_for, flP_whl, flP_rets, bop_pow6, bop_pow9, bfn_max2, bfn_min2, bfn_tupL, bfn_tupT, bfn_lenL, bfn_lenT, bfn_listL, bfn_listT, bfn_intB, bfn_intI, SV.d.injEq, PyData.str.injEq, PyData.int.injEq, exm0, exm1, exists_and_right, mg0, mg1, mg2, ms0, ms1, ms2, noxK, flP_ifs, hf]
structure SsOk (S : List Smp) : Prop where
  pos : PosS S
  ne : ∀ s ∈ S, s.1 ≠ []
  pl : ∀ s ∈ S, s.1.length ≤ 1000
  len : S.length ≤ 1000
theorem SsOk.gath {S : List Smp} (h : SsOk S) : SsOk (gath S) := by
  have key : ∀ s ∈ Pil.gath S, ∃ t ∈ S, t.1 = s.1 := fun s hs => by
    obtain ⟨t, ht, e⟩ := List.mem_map.mp (key_gath hs)
    exact ⟨t, ht, e⟩
  refine ⟨pos_gath h.pos, fun s hs => ?_, fun s hs => ?_, Nat.le_trans len_gath h.len⟩
  · obtain ⟨t, ht, e⟩ := key s hs
    exact e ▸ h.ne t ht
  · obtain ⟨t, ht, e⟩ := key s hs
    exact e ▸ h.pl t ht
theorem ssok_of {names : List (List Nat)} {S : List Smp} (h : ∀ s ∈ S, SmpOk names s) (hl : S.length ≤ 100) : SsOk S where
  pos := fun s hs => by have := (h s hs).lo; omega
  ne := fun s hs z => by have := (h s hs).pile.pos; rw [z] at this; exact absurd this (by decide)
  pl := fun s hs => by have := (h s hs).pile.len; omega
  len := by omega
end
end Pil

set_option Elab.async false
set_option linter.all false
set_option autoImplicit false
set_option maxRecDepth 100000
set_option maxHeartbeats 4000000
namespace Pil
open PySem PySem.Spec PyProof.Rows L2
section
variable {G : Nat → Option Fn} {n : Nat}
theorem len_topT : ∀ {t : Tr}, (topL t).length ≤ (rws t).length
  | .nil => Nat.le_refl _
  | .cons x o a b r => by
    have := len_topT (t := r)
    simp only [topL, rws, List.length_cons, List.length_append]; omega
theorem len_rws {S : List Smp} (hs : ∀ s ∈ S, s.1 ≠ []) (h : ∀ s ∈ S, s.1.length ≤ 100) : (rws (treeOf S)).length ≤ 100 * S.length := by
  rw [rows_tree hs]
  exact len_rowsS h
theorem treeb_e (h60 : G 60 = some F60) (h77 : G 77 = some F77) (h78 : G 78 = some F78) : ∀ {D : Nat} {d : Nat} {S : List Smp} {xv : PyData} {m : Sto}, (xv = .tuple (S.map smD) ∨ xv = .list (S.map smD)) → (∀ s ∈ S, d < s.1.length ∧ s.1.length ≤ d + D ∧ s.1.length ≤ 100) → SrtD d S → S.length ≤ 900 →
    callI G (n + D + 2) 78 [.d xv, .d (.int (d : Nat))] m = .ok (.d (trD (treeOf (dropS d S)))) m := by
  intro D
  induction D with
  | zero =>
    intro d S xv m hx hS hsr hl
    have e0 : S = [] := by
      cases S with
      | nil => rfl
      | cons s S => have := hS s List.mem_cons_self; omega
    subst e0
    obtain ⟨c', ei⟩ := itm77 (n := n) (r := [some (.d xv), some (.d (.int (d : Nat))), some (.ref m.length), none, none, none, none, none, none, none]) (m := m ++ [.lst []]) h77 hx (fun s hs => by cases hs) (by decide) rfl rfl
    refine callP h78 rfl rfl ?_
    rw [List.append_nil]
    have e1 : (grps d ([] : List Smp)).map grpD = [] := rfl
    rw [e1] at ei
    have e2 : n + 0 + 1 = n + 1 := rfl
    simp only [F78, ↓evI_itm, ↓flP_retS, ↓outP_and, ↓outP_or, ↓outP_ite, ↓outP_cmp2, flP_of, flP_next, flP_ret, flP_bad, flP_nil, outP_ok, outP_bad, outP_of, outP_bind, outP_nox, ok_bind, ok_of, of_some, open_none, ex, ev, evs, evo, evT, evI, dat, datX, datP, datAll, dOf, seqI, lockM, openM, boxK, freshE, retOk, asgT_nm, asgT_tup, asgT_lst, asgTs_nil, asgTs_cons, List.map_cons, List.map_nil, List.cons_append, List.nil_append, List.getElem?_cons_zero, List.getElem?_cons_succ, List.length_cons, List.length_nil, List.replicate, Option.bind_some, Option.map_some, Option.isSome_some, List.set_cons_zero, List.set_cons_succ, Nat.zero_add, Nat.reduceAdd, Nat.reduceSub, Nat.reduceLT, Nat.reduceLeDiff, Nat.reduceEqDiff, Int.reduceNeg, Int.reduceLT, Int.reduceLE, Int.reduceAdd, Int.reduceSub, decide_true, decide_false, Bool.and_self, Bool.and_true, Bool.true_and, Bool.and_false, Bool.false_and, Bool.or_true, Bool.true_or, Bool.or_false, Bool.false_or, Bool.not_true, Bool.not_false, ↓reduceIte, Bool.false_eq_true, truD, bop_addI, bop_subI, bop_mulI, bop_modI, bop_fdivI, bop_pow18, bop_addT, bop_addL, cop_eq, cop_ne, cop_ltI, cop_leI, cop_gtI, cop_geI, eqD_ii, eqD_ss, eqD_bb, fits_lit, recvOk, recvOk.isL, isMut, isDic, killR, List.foldl, List.append_assoc, List.length_append, Nat.add_assoc, dk_len, st_get0, st_get1, st_get2, st_set0, st_set1, st_set2, Option.some.injEq, exists_eq_left', exists_eq_left, SV.d.injEq, PyData.bool.injEq, SV.ref.injEq, reduceCtorEq, false_and, and_false, exists_false, or_false, false_or, true_and, and_true, true_implies, false_implies, forall_const, beq_self_eq_true, Bool.true_eq_false, flP_set, flP_asg, flP_par, flP_sti, flP_expr, flP_for, flP_whl, flP_rets, bop_pow6, bop_pow9, bfn_max2, bfn_min2, bfn_tupL, bfn_tupT, bfn_lenL, bfn_lenT, bfn_listL, bfn_listT, bfn_intB, bfn_intI, SV.d.injEq, PyData.str.injEq, PyData.int.injEq, exm0, exm1, exists_and_right, mg0, mg1, mg2, ms0, ms1, ms2, noxK, flP_ifs] at ei ⊢
    rw [ei]
    simp only [↓flP_retS, ↓outP_and, ↓outP_or, ↓outP_ite, ↓outP_cmp2, flP_of, flP_next, flP_ret, flP_bad, flP_nil, outP_ok, outP_bad, outP_of, outP_bind, outP_nox, ok_bind, ok_of, of_some, open_none, ex, ev, evs, evo, evT, evI, dat, datX, datP, datAll, dOf, seqI, lockM, openM, boxK, freshE, retOk, asgT_nm, asgT_tup, asgT_lst, asgTs_nil, asgTs_cons, List.map_cons, List.map_nil, List.cons_append, List.nil_append, List.getElem?_cons_zero, List.getElem?_cons_succ, List.length_cons, List.length_nil, List.replicate, Option.bind_some, Option.map_some, Option.isSome_some, List.set_cons_zero, List.set_cons_succ, Nat.zero_add, Nat.reduceAdd, Nat.reduceSub, Nat.reduceLT, Nat.reduceLeDiff, Nat.reduceEqDiff, Int.reduceNeg, Int.reduceLT, Int.reduceLE, Int.reduceAdd, Int.reduceSub, decide_true, decide_false, Bool.and_self, Bool.and_true, Bool.true_and, Bool.and_false, Bool.false_and, Bool.or_true, Bool.true_or, Bool.or_false, Bool.false_or, Bool.not_true, Bool.not_false, ↓reduceIte, Bool.false_eq_true, truD, bop_addI, bop_subI, bop_mulI, bop_modI, bop_fdivI, bop_pow18, bop_addT, bop_addL, cop_eq, cop_ne, cop_ltI, cop_leI, cop_gtI, cop_geI, eqD_ii, eqD_ss, eqD_bb, fits_lit, recvOk, recvOk.isL, isMut, isDic, killR, List.foldl, List.append_assoc, List.length_append, Nat.add_assoc, dk_len, st_get0, st_get1, st_get2, st_set0, st_set1, st_set2, Option.some.injEq, exists_eq_left', exists_eq_left, SV.d.injEq, PyData.bool.injEq, SV.ref.injEq, reduceCtorEq, false_and, and_false, exists_false, or_false, false_or, true_and, and_true, true_implies, false_implies, forall_const, beq_self_eq_true, Bool.true_eq_false, flP_set, flP_asg, flP_par, flP_sti, flP_expr, flP_for, flP_whl, flP_rets, bop_pow6, bop_pow9, bfn_max2, bfn_min2, bfn_tupL, bfn_tupT, bfn_lenL, bfn_lenT, bfn_listL, bfn_listT, bfn_intB, bfn_intI, SV.d.injEq, PyData.str.injEq, PyData.int.injEq, exm0, exm1, exists_and_right, mg0, mg1, mg2, ms0, ms1, ms2, noxK, flP_ifs]
    refine FlP.for0 (fun xs r m' => r = [none, some (.d (.int (d : Nat))), some (.ref m.length), none, none, none, none, none, none, none] ∧ m' = m ++ (.lst [] :: c') ∧ xs = []) ⟨rfl, rfl, rfl⟩ (by rintro _ _ _ _ ⟨_, _, h⟩; cases h) ?_
    rintro r m' ⟨rfl, rfl, _⟩
    simp only [↓flP_retS, ↓outP_and, ↓outP_or, ↓outP_ite, ↓outP_cmp2, flP_of, flP_next, flP_ret, flP_bad, flP_nil, outP_ok, outP_bad, outP_of, outP_bind, outP_nox, ok_bind, ok_of, of_some, open_none, ex, ev, evs, evo, evT, evI, dat, datX, datP, datAll, dOf, seqI, lockM, openM, boxK, freshE, retOk, asgT_nm, asgT_tup, asgT_lst, asgTs_nil, asgTs_cons, List.map_cons, List.map_nil, List.cons_append, List.nil_append, List.getElem?_cons_zero, List.getElem?_cons_succ, List.length_cons, List.length_nil, List.replicate, Option.bind_some, Option.map_some, Option.isSome_some, List.set_cons_zero, List.set_cons_succ, Nat.zero_add, Nat.reduceAdd, Nat.reduceSub, Nat.reduceLT, Nat.reduceLeDiff, Nat.reduceEqDiff, Int.reduceNeg, Int.reduceLT, Int.reduceLE, Int.reduceAdd, Int.reduceSub, decide_true, decide_false, Bool.and_self, Bool.and_true, Bool.true_and, Bool.and_false, Bool.false_and, Bool.or_true, Bool.true_or, Bool.or_false, Bool.false_or, Bool.not_true, Bool.not_false, ↓reduceIte, Bool.false_eq_true, truD, bop_addI, bop_subI, bop_mulI, bop_modI, bop_fdivI, bop_pow18, bop_addT, bop_addL, cop_eq, cop_ne, cop_ltI, cop_leI, cop_gtI, cop_geI, eqD_ii, eqD_ss, eqD_bb, fits_lit, recvOk, recvOk.isL, isMut, isDic, killR, List.foldl, List.append_assoc, List.length_append, Nat.add_assoc, dk_len, st_get0, st_get1, st_get2, st_set0, st_set1, st_set2, Option.some.injEq, exists_eq_left', exists_eq_left, SV.d.injEq, PyData.bool.injEq, SV.ref.injEq, reduceCtorEq, false_and, and_false, exists_false, or_false, false_or, true_and, and_true, true_implies, false_implies, forall_const, beq_self_eq_true, Bool.true_eq_false, flP_set, flP_asg, flP_par, flP_sti, flP_expr, flP_for, flP_whl, flP_rets, bop_pow6, bop_pow9, bfn_max2, bfn_min2, bfn_tupL, bfn_tupT, bfn_lenL, bfn_lenT, bfn_listL, bfn_listT, bfn_intB, bfn_intI, SV.d.injEq, PyData.str.injEq, PyData.int.injEq, exm0, exm1, exists_and_right, mg0, mg1, mg2, ms0, ms1, ms2, noxK, flP_ifs]
    rfl
  | succ D ih =>
    intro d S xv m hx hS hsr hl
    have hd : ∀ s ∈ S, d < s.1.length := fun s hs => (hS s hs).1
    obtain ⟨c', ei⟩ := itm77 (n := n + D + 1) (r := [some (.d xv), some (.d (.int (d : Nat))), some (.ref m.length), none, none, none, none, none, none, none]) (m := m ++ [.lst []]) h77 hx (fun s hs => ⟨hd s hs, by have := (hS s hs).2.2; omega⟩) (by omega) rfl rfl
    refine callP h78 rfl rfl ?_
    rw [List.append_nil]
    simp only [F78, ↓evI_itm, ↓flP_retS, ↓outP_and, ↓outP_or, ↓outP_ite, ↓outP_cmp2, flP_of, flP_next, flP_ret, flP_bad, flP_nil, outP_ok, outP_bad, outP_of, outP_bind, outP_nox, ok_bind, ok_of, of_some, open_none, ex, ev, evs, evo, evT, evI, dat, datX, datP, datAll, dOf, seqI, lockM, openM, boxK, freshE, retOk, asgT_nm, asgT_tup, asgT_lst, asgTs_nil, asgTs_cons, List.map_cons, List.map_nil, List.cons_append, List.nil_append, List.getElem?_cons_zero, List.getElem?_cons_succ, List.length_cons, List.length_nil, List.replicate, Option.bind_some, Option.map_some, Option.isSome_some, List.set_cons_zero, List.set_cons_succ, Nat.zero_add, Nat.reduceAdd, Nat.reduceSub, Nat.reduceLT, Nat.reduceLeDiff, Nat.reduceEqDiff, Int.reduceNeg, Int.reduceLT, Int.reduceLE, Int.reduceAdd, Int.reduceSub, decide_true, decide_false, Bool.and_self, Bool.and_true, Bool.true_and, Bool.and_false, Bool.false_and, Bool.or_true, Bool.true_or, Bool.or_false, Bool.false_or, Bool.not_true, Bool.not_false, ↓reduceIte, Bool.false_eq_true, truD, bop_addI, bop_subI, bop_mulI, bop_modI, bop_fdivI, bop_pow18, bop_addT, bop_addL, cop_eq, cop_ne, cop_ltI, cop_leI, cop_gtI, cop_geI, eqD_ii, eqD_ss, eqD_bb, fits_lit, recvOk, recvOk.isL, isMut, isDic, killR, List.foldl, List.append_assoc, List.length_append, Nat.add_assoc, dk_len, st_get0, st_get1, st_get2, st_set0, st_set1, st_set2, Option.some.injEq, exists_eq_left', exists_eq_left, SV.d.injEq, PyData.bool.injEq, SV.ref.injEq, reduceCtorEq, false_and, and_false, exists_false, or_false, false_or, true_and, and_true, true_implies, false_implies, forall_const, beq_self_eq_true, Bool.true_eq_false, flP_set, flP_asg, flP_par, flP_sti, flP_expr, flP_for, flP_whl, flP_rets, bop_pow6, bop_pow9, bfn_max2, bfn_min2, bfn_tupL, bfn_tupT, bfn_lenL, bfn_lenT, bfn_listL, bfn_listT, bfn_intB, bfn_intI, SV.d.injEq, PyData.str.injEq, PyData.int.injEq, exm0, exm1, exists_and_right, mg0, mg1, mg2, ms0, ms1, ms2, noxK, flP_ifs] at ei ⊢
    rw [ei]
    simp only [↓flP_retS, ↓outP_and, ↓outP_or, ↓outP_ite, ↓outP_cmp2, flP_of, flP_next, flP_ret, flP_bad, flP_nil, outP_ok, outP_bad, outP_of, outP_bind, outP_nox, ok_bind, ok_of, of_some, open_none, ex, ev, evs, evo, evT, evI, dat, datX, datP, datAll, dOf, seqI, lockM, openM, boxK, freshE, retOk, asgT_nm, asgT_tup, asgT_lst, asgTs_nil, asgTs_cons, List.map_cons, List.map_nil, List.cons_append, List.nil_append, List.getElem?_cons_zero, List.getElem?_cons_succ, List.length_cons, List.length_nil, List.replicate, Option.bind_some, Option.map_some, Option.isSome_some, List.set_cons_zero, List.set_cons_succ, Nat.zero_add, Nat.reduceAdd, Nat.reduceSub, Nat.reduceLT, Nat.reduceLeDiff, Nat.reduceEqDiff, Int.reduceNeg, Int.reduceLT, Int.reduceLE, Int.reduceAdd, Int.reduceSub, decide_true, decide_false, Bool.and_self, Bool.and_true, Bool.true_and, Bool.and_false, Bool.false_and, Bool.or_true, Bool.true_or, Bool.or_false, Bool.false_or, Bool.not_true, Bool.not_false, ↓reduceIte, Bool.false_eq_true, truD, bop_addI, bop_subI, bop_mulI, bop_modI, bop_fdivI, bop_pow18, bop_addT, bop_addL, cop_eq, cop_ne, cop_ltI, cop_leI, cop_gtI, cop_geI, eqD_ii, eqD_ss, eqD_bb, fits_lit, recvOk, recvOk.isL, isMut, isDic, killR, List.foldl, List.append_assoc, List.length_append, Nat.add_assoc, dk_len, st_get0, st_get1, st_get2, st_set0, st_set1, st_set2, Option.some.injEq, exists_eq_left', exists_eq_left, SV.d.injEq, PyData.bool.injEq, SV.ref.injEq, reduceCtorEq, false_and, and_false, exists_false, or_false, false_or, true_and, and_true, true_implies, false_implies, forall_const, beq_self_eq_true, Bool.true_eq_false, flP_set, flP_asg, flP_par, flP_sti, flP_expr, flP_for, flP_whl, flP_rets, bop_pow6, bop_pow9, bfn_max2, bfn_min2, bfn_tupL, bfn_tupT, bfn_lenL, bfn_lenT, bfn_listL, bfn_listT, bfn_intB, bfn_intI, SV.d.injEq, PyData.str.injEq, PyData.int.injEq, exm0, exm1, exists_and_right, mg0, mg1, mg2, ms0, ms1, ms2, noxK, flP_ifs]
    unfold grps
    rw [List.map_map]
    refine FlP.forT (f := fun x => grpD (x, S.filter fun s => hdS d s == x)) (fun pr r m' => r = [none, some (.d (.int (d : Nat))), some (.ref m.length), none, none, none, none, none, none, none] ∧ m' = m ++ (.lst ((pr.map (knotU (dropS d S))).map knD) :: c')) ⟨rfl, rfl⟩ ?_ ?_
    · rintro pr x post r m' e ⟨rfl, rfl⟩
      have hpr : pr.length ≤ 900 := by
        have h1 := congrArg List.length e
        have h2 : ∀ {xs ns : List (List Nat)}, (nubF ns xs).length ≤ ns.length + xs.length := by
          intro xs
          induction xs with
          | nil => intro ns; exact Nat.le_refl _
          | cons y xs ih =>
            intro ns
            show (nubF (if y ∈ ns then ns else ns ++ [y]) xs).length ≤ _
            split
            · have := ih (ns := ns); rw [List.length_cons]; omega
            · have := ih (ns := ns ++ [y]); rw [List.length_append] at this; simp only [List.length_cons, List.length_nil] at this ⊢; omega
        have h3 := h2 (xs := S.map (hdS d)) (ns := [])
        rw [List.length_map, List.length_nil] at h3
        unfold nub at h1
        rw [List.length_append, List.length_cons] at h1
        omega
      have own := own_drop (x := x) hd
      have rest := rest_drop (x := x) hd
      have hfl : (S.filter fun s => hdS d s == x).length ≤ S.length := List.length_filter_le _ _
      have hsr2 := srt_rest (x := x) hd hsr
      have hS2 : ∀ s ∈ (S.filter fun s => hdS d s == x).filter (fun s => decide ((d : Int) + 1 < ((s.1.length : Nat) : Int))), d + 1 < s.1.length ∧ s.1.length ≤ d + 1 + D ∧ s.1.length ≤ 100 := fun s hs => by
        obtain ⟨h1, h2⟩ := List.mem_filter.mp hs
        have := hS s (List.mem_filter.mp h1).1
        have h2 : (d : Int) + 1 < ((s.1.length : Nat) : Int) := by simpa using h2
        omega
      have hl1 : ((S.filter fun s => hdS d s == x).filter fun s => ((s.1.length : Nat) : Int) == (d : Int) + 1).length ≤ 900 := by
        have := List.length_filter_le (fun s : Smp => ((s.1.length : Nat) : Int) == (d : Int) + 1) (S.filter fun s => hdS d s == x)
        omega
      have hl2 : ((S.filter fun s => hdS d s == x).filter fun s => decide ((d : Int) + 1 < ((s.1.length : Nat) : Int))).length ≤ 900 := by
        have := List.length_filter_le (fun s : Smp => decide ((d : Int) + 1 < ((s.1.length : Nat) : Int))) (S.filter fun s => hdS d s == x)
        omega
      have ed : ((d : Nat) : Int) + 1 = ((d + 1 : Nat) : Int) := by omega
      have c78 : ∀ m, callI G (n + (D + 2)) 78 [.d (.list (((S.filter fun s => hdS d s == x).filter fun s => decide ((d : Int) + 1 < ((s.1.length : Nat) : Int))).map smD)), .d (.int ((d : Int) + 1))] m = .ok (.d (trD (treeOf (tailS x (dropS d S))))) m := fun m => by
        rw [← rest]
        exact ih (m := m) (.inr rfl) hS2 hsr2 hl2
      have htl : (tailS x (dropS d S)).length ≤ 900 := by rw [← rest]; unfold dropS; rw [List.length_map]; exact hl2
      have htp : ∀ s ∈ tailS x (dropS d S), s.1.length ≤ 100 := fun s hs => by
        rw [← rest] at hs
        obtain ⟨t, ht, rfl⟩ := List.mem_map.mp hs
        have := (hS2 t ht).2.2
        show (t.1.drop (d + 1)).length ≤ 100
        rw [List.length_drop]; omega
      have c60 : ∀ m, callI G (n + (D + 2)) 60 [.d (trD (treeOf (tailS x (dropS d S))))] m = .ok (.d (.int (sumS (tailS x (dropS d S))))) m := fun m => by
        rw [← all_tree tail_ne]
        have h1 := len_topT (t := treeOf (tailS x (dropS d S)))
        have h2 := len_rws tail_ne htp
        exact allof_e (n := n + D + 1) h60 (by omega)
      have hap : mmu .append ((pr.map (knotU (dropS d S))).map knD) [knD (knotU (dropS d S) x)] = some (((pr ++ [x]).map (knotU (dropS d S))).map knD, .none) := by
        rw [app_mmu (by rw [List.length_map, List.length_map]; omega), List.map_append, List.map_append]; rfl
      simp only [↓ev_comp, ↓flP_retS, ↓outP_and, ↓outP_or, ↓outP_ite, ↓outP_cmp2, flP_of, flP_next, flP_ret, flP_bad, flP_nil, outP_ok, outP_bad, outP_of, outP_bind, outP_nox, ok_bind, ok_of, of_some, open_none, ex, ev, evs, evo, evT, evI, dat, datX, datP, datAll, dOf, seqI, lockM, openM, boxK, freshE, retOk, asgT_nm, asgT_tup, asgT_lst, asgTs_nil, asgTs_cons, List.map_cons, List.map_nil, List.cons_append, List.nil_append, List.getElem?_cons_zero, List.getElem?_cons_succ, List.length_cons, List.length_nil, List.replicate, Option.bind_some, Option.map_some, Option.isSome_some, List.set_cons_zero, List.set_cons_succ, Nat.zero_add, Nat.reduceAdd, Nat.reduceSub, Nat.reduceLT, Nat.reduceLeDiff, Nat.reduceEqDiff, Int.reduceNeg, Int.reduceLT, Int.reduceLE, Int.reduceAdd, Int.reduceSub, decide_true, decide_false, Bool.and_self, Bool.and_true, Bool.true_and, Bool.and_false, Bool.false_and, Bool.or_true, Bool.true_or, Bool.or_false, Bool.false_or, Bool.not_true, Bool.not_false, ↓reduceIte, Bool.false_eq_true, truD, bop_addI, bop_subI, bop_mulI, bop_modI, bop_fdivI, bop_pow18, bop_addT, bop_addL, cop_eq, cop_ne, cop_ltI, cop_leI, cop_gtI, cop_geI, eqD_ii, eqD_ss, eqD_bb, fits_lit, recvOk, recvOk.isL, isMut, isDic, killR, List.foldl, List.append_assoc, List.length_append, Nat.add_assoc, dk_len, st_get0, st_get1, st_get2, st_set0, st_set1, st_set2, Option.some.injEq, exists_eq_left', exists_eq_left, SV.d.injEq, PyData.bool.injEq, SV.ref.injEq, reduceCtorEq, false_and, and_false, exists_false, or_false, false_or, true_and, and_true, true_implies, false_implies, forall_const, beq_self_eq_true, Bool.true_eq_false, flP_set, flP_asg, flP_par, flP_sti, flP_expr, flP_for, flP_whl, flP_rets, bop_pow6, bop_pow9, bfn_max2, bfn_min2, bfn_tupL, bfn_tupT, bfn_lenL, bfn_lenT, bfn_listL, bfn_listT, bfn_intB, bfn_intI, SV.d.injEq, PyData.str.injEq, PyData.int.injEq, exm0, exm1, exists_and_right, mg0, mg1, mg2, ms0, ms1, ms2, noxK, flP_ifs, grpD]
      refine OutP.compF (f := smD) (as := S.filter fun s => hdS d s == x) (fun s => ((s.1.length : Nat) : Int) == (d : Int) + 1) (fun s => .int s.2) (fun s hs => ⟨?_, fun _ => ?_⟩) ?_
      · simp only [tstF, ↓flP_retS, ↓outP_and, ↓outP_or, ↓outP_ite, ↓outP_cmp2, flP_of, flP_next, flP_ret, flP_bad, flP_nil, outP_ok, outP_bad, outP_of, outP_bind, outP_nox, ok_bind, ok_of, of_some, open_none, ex, ev, evs, evo, evT, evI, dat, datX, datP, datAll, dOf, seqI, lockM, openM, boxK, freshE, retOk, asgT_nm, asgT_tup, asgT_lst, asgTs_nil, asgTs_cons, List.map_cons, List.map_nil, List.cons_append, List.nil_append, List.getElem?_cons_zero, List.getElem?_cons_succ, List.length_cons, List.length_nil, List.replicate, Option.bind_some, Option.map_some, Option.isSome_some, List.set_cons_zero, List.set_cons_succ, Nat.zero_add, Nat.reduceAdd, Nat.reduceSub, Nat.reduceLT, Nat.reduceLeDiff, Nat.reduceEqDiff, Int.reduceNeg, Int.reduceLT, Int.reduceLE, Int.reduceAdd, Int.reduceSub, decide_true, decide_false, Bool.and_self, Bool.and_true, Bool.true_and, Bool.and_false, Bool.false_and, Bool.or_true, Bool.true_or, Bool.or_false, Bool.false_or, Bool.not_true, Bool.not_false, ↓reduceIte, Bool.false_eq_true, truD, bop_addI, bop_subI, bop_mulI, bop_modI, bop_fdivI, bop_pow18, bop_addT, bop_addL, cop_eq, cop_ne, cop_ltI, cop_leI, cop_gtI, cop_geI, eqD_ii, eqD_ss, eqD_bb, fits_lit, recvOk, recvOk.isL, isMut, isDic, killR, List.foldl, List.append_assoc, List.length_append, Nat.add_assoc, dk_len, st_get0, st_get1, st_get2, st_set0, st_set1, st_set2, Option.some.injEq, exists_eq_left', exists_eq_left, SV.d.injEq, PyData.bool.injEq, SV.ref.injEq, reduceCtorEq, false_and, and_false, exists_false, or_false, false_or, true_and, and_true, true_implies, false_implies, forall_const, beq_self_eq_true, Bool.true_eq_false, flP_set, flP_asg, flP_par, flP_sti, flP_expr, flP_for, flP_whl, flP_rets, bop_pow6, bop_pow9, bfn_max2, bfn_min2, bfn_tupL, bfn_tupT, bfn_lenL, bfn_lenT, bfn_listL, bfn_listT, bfn_intB, bfn_intI, SV.d.injEq, PyData.str.injEq, PyData.int.injEq, exm0, exm1, exists_and_right, mg0, mg1, mg2, ms0, ms1, ms2, noxK, flP_ifs, smD, len_pl, noxK]
      · simp only [eltF, ↓flP_retS, ↓outP_and, ↓outP_or, ↓outP_ite, ↓outP_cmp2, flP_of, flP_next, flP_ret, flP_bad, flP_nil, outP_ok, outP_bad, outP_of, outP_bind, outP_nox, ok_bind, ok_of, of_some, open_none, ex, ev, evs, evo, evT, evI, dat, datX, datP, datAll, dOf, seqI, lockM, openM, boxK, freshE, retOk, asgT_nm, asgT_tup, asgT_lst, asgTs_nil, asgTs_cons, List.map_cons, List.map_nil, List.cons_append, List.nil_append, List.getElem?_cons_zero, List.getElem?_cons_succ, List.length_cons, List.length_nil, List.replicate, Option.bind_some, Option.map_some, Option.isSome_some, List.set_cons_zero, List.set_cons_succ, Nat.zero_add, Nat.reduceAdd, Nat.reduceSub, Nat.reduceLT, Nat.reduceLeDiff, Nat.reduceEqDiff, Int.reduceNeg, Int.reduceLT, Int.reduceLE, Int.reduceAdd, Int.reduceSub, decide_true, decide_false, Bool.and_self, Bool.and_true, Bool.true_and, Bool.and_false, Bool.false_and, Bool.or_true, Bool.true_or, Bool.or_false, Bool.false_or, Bool.not_true, Bool.not_false, ↓reduceIte, Bool.false_eq_true, truD, bop_addI, bop_subI, bop_mulI, bop_modI, bop_fdivI, bop_pow18, bop_addT, bop_addL, cop_eq, cop_ne, cop_ltI, cop_leI, cop_gtI, cop_geI, eqD_ii, eqD_ss, eqD_bb, fits_lit, recvOk, recvOk.isL, isMut, isDic, killR, List.foldl, List.append_assoc, List.length_append, Nat.add_assoc, dk_len, st_get0, st_get1, st_get2, st_set0, st_set1, st_set2, Option.some.injEq, exists_eq_left', exists_eq_left, SV.d.injEq, PyData.bool.injEq, SV.ref.injEq, reduceCtorEq, false_and, and_false, exists_false, or_false, false_or, true_and, and_true, true_implies, false_implies, forall_const, beq_self_eq_true, Bool.true_eq_false, flP_set, flP_asg, flP_par, flP_sti, flP_expr, flP_for, flP_whl, flP_rets, bop_pow6, bop_pow9, bfn_max2, bfn_min2, bfn_tupL, bfn_tupT, bfn_lenL, bfn_lenT, bfn_listL, bfn_listT, bfn_intB, bfn_intI, SV.d.injEq, PyData.str.injEq, PyData.int.injEq, exm0, exm1, exists_and_right, mg0, mg1, mg2, ms0, ms1, ms2, noxK, flP_ifs, smD, noxK]
      have hf1 : fitsN (((S.filter fun s => hdS d s == x).filter fun s => ((s.1.length : Nat) : Int) == (d : Int) + 1).map fun s => PyData.int s.2).length = true := fits_lit (by rw [List.length_map]; omega)
      have es1 : bfn .sum [.list (((S.filter fun s => hdS d s == x).filter fun s => ((s.1.length : Nat) : Int) == (d : Int) + 1).map fun s => PyData.int s.2)] = some (.int (cnt (dropS d S) [x])) := by rw [bfn_sumM, own]
      simp only [↓ev_comp, ↓flP_retS, ↓outP_and, ↓outP_or, ↓outP_ite, ↓outP_cmp2, flP_of, flP_next, flP_ret, flP_bad, flP_nil, outP_ok, outP_bad, outP_of, outP_bind, outP_nox, ok_bind, ok_of, of_some, open_none, ex, ev, evs, evo, evT, evI, dat, datX, datP, datAll, dOf, seqI, lockM, openM, boxK, freshE, retOk, asgT_nm, asgT_tup, asgT_lst, asgTs_nil, asgTs_cons, List.map_cons, List.map_nil, List.cons_append, List.nil_append, List.getElem?_cons_zero, List.getElem?_cons_succ, List.length_cons, List.length_nil, List.replicate, Option.bind_some, Option.map_some, Option.isSome_some, List.set_cons_zero, List.set_cons_succ, Nat.zero_add, Nat.reduceAdd, Nat.reduceSub, Nat.reduceLT, Nat.reduceLeDiff, Nat.reduceEqDiff, Int.reduceNeg, Int.reduceLT, Int.reduceLE, Int.reduceAdd, Int.reduceSub, decide_true, decide_false, Bool.and_self, Bool.and_true, Bool.true_and, Bool.and_false, Bool.false_and, Bool.or_true, Bool.true_or, Bool.or_false, Bool.false_or, Bool.not_true, Bool.not_false, ↓reduceIte, Bool.false_eq_true, truD, bop_addI, bop_subI, bop_mulI, bop_modI, bop_fdivI, bop_pow18, bop_addT, bop_addL, cop_eq, cop_ne, cop_ltI, cop_leI, cop_gtI, cop_geI, eqD_ii, eqD_ss, eqD_bb, fits_lit, recvOk, recvOk.isL, isMut, isDic, killR, List.foldl, List.append_assoc, List.length_append, Nat.add_assoc, dk_len, st_get0, st_get1, st_get2, st_set0, st_set1, st_set2, Option.some.injEq, exists_eq_left', exists_eq_left, SV.d.injEq, PyData.bool.injEq, SV.ref.injEq, reduceCtorEq, false_and, and_false, exists_false, or_false, false_or, true_and, and_true, true_implies, false_implies, forall_const, beq_self_eq_true, Bool.true_eq_false, flP_set, flP_asg, flP_par, flP_sti, flP_expr, flP_for, flP_whl, flP_rets, bop_pow6, bop_pow9, bfn_max2, bfn_min2, bfn_tupL, bfn_tupT, bfn_lenL, bfn_lenT, bfn_listL, bfn_listT, bfn_intB, bfn_intI, SV.d.injEq, PyData.str.injEq, PyData.int.injEq, exm0, exm1, exists_and_right, mg0, mg1, mg2, ms0, ms1, ms2, noxK, flP_ifs, hf1, es1]
      refine OutP.compF (f := smD) (as := S.filter fun s => hdS d s == x) (fun s => decide ((d : Int) + 1 < ((s.1.length : Nat) : Int))) smD (fun s hs => ⟨?_, fun _ => ?_⟩) ?_
      · have e0 : ixD (.tuple [plD s.1, .int s.2]) (.int 0) = some (plD s.1) := rfl
        simp only [tstF, ↓flP_retS, ↓outP_and, ↓outP_or, ↓outP_ite, ↓outP_cmp2, flP_of, flP_next, flP_ret, flP_bad, flP_nil, outP_ok, outP_bad, outP_of, outP_bind, outP_nox, ok_bind, ok_of, of_some, open_none, ex, ev, evs, evo, evT, evI, dat, datX, datP, datAll, dOf, seqI, lockM, openM, boxK, freshE, retOk, asgT_nm, asgT_tup, asgT_lst, asgTs_nil, asgTs_cons, List.map_cons, List.map_nil, List.cons_append, List.nil_append, List.getElem?_cons_zero, List.getElem?_cons_succ, List.length_cons, List.length_nil, List.replicate, Option.bind_some, Option.map_some, Option.isSome_some, List.set_cons_zero, List.set_cons_succ, Nat.zero_add, Nat.reduceAdd, Nat.reduceSub, Nat.reduceLT, Nat.reduceLeDiff, Nat.reduceEqDiff, Int.reduceNeg, Int.reduceLT, Int.reduceLE, Int.reduceAdd, Int.reduceSub, decide_true, decide_false, Bool.and_self, Bool.and_true, Bool.true_and, Bool.and_false, Bool.false_and, Bool.or_true, Bool.true_or, Bool.or_false, Bool.false_or, Bool.not_true, Bool.not_false, ↓reduceIte, Bool.false_eq_true, truD, bop_addI, bop_subI, bop_mulI, bop_modI, bop_fdivI, bop_pow18, bop_addT, bop_addL, cop_eq, cop_ne, cop_ltI, cop_leI, cop_gtI, cop_geI, eqD_ii, eqD_ss, eqD_bb, fits_lit, recvOk, recvOk.isL, isMut, isDic, killR, List.foldl, List.append_assoc, List.length_append, Nat.add_assoc, dk_len, st_get0, st_get1, st_get2, st_set0, st_set1, st_set2, Option.some.injEq, exists_eq_left', exists_eq_left, SV.d.injEq, PyData.bool.injEq, SV.ref.injEq, reduceCtorEq, false_and, and_false, exists_false, or_false, false_or, true_and, and_true, true_implies, false_implies, forall_const, beq_self_eq_true, Bool.true_eq_false, flP_set, flP_asg, flP_par, flP_sti, flP_expr, flP_for, flP_whl, flP_rets, bop_pow6, bop_pow9, bfn_max2, bfn_min2, bfn_tupL, bfn_tupT, bfn_lenL, bfn_lenT, bfn_listL, bfn_listT, bfn_intB, bfn_intI, SV.d.injEq, PyData.str.injEq, PyData.int.injEq, exm0, exm1, exists_and_right, mg0, mg1, mg2, ms0, ms1, ms2, noxK, flP_ifs, smD, e0, len_pl, noxK]
      · simp only [eltF, ↓flP_retS, ↓outP_and, ↓outP_or, ↓outP_ite, ↓outP_cmp2, flP_of, flP_next, flP_ret, flP_bad, flP_nil, outP_ok, outP_bad, outP_of, outP_bind, outP_nox, ok_bind, ok_of, of_some, open_none, ex, ev, evs, evo, evT, evI, dat, datX, datP, datAll, dOf, seqI, lockM, openM, boxK, freshE, retOk, asgT_nm, asgT_tup, asgT_lst, asgTs_nil, asgTs_cons, List.map_cons, List.map_nil, List.cons_append, List.nil_append, List.getElem?_cons_zero, List.getElem?_cons_succ, List.length_cons, List.length_nil, List.replicate, Option.bind_some, Option.map_some, Option.isSome_some, List.set_cons_zero, List.set_cons_succ, Nat.zero_add, Nat.reduceAdd, Nat.reduceSub, Nat.reduceLT, Nat.reduceLeDiff, Nat.reduceEqDiff, Int.reduceNeg, Int.reduceLT, Int.reduceLE, Int.reduceAdd, Int.reduceSub, decide_true, decide_false, Bool.and_self, Bool.and_true, Bool.true_and, Bool.and_false, Bool.false_and, Bool.or_true, Bool.true_or, Bool.or_false, Bool.false_or, Bool.not_true, Bool.not_false, ↓reduceIte, Bool.false_eq_true, truD, bop_addI, bop_subI, bop_mulI, bop_modI, bop_fdivI, bop_pow18, bop_addT, bop_addL, cop_eq, cop_ne, cop_ltI, cop_leI, cop_gtI, cop_geI, eqD_ii, eqD_ss, eqD_bb, fits_lit, recvOk, recvOk.isL, isMut, isDic, killR, List.foldl, List.append_assoc, List.length_append, Nat.add_assoc, dk_len, st_get0, st_get1, st_get2, st_set0, st_set1, st_set2, Option.some.injEq, exists_eq_left', exists_eq_left, SV.d.injEq, PyData.bool.injEq, SV.ref.injEq, reduceCtorEq, false_and, and_false, exists_false, or_false, false_or, true_and, and_true, true_implies, false_implies, forall_const, beq_self_eq_true, Bool.true_eq_false, flP_set, flP_asg, flP_par, flP_sti, flP_expr, flP_for, flP_whl, flP_rets, bop_pow6, bop_pow9, bfn_max2, bfn_min2, bfn_tupL, bfn_tupT, bfn_lenL, bfn_lenT, bfn_listL, bfn_listT, bfn_intB, bfn_intI, SV.d.injEq, PyData.str.injEq, PyData.int.injEq, exm0, exm1, exists_and_right, mg0, mg1, mg2, ms0, ms1, ms2, noxK, flP_ifs, smD, noxK]
      have hf2 : fitsN (((S.filter fun s => hdS d s == x).filter fun s => decide ((d : Int) + 1 < ((s.1.length : Nat) : Int))).map smD).length = true := fits_lit (by rw [List.length_map]; omega)
      have hkn : PyData.tuple [nmD x, .int (cnt (dropS d S) [x]), .int (cnt (dropS d S) [x] + sumS (tailS x (dropS d S))), trD (treeOf (tailS x (dropS d S)))] = knD (knotU (dropS d S) x) := rfl
      simp only [↓flP_retS, ↓outP_and, ↓outP_or, ↓outP_ite, ↓outP_cmp2, flP_of, flP_next, flP_ret, flP_bad, flP_nil, outP_ok, outP_bad, outP_of, outP_bind, outP_nox, ok_bind, ok_of, of_some, open_none, ex, ev, evs, evo, evT, evI, dat, datX, datP, datAll, dOf, seqI, lockM, openM, boxK, freshE, retOk, asgT_nm, asgT_tup, asgT_lst, asgTs_nil, asgTs_cons, List.map_cons, List.map_nil, List.cons_append, List.nil_append, List.getElem?_cons_zero, List.getElem?_cons_succ, List.length_cons, List.length_nil, List.replicate, Option.bind_some, Option.map_some, Option.isSome_some, List.set_cons_zero, List.set_cons_succ, Nat.zero_add, Nat.reduceAdd, Nat.reduceSub, Nat.reduceLT, Nat.reduceLeDiff, Nat.reduceEqDiff, Int.reduceNeg, Int.reduceLT, Int.reduceLE, Int.reduceAdd, Int.reduceSub, decide_true, decide_false, Bool.and_self, Bool.and_true, Bool.true_and, Bool.and_false, Bool.false_and, Bool.or_true, Bool.true_or, Bool.or_false, Bool.false_or, Bool.not_true, Bool.not_false, ↓reduceIte, Bool.false_eq_true, truD, bop_addI, bop_subI, bop_mulI, bop_modI, bop_fdivI, bop_pow18, bop_addT, bop_addL, cop_eq, cop_ne, cop_ltI, cop_leI, cop_gtI, cop_geI, eqD_ii, eqD_ss, eqD_bb, fits_lit, recvOk, recvOk.isL, isMut, isDic, killR, List.foldl, List.append_assoc, List.length_append, Nat.add_assoc, dk_len, st_get0, st_get1, st_get2, st_set0, st_set1, st_set2, Option.some.injEq, exists_eq_left', exists_eq_left, SV.d.injEq, PyData.bool.injEq, SV.ref.injEq, reduceCtorEq, false_and, and_false, exists_false, or_false, false_or, true_and, and_true, true_implies, false_implies, forall_const, beq_self_eq_true, Bool.true_eq_false, flP_set, flP_asg, flP_par, flP_sti, flP_expr, flP_for, flP_whl, flP_rets, bop_pow6, bop_pow9, bfn_max2, bfn_min2, bfn_tupL, bfn_tupT, bfn_lenL, bfn_lenT, bfn_listL, bfn_listT, bfn_intB, bfn_intI, SV.d.injEq, PyData.str.injEq, PyData.int.injEq, exm0, exm1, exists_and_right, mg0, mg1, mg2, ms0, ms1, ms2, noxK, flP_ifs, hf2, c78, c60, hkn, hap]
    · rintro r m' ⟨rfl, rfl⟩
      have et := tree_grps hd hsr
      simp only [↓flP_retS, ↓outP_and, ↓outP_or, ↓outP_ite, ↓outP_cmp2, flP_of, flP_next, flP_ret, flP_bad, flP_nil, outP_ok, outP_bad, outP_of, outP_bind, outP_nox, ok_bind, ok_of, of_some, open_none, ex, ev, evs, evo, evT, evI, dat, datX, datP, datAll, dOf, seqI, lockM, openM, boxK, freshE, retOk, asgT_nm, asgT_tup, asgT_lst, asgTs_nil, asgTs_cons, List.map_cons, List.map_nil, List.cons_append, List.nil_append, List.getElem?_cons_zero, List.getElem?_cons_succ, List.length_cons, List.length_nil, List.replicate, Option.bind_some, Option.map_some, Option.isSome_some, List.set_cons_zero, List.set_cons_succ, Nat.zero_add, Nat.reduceAdd, Nat.reduceSub, Nat.reduceLT, Nat.reduceLeDiff, Nat.reduceEqDiff, Int.reduceNeg, Int.reduceLT, Int.reduceLE, Int.reduceAdd, Int.reduceSub, decide_true, decide_false, Bool.and_self, Bool.and_true, Bool.true_and, Bool.and_false, Bool.false_and, Bool.or_true, Bool.true_or, Bool.or_false, Bool.false_or, Bool.not_true, Bool.not_false, ↓reduceIte, Bool.false_eq_true, truD, bop_addI, bop_subI, bop_mulI, bop_modI, bop_fdivI, bop_pow18, bop_addT, bop_addL, cop_eq, cop_ne, cop_ltI, cop_leI, cop_gtI, cop_geI, eqD_ii, eqD_ss, eqD_bb, fits_lit, recvOk, recvOk.isL, isMut, isDic, killR, List.foldl, List.append_assoc, List.length_append, Nat.add_assoc, dk_len, st_get0, st_get1, st_get2, st_set0, st_set1, st_set2, Option.some.injEq, exists_eq_left', exists_eq_left, SV.d.injEq, PyData.bool.injEq, SV.ref.injEq, reduceCtorEq, false_and, and_false, exists_false, or_false, false_or, true_and, and_true, true_implies, false_implies, forall_const, beq_self_eq_true, Bool.true_eq_false, flP_set, flP_asg, flP_par, flP_sti, flP_expr, flP_for, flP_whl, flP_rets, bop_pow6, bop_pow9, bfn_max2, bfn_min2, bfn_tupL, bfn_tupT, bfn_lenL, bfn_lenT, bfn_listL, bfn_listT, bfn_intB, bfn_intI, SV.d.injEq, PyData.str.injEq, PyData.int.injEq, exm0, exm1, exists_and_right, mg0, mg1, mg2, ms0, ms1, ms2, noxK, flP_ifs]
      rw [← et, trD_top, top_ofL]
theorem treeof_e (h23 : G 23 = some F23) (h60 : G 60 = some F60) (h77 : G 77 = some F77) (h78 : G 78 = some F78) (h79 : G 79 = some F79) {D : Nat} {S : List Smp} {m : Sto} (h : SsOk S) (hp : ∀ s ∈ S, s.1.length ≤ D) (hD : D ≤ 100) (hl : S.length ≤ 900) :
    callI G (n + D + 3) 79 [.d (ssD S)] m = .ok (.d (trD (treeOf S))) m := by
  have c23 : ∀ m, callI G (n + (D + 2)) 23 [.d (ssD S)] m = .ok (.d (ssD (gath S))) m := fun m => gath_e (n := n + D + 1) h23 rfl rfl rfl rfl h.ne (by omega)
  have key : ∀ s ∈ gath S, ∃ t ∈ S, t.1 = s.1 := fun s hs => by
    obtain ⟨t, ht, e⟩ := List.mem_map.mp (key_gath hs)
    exact ⟨t, ht, e⟩
  have c78 : ∀ m, callI G (n + (D + 2)) 78 [.d (ssD (gath S)), .d (.int 0)] m = .ok (.d (trD (treeOf S))) m := fun m => by
    have := treeb_e (n := n) (D := D) (d := 0) (S := gath S) (m := m) h60 h77 h78 (.inl rfl) (fun s hs => by
      obtain ⟨t, ht, e⟩ := key s hs
      have h1 := h.ne t ht
      have h2 := hp t ht
      rw [e] at h1 h2
      have := List.length_pos_iff.mpr h1
      omega) srt_gath (by have := len_gath (S := S); omega)
    rw [drop0, tree_gath h.ne h.pos] at this
    exact this
  refine callP h79 rfl rfl ?_
  rw [List.append_nil]
  simp only [F79, ↓flP_retS, ↓outP_and, ↓outP_or, ↓outP_ite, ↓outP_cmp2, flP_of, flP_next, flP_ret, flP_bad, flP_nil, outP_ok, outP_bad, outP_of, outP_bind, outP_nox, ok_bind, ok_of, of_some, open_none, ex, ev, evs, evo, evT, evI, dat, datX, datP, datAll, dOf, seqI, lockM, openM, boxK, freshE, retOk, asgT_nm, asgT_tup, asgT_lst, asgTs_nil, asgTs_cons, List.map_cons, List.map_nil, List.cons_append, List.nil_append, List.getElem?_cons_zero, List.getElem?_cons_succ, List.length_cons, List.length_nil, List.replicate, Option.bind_some, Option.map_some, Option.isSome_some, List.set_cons_zero, List.set_cons_succ, Nat.zero_add, Nat.reduceAdd, Nat.reduceSub, Nat.reduceLT, Nat.reduceLeDiff, Nat.reduceEqDiff, Int.reduceNeg, Int.reduceLT, Int.reduceLE, Int.reduceAdd, Int.reduceSub, decide_true, decide_false, Bool.and_self, Bool.and_true, Bool.true_and, Bool.and_false, Bool.false_and, Bool.or_true, Bool.true_or, Bool.or_false, Bool.false_or, Bool.not_true, Bool.not_false, ↓reduceIte, Bool.false_eq_true, truD, bop_addI, bop_subI, bop_mulI, bop_modI, bop_fdivI, bop_pow18, bop_addT, bop_addL, cop_eq, cop_ne, cop_ltI, cop_leI, cop_gtI, cop_geI, eqD_ii, eqD_ss, eqD_bb, fits_lit, recvOk, recvOk.isL, isMut, isDic, killR, List.foldl, List.append_assoc, List.length_append, Nat.add_assoc, dk_len, st_get0, st_get1, st_get2, st_set0, st_set1, st_set2, Option.some.injEq, exists_eq_left', exists_eq_left, SV.d.injEq, PyData.bool.injEq, SV.ref.injEq, reduceCtorEq, false_and, and_false, exists_false, or_false, false_or, true_and, and_true, true_implies, false_implies, forall_const, beq_self_eq_true, Bool.true_eq_false, flP_set, flP_asg, flP_par, flP_sti, flP_expr, flP_for, flP_whl, flP_rets, bop_pow6, bop_pow9, bfn_max2, bfn_min2, bfn_tupL, bfn_tupT, bfn_lenL, bfn_lenT, bfn_listL, bfn_listT, bfn_intB, bfn_intI, SV.d.injEq, PyData.str.injEq, PyData.int.injEq, exm0, exm1, exists_and_right, mg0, mg1, mg2, ms0, ms1, ms2, noxK, flP_ifs, c23, c78]
  try rfl
end
end Pil

set_option Elab.async false
set_option linter.all false
set_option autoImplicit false
set_option maxRecDepth 100000
set_option maxHeartbeats 4000000
namespace Pil
open PySem PySem.Spec PyProof.Rows L2
def F90 : Fn := { nm := "samples_of", ps := ["tree"], ns := ["tree", "way", "own", "every"], keep := false, body := (.cons (.ret (.blt .tuple (.cons (.comp [1, 2, 3] (.tp (.cons (.nm 1) (.cons (.nm 2) (.cons (.nm 3) .nil)))) (.seq (.call 87 (.cons (.var 0) .nil))) (.some (.cmp .gt (.var 2) (.cst (.int 0)))) (.tup (.cons (.var 1) (.cons (.var 2) .nil)))) .nil)))
  .nil) }
def F91 : Fn := { nm := "total_of", ps := ["tree"], ns := ["tree"], keep := false, body := (.cons (.ret (.call 60 (.cons (.var 0) .nil)))
  .nil) }
section
variable {G : Nat → Option Fn} {n : Nat}
/-! ### trees, compared and shown -/
theorem plN_kn : ∀ {k : Nat} {t : Tr}, 2 * depT t ≤ k → (rws t).length ≤ 100000 → ∀ x ∈ trL t, PlN k x
  | _, .nil, _, _, x, h => by cases h
  | k, .cons y o a b r, hk, hr, x, h => by
    have e : trL (.cons y o a b r) = .tuple [nmD y, .int o, .int a, .tuple (trL b)] :: trL r := rfl
    have hd : depT (.cons y o a b r) = max (depT b + 1) (depT r) := rfl
    have hrw : (rws (.cons y o a b r)).length = (rws b).length + (rws r).length + 1 := by simp only [rws, List.length_cons, List.length_append, List.length_map]
    rw [e] at h
    rcases List.mem_cons.mp h with rfl | h
    · obtain ⟨j, rfl⟩ : ∃ j, k = j + 2 := ⟨k - 2, by omega⟩
      have hb := plN_kn (k := j) (t := b) (by omega) (by omega)
      rw [PlN]
      refine .inr ⟨_, rfl, by show 4 ≤ _; decide, fun z hz => ?_⟩
      simp only [List.mem_cons, List.not_mem_nil, or_false] at hz
      rcases hz with rfl | rfl | rfl | rfl
      · rw [PlN]; simp [PlN, nmD]
      · rw [PlN]; simp [PlN]
      · rw [PlN]; simp [PlN]
      · rw [PlN]
        refine .inr ⟨_, rfl, ?_, hb⟩
        have h1 := len_topT (t := b)
        rw [trL_top, List.length_map]; omega
    · exact plN_kn (t := r) (by omega) (by omega) x h
theorem plN_tr {k : Nat} {t : Tr} (hk : 2 * depT t ≤ k) (hr : (rws t).length ≤ 100000) : PlN (k + 1) (trD t) := by
  rw [PlN]
  refine .inr ⟨_, rfl, ?_, plN_kn hk hr⟩
  have h1 := len_topT (t := t)
  rw [trL_top, List.length_map]; omega
theorem tupText_p {ts : List Str} : (tupleText ts).length ≤ piled ts + 3 := by
  have hj : (Str.join ", " ts).length ≤ piled ts := by
    cases ts with
    | nil => exact Nat.zero_le _
    | cons t r => have := join_length_add (t :: r) (by simp); omega
  unfold tupleText
  rw [strLen_append, strLen_append]
  have e1 : (("(" : String) : Str).length = 1 := rfl
  have e2 : ((if ts.length == 1 then ",)" else ")" : String) : Str).length ≤ 2 := by split <;> decide
  omega
/-- the numbers of a tree are small -/
def NumT : Tr → Prop
  | .nil => True
  | .cons _ o a b r => (0 ≤ o ∧ o < 10 ^ 12) ∧ (0 ≤ a ∧ a < 10 ^ 12) ∧ NumT b ∧ NumT r
theorem shw_tr : ∀ {t : Tr}, NmT t → NumT t → (∀ x ∈ trL t, x.showable = true ∧ x.hasDict = false) ∧ piled (PyData.shownAll (trL t)) ≤ 400 * (rws t).length
  | .nil, _, _ => ⟨(fun x h => by cases h), by
      have e : PyData.shownAll (trL .nil) = [] := by show PyData.shownAll [] = []; rw [PyData.shownAll]
      rw [e]; exact Nat.zero_le _⟩
  | .cons y o a b r, hn, hu => by
    obtain ⟨hb1, hb2⟩ := shw_tr (t := b) hn.2.1 hu.2.2.1
    obtain ⟨hr1, hr2⟩ := shw_tr (t := r) hn.2.2 hu.2.2.2
    have e : trL (.cons y o a b r) = .tuple [nmD y, .int o, .int a, .tuple (trL b)] :: trL r := rfl
    have hrw : (rws (.cons y o a b r)).length = (rws b).length + (rws r).length + 1 := by simp only [rws, List.length_cons, List.length_append, List.length_map]
    have s1 := Shw.nm hn.1
    have s2 := Shw.int hu.1.1 hu.1.2
    have s3 := Shw.int hu.2.1.1 hu.2.1.2
    obtain ⟨ab, dbb⟩ := able_tup hb1
    have s4 : (PyData.tuple (trL b)).showable = true ∧ (PyData.tuple (trL b)).hasDict = false := ⟨by simp [PyData.showable, ab], by simp [PyData.hasDict, dbb]⟩
    have l4 : (PyData.tuple (trL b)).shown.length ≤ 400 * (rws b).length + 3 := by
      have := tupText_p (ts := PyData.shownAll (trL b))
      simp only [PyData.shown]
      omega
    rw [e]
    refine ⟨fun x hx => ?_, ?_⟩
    · rcases List.mem_cons.mp hx with rfl | hx
      · have := able_tup (xs := [nmD y, .int o, .int a, .tuple (trL b)]) fun z hz => by
          simp only [List.mem_cons, List.not_mem_nil, or_false] at hz
          rcases hz with rfl | rfl | rfl | rfl
          · exact ⟨s1.a, s1.b⟩
          · exact ⟨s2.a, s2.b⟩
          · exact ⟨s3.a, s3.b⟩
          · exact s4
        exact ⟨by simp only [PyData.showable]; exact this.1, by simp only [PyData.hasDict]; exact this.2⟩
      · exact hr1 x hx
    · have lk : (PyData.tuple [nmD y, .int o, .int a, .tuple (trL b)]).shown.length ≤ 400 * (rws b).length + 320 := by
        have := tupText_p (ts := PyData.shownAll [nmD y, .int o, .int a, .tuple (trL b)])
        have c1 := s1.c
        have c2 := s2.c
        have c3 := s3.c
        have e0 : piled ([] : List Str) = 0 := rfl
        have e4 : piled (PyData.shownAll [nmD y, .int o, .int a, .tuple (trL b)]) = (nmD y).shown.length + 2 + ((PyData.int o).shown.length + 2 + ((PyData.int a).shown.length + 2 + ((PyData.tuple (trL b)).shown.length + 2 + 0))) := by
          simp only [PyData.shownAll, piled_cons, e0]
        rw [e4] at this
        have e5 : (PyData.tuple [nmD y, .int o, .int a, .tuple (trL b)]).shown = tupleText (PyData.shownAll [nmD y, .int o, .int a, .tuple (trL b)]) := by rw [PyData.shown]
        rw [e5]
        omega
      have e6 : PyData.shownAll (.tuple [nmD y, .int o, .int a, .tuple (trL b)] :: trL r) = (PyData.tuple [nmD y, .int o, .int a, .tuple (trL b)]).shown :: PyData.shownAll (trL r) := by rw [PyData.shownAll]
      rw [e6, piled_cons, hrw]
      omega
theorem Shw.tr {N : Nat} {t : Tr} (hn : NmT t) (hu : NumT t) (hr : 400 * (rws t).length + 3 ≤ N) : Shw N (trD t) := by
  obtain ⟨h1, h2⟩ := shw_tr hn hu
  obtain ⟨h3, h4⟩ := able_tup h1
  refine ⟨by simp [trD, PyData.showable, h3], by simp [trD, PyData.hasDict, h4], ?_⟩
  have := tupText_p (ts := PyData.shownAll (trL t))
  show (PyData.tuple (trL t)).shown.length ≤ N
  simp only [PyData.shown]
  omega
theorem repr_of {N : Nat} {d : PyData} (h : Shw N d) (hN : N ≤ 16777216) (hd : d.depth ≤ 60) (hp : dispD d = true) : bfn .repr [d] = some (.str d.shown) := by
  show (if d.showable && !d.hasDict && dispD d && decide (d.depth ≤ 60) && fitsN d.shown.length then some (PyData.str d.shown) else none) = _
  rw [h.a, h.b, decide_eq_true hd, hp, fits_lit (Nat.le_trans h.c hN)]; rfl
theorem num_chain : ∀ {p : Pile} {c : Int}, 0 ≤ c → c < 10 ^ 12 → NumT (chainT p c)
  | [], _, _, _ => trivial
  | x :: p, c, h1, h2 => by
    refine ⟨?_, ⟨h1, h2⟩, num_chain h1 h2, trivial⟩
    show 0 ≤ (if p = [] then c else 0) ∧ (if p = [] then c else 0) < 10 ^ 12
    split <;> omega
theorem num_look : ∀ {t : Tr}, SoT t → (∀ q z, lookT t q = some z → (0 ≤ z.1 ∧ z.1 < 10 ^ 12) ∧ (0 ≤ z.2 ∧ z.2 < 10 ^ 12)) → NumT t
  | .nil, _, _ => trivial
  | .cons y o a b r, hs, h => by
    obtain ⟨h1, h2⟩ := h [y] (o, a) look_one
    refine ⟨h1, h2, num_look hs.2.1 fun q z e => ?_, num_look hs.2.2 fun q z e => ?_⟩
    · cases q with
      | nil => rw [look_empty] at e; cases e
      | cons w q => exact h (y :: w :: q) z (by rw [look_in (by simp)]; exact e)
    · cases q with
      | nil => rw [look_empty] at e; cases e
      | cons w q =>
        refine h (w :: q) z ?_
        by_cases ew : w = y
        · subst ew; rw [look_low hs.1] at e; cases e
        · rw [look_ne ew]; exact e
theorem cnt_le {M : Int} {q : Pile} : ∀ {S : List Smp}, (∀ s ∈ S, 0 ≤ s.2 ∧ s.2 ≤ M) → (0 ≤ cnt S q ∧ cnt S q ≤ M * S.length) ∧ (0 ≤ pre S q ∧ pre S q ≤ M * S.length)
  | [], _ => by simp [cnt, pre]
  | s :: S, h => by
    obtain ⟨⟨i1, i2⟩, i3, i4⟩ := cnt_le (M := M) (q := q) (S := S) fun x hx => h x (List.mem_cons_of_mem _ hx)
    obtain ⟨h1, h2⟩ := h s List.mem_cons_self
    have e : M * (((s :: S).length : Nat) : Int) = M * (S.length : Int) + M := by
      rw [List.length_cons, Int.natCast_add, Int.mul_add]; simp
    rw [e]
    simp only [cnt, pre]
    constructor <;> constructor <;> split <;> omega
theorem num_tree {S : List Smp} (hs : ∀ s ∈ S, s.1 ≠ []) (hc : ∀ s ∈ S, 0 ≤ s.2 ∧ s.2 ≤ 1000000000) (hl : S.length ≤ 900) : NumT (treeOf S) := by
  refine num_look so_tree fun q z e => ?_
  rw [look_tree hs] at e
  split at e
  · cases e
    obtain ⟨⟨i1, i2⟩, i3, i4⟩ := cnt_le (q := q) hc
    have : (1000000000 : Int) * (S.length : Int) ≤ 1000000000 * 900 := by omega
    exact ⟨⟨i1, by omega⟩, i3, by omega⟩
  · cases e
/-! ### the samples of a tree -/
def smpT (t : Tr) : List Smp := ((rws t).filter fun r => decide (0 < r.2.1)).map fun r => (r.1, r.2.1)
theorem smp_tree {S : List Smp} (hs : ∀ s ∈ S, s.1 ≠ []) (hp : PosS S) : smpT (treeOf S) = gath S := by
  unfold smpT
  refine rows_ext (List.Pairwise.map _ (fun _ _ h => h) ((rws_sorted so_tree).sublist List.filter_sublist)) gath_lt ?_
  rintro ⟨q, o⟩
  simp only [List.mem_map, List.mem_filter]
  constructor
  · rintro ⟨⟨q', o', a⟩, ⟨h1, h2⟩, h3⟩
    have hq : q' = q := congrArg Prod.fst h3
    have ho : o' = o := congrArg Prod.snd h3
    rw [hq, ho] at h1
    have h2 : 0 < o' := by simpa using h2
    rw [ho] at h2
    rw [rws_look so_tree, look_tree hs] at h1
    split at h1
    · have e1 : cnt S q = o := congrArg Prod.fst (Option.some.inj h1)
      refine gath_perm.symm.subset (mem_gaD.mpr ⟨e1.symm, ?_⟩)
      by_cases z : q ∈ keysS S
      · exact z
      · rw [cnt_out z] at e1; omega
    · cases h1
  · intro h
    obtain ⟨e1, e2⟩ := mem_gaD.mp (gath_perm.subset h)
    have e1 : o = cnt S q := e1
    have e2 : q ∈ keysS S := e2
    have hpos := (cnt_pos (p := q) hp).2 e2
    obtain ⟨s, hs1, hs2⟩ := List.mem_map.mp e2
    have hs2 : s.1 = q := hs2
    have hne : q ≠ [] := hs2 ▸ hs s hs1
    have hh : hitS S q = true := List.any_eq_true.mpr ⟨s, hs1, by rw [hs2]; exact hit_self hne⟩
    refine ⟨(q, o, pre S q), ⟨?_, by rw [e1]; simpa using hpos⟩, rfl⟩
    rw [rws_look so_tree, look_tree hs, if_pos hh, e1]
theorem smpof_e (h86 : G 86 = some F86) (h87 : G 87 = some F87) (h90 : G 90 = some F90) {d : Nat} {t : Tr} {m : Sto} (hd : depT t ≤ d) (hr : (rws t).length ≤ 100000) (hw : d ≤ 2000) : callI G (n + d + 3) 90 [.d (trD t)] m = .ok (.d (ssD (smpT t))) m := by
  have c87 : ∀ m, callI G (n + (d + 2)) 87 [.d (trD t)] m = .ok (.d (.tuple ((rws t).map rwD))) m := fun m => rows_e (n := n) h86 h87 hd hr hw
  refine callP h90 rfl rfl ?_
  rw [List.append_nil]
  simp only [F90, ↓ev_comp, ↓flP_retS, ↓outP_and, ↓outP_or, ↓outP_ite, ↓outP_cmp2, flP_of, flP_next, flP_ret, flP_bad, flP_nil, outP_ok, outP_bad, outP_of, outP_bind, outP_nox, ok_bind, ok_of, of_some, open_none, ex, ev, evs, evo, evT, evI, dat, datX, datP, datAll, dOf, seqI, lockM, openM, boxK, freshE, retOk, asgT_nm, asgT_tup, asgT_lst, asgTs_nil, asgTs_cons, List.map_cons, List.map_nil, List.cons_append, List.nil_append, List.getElem?_cons_zero, List.getElem?_cons_succ, List.length_cons, List.length_nil, List.replicate, Option.bind_some, Option.map_some, Option.isSome_some, List.set_cons_zero, List.set_cons_succ, Nat.zero_add, Nat.reduceAdd, Nat.reduceSub, Nat.reduceLT, Nat.reduceLeDiff, Nat.reduceEqDiff, Int.reduceNeg, Int.reduceLT, Int.reduceLE, Int.reduceAdd, Int.reduceSub, decide_true, decide_false, Bool.and_self, Bool.and_true, Bool.true_and, Bool.and_false, Bool.false_and, Bool.or_true, Bool.true_or, Bool.or_false, Bool.false_or, Bool.not_true, Bool.not_false, ↓reduceIte, Bool.false_eq_true, truD, bop_addI, bop_subI, bop_mulI, bop_modI, bop_fdivI, bop_pow18, bop_addT, bop_addL, cop_eq, cop_ne, cop_ltI, cop_leI, cop_gtI, cop_geI, eqD_ii, eqD_ss, eqD_bb, fits_lit, recvOk, recvOk.isL, isMut, isDic, killR, List.foldl, List.append_assoc, List.length_append, Nat.add_assoc, dk_len, st_get0, st_get1, st_get2, st_set0, st_set1, st_set2, Option.some.injEq, exists_eq_left', exists_eq_left, SV.d.injEq, PyData.bool.injEq, SV.ref.injEq, reduceCtorEq, false_and, and_false, exists_false, or_false, false_or, true_and, and_true, true_implies, false_implies, forall_const, beq_self_eq_true, Bool.true_eq_false, flP_set, flP_asg, flP_par, flP_sti, flP_expr, flP_for, flP_whl, flP_rets, bop_pow6, bop_pow9, bfn_max2, bfn_min2, bfn_tupL, bfn_tupT, bfn_lenL, bfn_lenT, bfn_listL, bfn_listT, bfn_intB, bfn_intI, SV.d.injEq, PyData.str.injEq, PyData.int.injEq, exm0, exm1, exists_and_right, mg0, mg1, mg2, ms0, ms1, ms2, noxK, flP_ifs, c87]
  refine OutP.compF (f := rwD) (as := rws t) (fun r => decide (0 < r.2.1)) (fun r => smD (r.1, r.2.1)) (fun r hr => ⟨?_, fun _ => ?_⟩) ?_
  · simp only [tstF, ↓flP_retS, ↓outP_and, ↓outP_or, ↓outP_ite, ↓outP_cmp2, flP_of, flP_next, flP_ret, flP_bad, flP_nil, outP_ok, outP_bad, outP_of, outP_bind, outP_nox, ok_bind, ok_of, of_some, open_none, ex, ev, evs, evo, evT, evI, dat, datX, datP, datAll, dOf, seqI, lockM, openM, boxK, freshE, retOk, asgT_nm, asgT_tup, asgT_lst, asgTs_nil, asgTs_cons, List.map_cons, List.map_nil, List.cons_append, List.nil_append, List.getElem?_cons_zero, List.getElem?_cons_succ, List.length_cons, List.length_nil, List.replicate, Option.bind_some, Option.map_some, Option.isSome_some, List.set_cons_zero, List.set_cons_succ, Nat.zero_add, Nat.reduceAdd, Nat.reduceSub, Nat.reduceLT, Nat.reduceLeDiff, Nat.reduceEqDiff, Int.reduceNeg, Int.reduceLT, Int.reduceLE, Int.reduceAdd, Int.reduceSub, decide_true, decide_false, Bool.and_self, Bool.and_true, Bool.true_and, Bool.and_false, Bool.false_and, Bool.or_true, Bool.true_or, Bool.or_false, Bool.false_or, Bool.not_true, Bool.not_false, ↓reduceIte, Bool.false_eq_true, truD, bop_addI, bop_subI, bop_mulI, bop_modI, bop_fdivI, bop_pow18, bop_addT, bop_addL, cop_eq, cop_ne, cop_ltI, cop_leI, cop_gtI, cop_geI, eqD_ii, eqD_ss, eqD_bb, fits_lit, recvOk, recvOk.isL, isMut, isDic, killR, List.foldl, List.append_assoc, List.length_append, Nat.add_assoc, dk_len, st_get0, st_get1, st_get2, st_set0, st_set1, st_set2, Option.some.injEq, exists_eq_left', exists_eq_left, SV.d.injEq, PyData.bool.injEq, SV.ref.injEq, reduceCtorEq, false_and, and_false, exists_false, or_false, false_or, true_and, and_true, true_implies, false_implies, forall_const, beq_self_eq_true, Bool.true_eq_false, flP_set, flP_asg, flP_par, flP_sti, flP_expr, flP_for, flP_whl, flP_rets, bop_pow6, bop_pow9, bfn_max2, bfn_min2, bfn_tupL, bfn_tupT, bfn_lenL, bfn_lenT, bfn_listL, bfn_listT, bfn_intB, bfn_intI, SV.d.injEq, PyData.str.injEq, PyData.int.injEq, exm0, exm1, exists_and_right, mg0, mg1, mg2, ms0, ms1, ms2, noxK, flP_ifs, rwD, noxK]
  · simp only [eltF, ↓flP_retS, ↓outP_and, ↓outP_or, ↓outP_ite, ↓outP_cmp2, flP_of, flP_next, flP_ret, flP_bad, flP_nil, outP_ok, outP_bad, outP_of, outP_bind, outP_nox, ok_bind, ok_of, of_some, open_none, ex, ev, evs, evo, evT, evI, dat, datX, datP, datAll, dOf, seqI, lockM, openM, boxK, freshE, retOk, asgT_nm, asgT_tup, asgT_lst, asgTs_nil, asgTs_cons, List.map_cons, List.map_nil, List.cons_append, List.nil_append, List.getElem?_cons_zero, List.getElem?_cons_succ, List.length_cons, List.length_nil, List.replicate, Option.bind_some, Option.map_some, Option.isSome_some, List.set_cons_zero, List.set_cons_succ, Nat.zero_add, Nat.reduceAdd, Nat.reduceSub, Nat.reduceLT, Nat.reduceLeDiff, Nat.reduceEqDiff, Int.reduceNeg, Int.reduceLT, Int.reduceLE, Int.reduceAdd, Int.reduceSub, decide_true, decide_false, Bool.and_self, Bool.and_true, Bool.true_and, Bool.and_false, Bool.false_and, Bool.or_true, Bool.true_or, Bool.or_false, Bool.false_or, Bool.not_true, Bool.not_false, ↓reduceIte, Bool.false_eq_true, truD, bop_addI, bop_subI, bop_mulI, bop_modI, bop_fdivI, bop_pow18, bop_addT, bop_addL, cop_eq, cop_ne, cop_ltI, cop_leI, cop_gtI, cop_geI, eqD_ii, eqD_ss, eqD_bb, fits_lit, recvOk, recvOk.isL, isMut, isDic, killR, List.foldl, List.append_assoc, List.length_append, Nat.add_assoc, dk_len, st_get0, st_get1, st_get2, st_set0, st_set1, st_set2, Option.some.injEq, exists_eq_left', exists_eq_left, SV.d.injEq, PyData.bool.injEq, SV.ref.injEq, reduceCtorEq, false_and, and_false, exists_false, or_false, false_or, true_and, and_true, true_implies, false_implies, forall_const, beq_self_eq_true, Bool.true_eq_false, flP_set, flP_asg, flP_par, flP_sti, flP_expr, flP_for, flP_whl, flP_rets, bop_pow6, bop_pow9, bfn_max2, bfn_min2, bfn_tupL, bfn_tupT, bfn_lenL, bfn_lenT, bfn_listL, bfn_listT, bfn_intB, bfn_intI, SV.d.injEq, PyData.str.injEq, PyData.int.injEq, exm0, exm1, exists_and_right, mg0, mg1, mg2, ms0, ms1, ms2, noxK, flP_ifs, rwD, noxK]
    rfl
  have em : ((rws t).filter fun r => decide (0 < r.2.1)).map (fun r => smD (r.1, r.2.1)) = (smpT t).map smD := by unfold smpT; rw [List.map_map]; rfl
  rw [em]
  have hf : fitsN ((smpT t).map smD).length = true := fits_lit (by
    have := List.length_filter_le (fun r : Row => decide (0 < r.2.1)) (rws t)
    unfold smpT; rw [List.length_map, List.length_map]; omega)
  simp only [↓flP_retS, ↓outP_and, ↓outP_or, ↓outP_ite, ↓outP_cmp2, flP_of, flP_next, flP_ret, flP_bad, flP_nil, outP_ok, outP_bad, outP_of, outP_bind, outP_nox, ok_bind, ok_of, of_some, open_none, ex, ev, evs, evo, evT, evI, dat, datX, datP, datAll, dOf, seqI, lockM, openM, boxK, freshE, retOk, asgT_nm, asgT_tup, asgT_lst, asgTs_nil, asgTs_cons, List.map_cons, List.map_nil, List.cons_append, List.nil_append, List.getElem?_cons_zero, List.getElem?_cons_succ, List.length_cons, List.length_nil, List.replicate, Option.bind_some, Option.map_some, Option.isSome_some, List.set_cons_zero, List.set_cons_succ, Nat.zero_add, Nat.reduceAdd, Nat.reduceSub, Nat.reduceLT, Nat.reduceLeDiff, Nat.reduceEqDiff, Int.reduceNeg, Int.reduceLT, Int.reduceLE, Int.reduceAdd, Int.reduceSub, decide_true, decide_false, Bool.and_self, Bool.and_true, Bool.true_and, Bool.and_false, Bool.false_and, Bool.or_true, Bool.true_or, Bool.or_false, Bool.false_or, Bool.not_true, Bool.not_false, ↓reduceIte, Bool.false_eq_true, truD, bop_addI, bop_subI, bop_mulI, bop_modI, bop_fdivI, bop_pow18, bop_addT, bop_addL, cop_eq, cop_ne, cop_ltI, cop_leI, cop_gtI, cop_geI, eqD_ii, eqD_ss, eqD_bb, fits_lit, recvOk, recvOk.isL, isMut, isDic, killR, List.foldl, List.append_assoc, List.length_append, Nat.add_assoc, dk_len, st_get0, st_get1, st_get2, st_set0, st_set1, st_set2, Option.some.injEq, exists_eq_left', exists_eq_left, SV.d.injEq, PyData.bool.injEq, SV.ref.injEq, reduceCtorEq, false_and, and_false, exists_false, or_false, false_or, true_and, and_true, true_implies, false_implies, forall_const, beq_self_eq_true, Bool.true_eq_false, flP_set, flP_asg, flP_par, flP_sti, flP_expr, flP_for, flP_whl, flP_rets, bop_pow6, bop_pow9, bfn_max2, bfn_min2, bfn_tupL, bfn_tupT, bfn_lenL, bfn_lenT, bfn_listL, bfn_listT, bfn_intB, bfn_intI, SV.d.injEq, PyData.str.injEq, PyData.int.injEq, exm0, exm1, exists_and_right, mg0, mg1, mg2, ms0, ms1, ms2, noxK, flP_ifs, hf]
  try rfl
theorem totof_e (h60 : G 60 = some F60) (h91 : G 91 = some F91) {t : Tr} {m : Sto} (hl : (topL t).length ≤ 100000) : callI G (n + 2) 91 [.d (trD t)] m = .ok (.d (.int (allT t))) m := by
  have c60 : ∀ m, callI G (n + 1) 60 [.d (trD t)] m = .ok (.d (.int (allT t))) m := fun m => allof_e h60 hl
  refine callP h91 rfl rfl ?_
  rw [List.append_nil]
  simp only [F91, ↓flP_retS, ↓outP_and, ↓outP_or, ↓outP_ite, ↓outP_cmp2, flP_of, flP_next, flP_ret, flP_bad, flP_nil, outP_ok, outP_bad, outP_of, outP_bind, outP_nox, ok_bind, ok_of, of_some, open_none, ex, ev, evs, evo, evT, evI, dat, datX, datP, datAll, dOf, seqI, lockM, openM, boxK, freshE, retOk, asgT_nm, asgT_tup, asgT_lst, asgTs_nil, asgTs_cons, List.map_cons, List.map_nil, List.cons_append, List.nil_append, List.getElem?_cons_zero, List.getElem?_cons_succ, List.length_cons, List.length_nil, List.replicate, Option.bind_some, Option.map_some, Option.isSome_some, List.set_cons_zero, List.set_cons_succ, Nat.zero_add, Nat.reduceAdd, Nat.reduceSub, Nat.reduceLT, Nat.reduceLeDiff, Nat.reduceEqDiff, Int.reduceNeg, Int.reduceLT, Int.reduceLE, Int.reduceAdd, Int.reduceSub, decide_true, decide_false, Bool.and_self, Bool.and_true, Bool.true_and, Bool.and_false, Bool.false_and, Bool.or_true, Bool.true_or, Bool.or_false, Bool.false_or, Bool.not_true, Bool.not_false, ↓reduceIte, Bool.false_eq_true, truD, bop_addI, bop_subI, bop_mulI, bop_modI, bop_fdivI, bop_pow18, bop_addT, bop_addL, cop_eq, cop_ne, cop_ltI, cop_leI, cop_gtI, cop_geI, eqD_ii, eqD_ss, eqD_bb, fits_lit, recvOk, recvOk.isL, isMut, isDic, killR, List.foldl, List.append_assoc, List.length_append, Nat.add_assoc, dk_len, st_get0, st_get1, st_get2, st_set0, st_set1, st_set2, Option.some.injEq, exists_eq_left', exists_eq_left, SV.d.injEq, PyData.bool.injEq, SV.ref.injEq, reduceCtorEq, false_and, and_false, exists_false, or_false, false_or, true_and, and_true, true_implies, false_implies, forall_const, beq_self_eq_true, Bool.true_eq_false, flP_set, flP_asg, flP_par, flP_sti, flP_expr, flP_for, flP_whl, flP_rets, bop_pow6, bop_pow9, bfn_max2, bfn_min2, bfn_tupL, bfn_tupT, bfn_lenL, bfn_lenT, bfn_listL, bfn_listT, bfn_intB, bfn_intI, SV.d.injEq, PyData.str.injEq, PyData.int.injEq, exm0, exm1, exists_and_right, mg0, mg1, mg2, ms0, ms1, ms2, noxK, flP_ifs, c60]
end
end Pil

set_option Elab.async false
set_option linter.all false
set_option autoImplicit false
set_option maxRecDepth 100000
set_option maxHeartbeats 4000000
namespace Pil
open PySem PySem.Spec PyProof.Rows L2
section
variable {G : Nat → Option Fn} {n : Nat}
/-! ### samples as the document lets: all that is told of their tree -/
structure TsOk (S : List Smp) : Prop where
  ne : ∀ s ∈ S, s.1 ≠ []
  nm : ∀ s ∈ S, ∀ x ∈ s.1, NameOk x
  pl : ∀ s ∈ S, s.1.length ≤ 12
  lo : ∀ s ∈ S, 1 ≤ s.2
  hi : ∀ s ∈ S, s.2 ≤ 1000000000
  len : S.length ≤ 200
section
variable {S : List Smp}
theorem TsOk.pos (h : TsOk S) : PosS S := fun s hs => by have := h.lo s hs; omega
theorem TsOk.ss (h : TsOk S) : SsOk S := ⟨h.pos, h.ne, fun s hs => by have := h.pl s hs; omega, by have := h.len; omega⟩
theorem TsOk.dep (h : TsOk S) : depT (treeOf S) ≤ 12 := dep_tree h.pl
theorem TsOk.nmT (h : TsOk S) : NmT (treeOf S) := nm_tree h.nm
theorem TsOk.num (h : TsOk S) : NumT (treeOf S) := num_tree h.ne (fun s hs => ⟨by have := h.lo s hs; omega, h.hi s hs⟩) (by have := h.len; omega)
theorem TsOk.rws (h : TsOk S) : (rws (treeOf S)).length ≤ 20000 := by
  have := len_rws h.ne fun s hs => by have := h.pl s hs; omega
  have := h.len
  omega
theorem TsOk.top (h : TsOk S) : (topL (treeOf S)).length ≤ 20000 := Nat.le_trans len_topT h.rws
theorem TsOk.smp (h : TsOk S) : smpT (treeOf S) = gath S := smp_tree h.ne h.pos
theorem TsOk.all (h : TsOk S) : allT (treeOf S) = sumS S := all_tree h.ne
theorem gath_hi (h : TsOk S) : ∀ s ∈ gath S, s.2 ≤ 1000000000 * 200 := fun s hs => by
  obtain ⟨e, _⟩ := mem_gaD.mp (gath_perm.subset hs)
  rw [e]
  have h1 := (cnt_le (q := s.1) (M := 1000000000) (S := S) fun s hs => ⟨by have := h.lo s hs; omega, h.hi s hs⟩).1.2
  have h2 := h.len
  omega
theorem ts_repr (h : TsOk S) : bfn .repr [trD (treeOf S)] = some (.str (trD (treeOf S)).shown) := by
  have hr := h.rws
  have hd := h.dep
  refine repr_of (N := 16000000) (Shw.tr h.nmT h.num (by omega)) (by decide) ?_ rfl
  have f := fine_tup (fine_tr h.nmT)
  have := f.dep
  show (PyData.tuple (trL (treeOf S))).depth ≤ 60
  omega
theorem rowsL_e (h66 : G 66 = some F66) {m : Sto} (h : TsOk S) : callI G (n + 1) 66 [.d (ssD S)] m = .ok (.d (.tuple ((rowsS S).map rwD))) m := lrows_e (n := n) h66 rfl rfl rfl rfl (fun s hs => by have := h.pl s hs; omega) (by have := h.len; omega)
theorem treeL_e (h67 : G 67 = some F67) {m : Sto} (h : TsOk S) : callI G (n + 1) 67 [.d (.tuple ((rowsS S).map rwD))] m = .ok (.d (trD (treeOf S))) m := by
  rw [← rows_tree h.ne]
  exact ltree_e (n := n) h67 rfl rfl rfl rfl (by have := h.rws; omega)
theorem treeO_e (h23 : G 23 = some F23) (h60 : G 60 = some F60) (h77 : G 77 = some F77) (h78 : G 78 = some F78) (h79 : G 79 = some F79) {m : Sto} (h : TsOk S) : callI G (n + 15) 79 [.d (ssD S)] m = .ok (.d (trD (treeOf S))) m :=
  treeof_e (n := n) (D := 12) h23 h60 h77 h78 h79 h.ss h.pl (by decide) (by have := h.len; omega)
theorem sameT_e (h25 : G 25 = some F25) {m : Sto} (h : TsOk S) : callI G (n + 26) 25 [.d (trD (treeOf S)), .d (trD (treeOf S))] m = .ok (.d (.bool true)) m :=
  same_refl (n := n) (k := 25) h25 (plN_tr (k := 24) (by have := h.dep; omega) (by have := h.rws; omega))
theorem smpO_e (h86 : G 86 = some F86) (h87 : G 87 = some F87) (h90 : G 90 = some F90) {m : Sto} (h : TsOk S) : callI G (n + 15) 90 [.d (trD (treeOf S))] m = .ok (.d (ssD (gath S))) m := by
  rw [← h.smp]
  exact smpof_e (n := n) (d := 12) h86 h87 h90 h.dep (by have := h.rws; omega) (by decide)
theorem totO_e (h60 : G 60 = some F60) (h91 : G 91 = some F91) {m : Sto} (h : TsOk S) : callI G (n + 2) 91 [.d (trD (treeOf S))] m = .ok (.d (.int (sumS S))) m := by
  rw [← h.all]
  exact totof_e (n := n) h60 h91 (by have := h.top; omega)
theorem sameS_e (h25 : G 25 = some F25) {m : Sto} (h1 : ∀ s ∈ S, s.1.length ≤ 16777216) (h2 : S.length ≤ 16777216) : callI G (n + 4) 25 [.d (ssD S), .d (ssD S)] m = .ok (.d (.bool true)) m := same_refl (n := n) (k := 3) h25 (plN_ss h1 h2)
theorem sameI_e (h25 : G 25 = some F25) {i : Int} {m : Sto} : callI G (n + 1) 25 [.d (.int i), .d (.int i)] m = .ok (.d (.bool true)) m := same_refl (n := n) (k := 0) h25 (by simp [PlN])
end
theorem eqD_strs {x : Str} : eqD (.str x) (.str x) = some true := by rw [eqD_ss, beq_self_eq_true]
end
end Pil

set_option Elab.async false
set_option linter.all false
set_option autoImplicit false
set_option maxRecDepth 100000
set_option maxHeartbeats 4000000
namespace Pil
open PySem PySem.Spec PyProof.Rows L2
def F24 : Fn := { nm := "_law_gathered", ps := ["_law_samples_here"], ns := ["_law_samples_here", "_law_counts", "_law_pile_here", "_law_count_here"], keep := false, body := (.cons (.set 1 (.dnw true))
  (.cons (.for_ (.tp (.cons (.nm 2) (.cons (.nm 3) .nil))) [0, 3] (.seq (.var 0))
 (.cons (.sti (.var 1) (.var 2) (.bin .add (.dget (.var 1) (.var 2) (.cst (.int 0))) (.var 3)))
  .nil))
  (.cons (.ret (.blt .tuple (.cons (.comp [2] (.nm 2) (.seq (.skd (.var 1))) .none (.tup (.cons (.var 2) (.cons (.idx (.var 1) (.var 2)) .nil)))) .nil)))
  .nil))) }
def F92 : Fn := { nm := "_law_right", ps := ["_law_samples_here"], ns := ["_law_samples_here", "_law_tree_here", "_law_due", "_law_kept", "_law_again", "_law_pile_here", "_law_count_here"], keep := false, body := (.cons (.set 1 (.call 67 (.cons (.call 66 (.cons (.var 0) .nil)) .nil)))
  (.cons (.set 2 (.call 24 (.cons (.var 0) .nil)))
  (.cons (.set 3 (.blt .repr (.cons (.var 1) .nil)))
  (.cons (.for_ (.nm 4) [4, 5, 6] (.rng1 (.cst (.int 2)))
 (.cons (.iff (.nt (.call 25 (.cons (.call 90 (.cons (.var 1) .nil)) (.cons (.var 2) .nil))))
 (.cons (.ret (.cst (.bool false)))
  .nil)
 .nil)
  (.cons (.iff (.nt (.call 25 (.cons (.call 91 (.cons (.var 1) .nil)) (.cons (.blt .sum (.cons (.comp [5, 6] (.tp (.cons (.nm 5) (.cons (.nm 6) .nil))) (.seq (.var 0)) .none (.var 6)) .nil)) .nil))))
 (.cons (.ret (.cst (.bool false)))
  .nil)
 .nil)
  .nil)))
  (.cons (.iff (.or2 (.nt (.call 25 (.cons (.call 79 (.cons (.call 90 (.cons (.var 1) .nil)) .nil)) (.cons (.var 1) .nil)))) (.nt (.call 25 (.cons (.call 90 (.cons (.call 79 (.cons (.var 0) .nil)) .nil)) (.cons (.var 2) .nil)))))
 (.cons (.ret (.cst (.bool false)))
  .nil)
 .nil)
  (.cons (.ret (.cmp .eq (.blt .repr (.cons (.var 1) .nil)) (.var 3)))
  .nil)))))) }
def F93 : Fn := { nm := "law", ps := ["_law_script"], ns := ["_law_script", "_law_deck_here", "_law_ahead", "_law_turn", "_law_names_here", "_law_samples_here", "_law_piles", "_law_more", "_law_pile_here", "_law_count_here"], keep := false, body := (.cons (.set 1 (.call 5 (.cons (.var 0) .nil)))
  (.cons (.set 2 (.box (.lst .nil)))
  (.cons (.for_ (.nm 3) [0, 3, 4, 5, 6, 7, 8, 9] (.rng1 (.cst (.int 3)))
 (.cons (.asg (.tp (.cons (.nm 4) (.cons (.nm 5) .nil))) (.call 13 (.cons (.var 1) .nil)))
  (.cons (.set 6 (.comp [8, 9] (.tp (.cons (.nm 8) (.cons (.nm 9) .nil))) (.seq (.var 5)) .none (.var 8)))
  (.cons (.set 7 (.bin .add (.slc (.var 5) .none (.some (.cst (.int 39)))) (.tup (.cons (.tup (.cons (.call 10 (.cons (.var 1) (.cons (.var 4) (.cons (.var 6) (.cons (.cst (.int 6)) .nil))))) (.cons (.cst (.int 1)) .nil))) .nil))))
  (.cons (.iff (.or2 (.nt (.call 92 (.cons (.var 5) .nil))) (.or2 (.nt (.call 92 (.cons (.var 7) .nil))) (.nt (.call 92 (.cons (.var 5) .nil)))))
 (.cons (.ret (.cst (.bool false)))
  .nil)
 .nil)
  (.cons (.expr (.mth .append (.var 2) (.cons (.var 5) .nil)))
  .nil))))))
  (.cons (.for_ (.nm 5) [0, 1, 2, 3, 4, 5, 6, 7, 8, 9] (.seq (.var 2))
 (.cons (.iff (.nt (.call 92 (.cons (.var 5) .nil)))
 (.cons (.ret (.cst (.bool false)))
  .nil)
 .nil)
  .nil))
  (.cons (.ret (.and2 (.cmp .eq (.call 90 (.cons (.tup .nil) .nil)) (.tup .nil)) (.call 25 (.cons (.call 91 (.cons (.tup .nil) .nil)) (.cons (.cst (.int 0)) .nil)))))
  .nil))))) }
section
variable {G : Nat → Option Fn} {n : Nat}
theorem flP_openS {l : Nat} {xs : List PyData} {F : Fl} {N : Rho → Sto → Prop} {R : SV → Sto → Prop} : FlP (Fl.open_ (some l) xs F) N R ↔ FlP F (fun r m => N r (m.set l (.lst xs))) (fun x m => R x (m.set l (.lst xs))) := by cases F <;> exact Iff.rfl
theorem right10_e (h23 : G 23 = some F23) (h24 : G 24 = some F24) (h25 : G 25 = some F25) (h60 : G 60 = some F60) (h66 : G 66 = some F66) (h67 : G 67 = some F67) (h77 : G 77 = some F77) (h78 : G 78 = some F78) (h79 : G 79 = some F79) (h86 : G 86 = some F86) (h87 : G 87 = some F87) (h90 : G 90 = some F90) (h91 : G 91 = some F91) (h92 : G 92 = some F92) {S : List Smp} {m : Sto} (h : TsOk S) :
    callI G (n + 31) 92 [.d (ssD S)] m = .ok (.d (.bool true)) m := by
  have c66 : ∀ m, callI G (n + 30) 66 [.d (ssD S)] m = _ := fun m => rowsL_e (n := n + 29) h66 h
  have c67 : ∀ m, callI G (n + 30) 67 [.d (.tuple ((rowsS S).map rwD))] m = _ := fun m => treeL_e (n := n + 29) h67 h
  have c24 : ∀ m, callI G (n + 30) 24 [.d (ssD S)] m = .ok (.d (ssD (gath S))) m := fun m => gath_e (n := n + 29) h24 rfl rfl rfl rfl h.ne (by have := h.len; omega)
  have c90 : ∀ m, callI G (n + 30) 90 [.d (trD (treeOf S))] m = _ := fun m => smpO_e (n := n + 15) h86 h87 h90 h
  have c91 : ∀ m, callI G (n + 30) 91 [.d (trD (treeOf S))] m = _ := fun m => totO_e (n := n + 28) h60 h91 h
  have c79 : ∀ m, callI G (n + 30) 79 [.d (ssD S)] m = _ := fun m => treeO_e (n := n + 15) h23 h60 h77 h78 h79 h
  have hg := h.ss.gath
  have hgl := hg.len
  have c79g : ∀ m, callI G (n + 30) 79 [.d (ssD (gath S))] m = .ok (.d (trD (treeOf S))) m := fun m => by
    have key : ∀ s ∈ gath S, ∃ t ∈ S, t.1 = s.1 := fun s hs => by
      obtain ⟨t, ht, e⟩ := List.mem_map.mp (key_gath hs)
      exact ⟨t, ht, e⟩
    have := treeof_e (n := n + 15) (D := 12) (S := gath S) (m := m) h23 h60 h77 h78 h79 hg (fun s hs => by
      obtain ⟨t, ht, e⟩ := key s hs
      rw [← e]; exact h.pl t ht) (by decide) (by have := len_gath (S := S); have := h.len; omega)
    rw [tree_gath h.ne h.pos] at this
    exact this
  have cT : ∀ m, callI G (n + 30) 25 [.d (trD (treeOf S)), .d (trD (treeOf S))] m = _ := fun m => sameT_e (n := n + 4) h25 h
  have cS : ∀ m, callI G (n + 30) 25 [.d (ssD (gath S)), .d (ssD (gath S))] m = _ := fun m => sameS_e (n := n + 26) h25 (fun s hs => by have := hg.pl s hs; omega) (by omega)
  have cI : ∀ m, callI G (n + 30) 25 [.d (.int (sumS S)), .d (.int (sumS S))] m = _ := fun m => sameI_e (n := n + 29) h25
  have hrep := ts_repr h
  have hr2 : ∀ r m, rng1K (callI G (n + 30)) (.cst (.int 2)) r m = .ok ((List.range 2).map fun i => PyData.int (i : Nat), none) m := fun r m => rng1K_of (k := 2) rfl (by decide)
  refine callP h92 rfl rfl ?_
  rw [List.append_nil]
  simp only [F92, ↓ev_comp, ↓evI_r1, ↓hr2, ↓flP_retS, ↓outP_and, ↓outP_or, ↓outP_ite, ↓outP_cmp2, flP_of, flP_next, flP_ret, flP_bad, flP_nil, outP_ok, outP_bad, outP_of, outP_bind, outP_nox, ok_bind, ok_of, of_some, open_none, ex, ev, evs, evo, evT, evI, dat, datX, datP, datAll, dOf, seqI, lockM, openM, boxK, freshE, retOk, asgT_nm, asgT_tup, asgT_lst, asgTs_nil, asgTs_cons, List.map_cons, List.map_nil, List.cons_append, List.nil_append, List.getElem?_cons_zero, List.getElem?_cons_succ, List.length_cons, List.length_nil, List.replicate, Option.bind_some, Option.map_some, Option.isSome_some, List.set_cons_zero, List.set_cons_succ, Nat.zero_add, Nat.reduceAdd, Nat.reduceSub, Nat.reduceLT, Nat.reduceLeDiff, Nat.reduceEqDiff, Int.reduceNeg, Int.reduceLT, Int.reduceLE, Int.reduceAdd, Int.reduceSub, decide_true, decide_false, Bool.and_self, Bool.and_true, Bool.true_and, Bool.and_false, Bool.false_and, Bool.or_true, Bool.true_or, Bool.or_false, Bool.false_or, Bool.not_true, Bool.not_false, ↓reduceIte, Bool.false_eq_true, truD, bop_addI, bop_subI, bop_mulI, bop_modI, bop_fdivI, bop_pow18, bop_addT, bop_addL, cop_eq, cop_ne, cop_ltI, cop_leI, cop_gtI, cop_geI, eqD_ii, eqD_ss, eqD_bb, fits_lit, recvOk, recvOk.isL, isMut, isDic, killR, List.foldl, List.append_assoc, List.length_append, Nat.add_assoc, dk_len, st_get0, st_get1, st_get2, st_set0, st_set1, st_set2, Option.some.injEq, exists_eq_left', exists_eq_left, SV.d.injEq, PyData.bool.injEq, SV.ref.injEq, reduceCtorEq, false_and, and_false, exists_false, or_false, false_or, true_and, and_true, true_implies, false_implies, forall_const, beq_self_eq_true, Bool.true_eq_false, flP_set, flP_asg, flP_par, flP_sti, flP_expr, flP_for, flP_whl, flP_rets, bop_pow6, bop_pow9, bfn_max2, bfn_min2, bfn_tupL, bfn_tupT, bfn_lenL, bfn_lenT, bfn_listL, bfn_listT, bfn_intB, bfn_intI, SV.d.injEq, PyData.str.injEq, PyData.int.injEq, exm0, exm1, exists_and_right, mg0, mg1, mg2, ms0, ms1, ms2, noxK, flP_ifs, c66, c67, c24, hrep]
  refine FlP.for0 (fun xs r m' => r = [some (.d (ssD S)), some (.d (trD (treeOf S))), some (.d (ssD (gath S))), some (.d (.str (trD (treeOf S)).shown)), none, none, none] ∧ m' = m) ⟨rfl, rfl⟩ ?_ ?_
  · rintro x xs r m' ⟨rfl, rfl⟩
    simp only [↓ev_comp, ↓flP_retS, ↓outP_and, ↓outP_or, ↓outP_ite, ↓outP_cmp2, flP_of, flP_next, flP_ret, flP_bad, flP_nil, outP_ok, outP_bad, outP_of, outP_bind, outP_nox, ok_bind, ok_of, of_some, open_none, ex, ev, evs, evo, evT, evI, dat, datX, datP, datAll, dOf, seqI, lockM, openM, boxK, freshE, retOk, asgT_nm, asgT_tup, asgT_lst, asgTs_nil, asgTs_cons, List.map_cons, List.map_nil, List.cons_append, List.nil_append, List.getElem?_cons_zero, List.getElem?_cons_succ, List.length_cons, List.length_nil, List.replicate, Option.bind_some, Option.map_some, Option.isSome_some, List.set_cons_zero, List.set_cons_succ, Nat.zero_add, Nat.reduceAdd, Nat.reduceSub, Nat.reduceLT, Nat.reduceLeDiff, Nat.reduceEqDiff, Int.reduceNeg, Int.reduceLT, Int.reduceLE, Int.reduceAdd, Int.reduceSub, decide_true, decide_false, Bool.and_self, Bool.and_true, Bool.true_and, Bool.and_false, Bool.false_and, Bool.or_true, Bool.true_or, Bool.or_false, Bool.false_or, Bool.not_true, Bool.not_false, ↓reduceIte, Bool.false_eq_true, truD, bop_addI, bop_subI, bop_mulI, bop_modI, bop_fdivI, bop_pow18, bop_addT, bop_addL, cop_eq, cop_ne, cop_ltI, cop_leI, cop_gtI, cop_geI, eqD_ii, eqD_ss, eqD_bb, fits_lit, recvOk, recvOk.isL, isMut, isDic, killR, List.foldl, List.append_assoc, List.length_append, Nat.add_assoc, dk_len, st_get0, st_get1, st_get2, st_set0, st_set1, st_set2, Option.some.injEq, exists_eq_left', exists_eq_left, SV.d.injEq, PyData.bool.injEq, SV.ref.injEq, reduceCtorEq, false_and, and_false, exists_false, or_false, false_or, true_and, and_true, true_implies, false_implies, forall_const, beq_self_eq_true, Bool.true_eq_false, flP_set, flP_asg, flP_par, flP_sti, flP_expr, flP_for, flP_whl, flP_rets, bop_pow6, bop_pow9, bfn_max2, bfn_min2, bfn_tupL, bfn_tupT, bfn_lenL, bfn_lenT, bfn_listL, bfn_listT, bfn_intB, bfn_intI, SV.d.injEq, PyData.str.injEq, PyData.int.injEq, exm0, exm1, exists_and_right, mg0, mg1, mg2, ms0, ms1, ms2, noxK, flP_ifs, c90, c91, cS]
    refine ⟨(S.map smD, none), rfl, ?_⟩
    refine OutP.compM (f := smD) (as := S) (fun s => .int s.2) (fun s hs => ⟨rfl, ?_⟩) ?_
    · simp only [eltF, ↓flP_retS, ↓outP_and, ↓outP_or, ↓outP_ite, ↓outP_cmp2, flP_of, flP_next, flP_ret, flP_bad, flP_nil, outP_ok, outP_bad, outP_of, outP_bind, outP_nox, ok_bind, ok_of, of_some, open_none, ex, ev, evs, evo, evT, evI, dat, datX, datP, datAll, dOf, seqI, lockM, openM, boxK, freshE, retOk, asgT_nm, asgT_tup, asgT_lst, asgTs_nil, asgTs_cons, List.map_cons, List.map_nil, List.cons_append, List.nil_append, List.getElem?_cons_zero, List.getElem?_cons_succ, List.length_cons, List.length_nil, List.replicate, Option.bind_some, Option.map_some, Option.isSome_some, List.set_cons_zero, List.set_cons_succ, Nat.zero_add, Nat.reduceAdd, Nat.reduceSub, Nat.reduceLT, Nat.reduceLeDiff, Nat.reduceEqDiff, Int.reduceNeg, Int.reduceLT, Int.reduceLE, Int.reduceAdd, Int.reduceSub, decide_true, decide_false, Bool.and_self, Bool.and_true, Bool.true_and, Bool.and_false, Bool.false_and, Bool.or_true, Bool.true_or, Bool.or_false, Bool.false_or, Bool.not_true, Bool.not_false, ↓reduceIte, Bool.false_eq_true, truD, bop_addI, bop_subI, bop_mulI, bop_modI, bop_fdivI, bop_pow18, bop_addT, bop_addL, cop_eq, cop_ne, cop_ltI, cop_leI, cop_gtI, cop_geI, eqD_ii, eqD_ss, eqD_bb, fits_lit, recvOk, recvOk.isL, isMut, isDic, killR, List.foldl, List.append_assoc, List.length_append, Nat.add_assoc, dk_len, st_get0, st_get1, st_get2, st_set0, st_set1, st_set2, Option.some.injEq, exists_eq_left', exists_eq_left, SV.d.injEq, PyData.bool.injEq, SV.ref.injEq, reduceCtorEq, false_and, and_false, exists_false, or_false, false_or, true_and, and_true, true_implies, false_implies, forall_const, beq_self_eq_true, Bool.true_eq_false, flP_set, flP_asg, flP_par, flP_sti, flP_expr, flP_for, flP_whl, flP_rets, bop_pow6, bop_pow9, bfn_max2, bfn_min2, bfn_tupL, bfn_tupT, bfn_lenL, bfn_lenT, bfn_listL, bfn_listT, bfn_intB, bfn_intI, SV.d.injEq, PyData.str.injEq, PyData.int.injEq, exm0, exm1, exists_and_right, mg0, mg1, mg2, ms0, ms1, ms2, noxK, flP_ifs, smD, noxK]
    have hf : fitsN (S.map fun s => PyData.int s.2).length = true := fits_lit (by rw [List.length_map]; have := h.len; omega)
    have es : bfn .sum [.list (S.map fun s => PyData.int s.2)] = some (.int (sumS S)) := bfn_sumM
    simp only [↓flP_retS, ↓outP_and, ↓outP_or, ↓outP_ite, ↓outP_cmp2, flP_of, flP_next, flP_ret, flP_bad, flP_nil, outP_ok, outP_bad, outP_of, outP_bind, outP_nox, ok_bind, ok_of, of_some, open_none, ex, ev, evs, evo, evT, evI, dat, datX, datP, datAll, dOf, seqI, lockM, openM, boxK, freshE, retOk, asgT_nm, asgT_tup, asgT_lst, asgTs_nil, asgTs_cons, List.map_cons, List.map_nil, List.cons_append, List.nil_append, List.getElem?_cons_zero, List.getElem?_cons_succ, List.length_cons, List.length_nil, List.replicate, Option.bind_some, Option.map_some, Option.isSome_some, List.set_cons_zero, List.set_cons_succ, Nat.zero_add, Nat.reduceAdd, Nat.reduceSub, Nat.reduceLT, Nat.reduceLeDiff, Nat.reduceEqDiff, Int.reduceNeg, Int.reduceLT, Int.reduceLE, Int.reduceAdd, Int.reduceSub, decide_true, decide_false, Bool.and_self, Bool.and_true, Bool.true_and, Bool.and_false, Bool.false_and, Bool.or_true, Bool.true_or, Bool.or_false, Bool.false_or, Bool.not_true, Bool.not_false, ↓reduceIte, Bool.false_eq_true, truD, bop_addI, bop_subI, bop_mulI, bop_modI, bop_fdivI, bop_pow18, bop_addT, bop_addL, cop_eq, cop_ne, cop_ltI, cop_leI, cop_gtI, cop_geI, eqD_ii, eqD_ss, eqD_bb, fits_lit, recvOk, recvOk.isL, isMut, isDic, killR, List.foldl, List.append_assoc, List.length_append, Nat.add_assoc, dk_len, st_get0, st_get1, st_get2, st_set0, st_set1, st_set2, Option.some.injEq, exists_eq_left', exists_eq_left, SV.d.injEq, PyData.bool.injEq, SV.ref.injEq, reduceCtorEq, false_and, and_false, exists_false, or_false, false_or, true_and, and_true, true_implies, false_implies, forall_const, beq_self_eq_true, Bool.true_eq_false, flP_set, flP_asg, flP_par, flP_sti, flP_expr, flP_for, flP_whl, flP_rets, bop_pow6, bop_pow9, bfn_max2, bfn_min2, bfn_tupL, bfn_tupT, bfn_lenL, bfn_lenT, bfn_listL, bfn_listT, bfn_intB, bfn_intI, SV.d.injEq, PyData.str.injEq, PyData.int.injEq, exm0, exm1, exists_and_right, mg0, mg1, mg2, ms0, ms1, ms2, noxK, flP_ifs, hf, es, cI]
  · rintro r m' ⟨rfl, rfl⟩
    simp only [↓flP_retS, ↓outP_and, ↓outP_or, ↓outP_ite, ↓outP_cmp2, flP_of, flP_next, flP_ret, flP_bad, flP_nil, outP_ok, outP_bad, outP_of, outP_bind, outP_nox, ok_bind, ok_of, of_some, open_none, ex, ev, evs, evo, evT, evI, dat, datX, datP, datAll, dOf, seqI, lockM, openM, boxK, freshE, retOk, asgT_nm, asgT_tup, asgT_lst, asgTs_nil, asgTs_cons, List.map_cons, List.map_nil, List.cons_append, List.nil_append, List.getElem?_cons_zero, List.getElem?_cons_succ, List.length_cons, List.length_nil, List.replicate, Option.bind_some, Option.map_some, Option.isSome_some, List.set_cons_zero, List.set_cons_succ, Nat.zero_add, Nat.reduceAdd, Nat.reduceSub, Nat.reduceLT, Nat.reduceLeDiff, Nat.reduceEqDiff, Int.reduceNeg, Int.reduceLT, Int.reduceLE, Int.reduceAdd, Int.reduceSub, decide_true, decide_false, Bool.and_self, Bool.and_true, Bool.true_and, Bool.and_false, Bool.false_and, Bool.or_true, Bool.true_or, Bool.or_false, Bool.false_or, Bool.not_true, Bool.not_false, ↓reduceIte, Bool.false_eq_true, truD, bop_addI, bop_subI, bop_mulI, bop_modI, bop_fdivI, bop_pow18, bop_addT, bop_addL, cop_eq, cop_ne, cop_ltI, cop_leI, cop_gtI, cop_geI, eqD_ii, eqD_ss, eqD_bb, fits_lit, recvOk, recvOk.isL, isMut, isDic, killR, List.foldl, List.append_assoc, List.length_append, Nat.add_assoc, dk_len, st_get0, st_get1, st_get2, st_set0, st_set1, st_set2, Option.some.injEq, exists_eq_left', exists_eq_left, SV.d.injEq, PyData.bool.injEq, SV.ref.injEq, reduceCtorEq, false_and, and_false, exists_false, or_false, false_or, true_and, and_true, true_implies, false_implies, forall_const, beq_self_eq_true, Bool.true_eq_false, flP_set, flP_asg, flP_par, flP_sti, flP_expr, flP_for, flP_whl, flP_rets, bop_pow6, bop_pow9, bfn_max2, bfn_min2, bfn_tupL, bfn_tupT, bfn_lenL, bfn_lenT, bfn_listL, bfn_listT, bfn_intB, bfn_intI, SV.d.injEq, PyData.str.injEq, PyData.int.injEq, exm0, exm1, exists_and_right, mg0, mg1, mg2, ms0, ms1, ms2, noxK, flP_ifs, c90, c79, c79g, cT, cS, hrep, eqD_strs]
theorem law10 (h5 : G 5 = some F5) (h6 : G 6 = some F6) (h7 : G 7 = some F7) (h8 : G 8 = some F8) (h9 : G 9 = some F9) (h10 : G 10 = some F10) (h11 : G 11 = some F11) (h12 : G 12 = some F12) (h13 : G 13 = some F13) (h23 : G 23 = some F23) (h24 : G 24 = some F24) (h25 : G 25 = some F25) (h60 : G 60 = some F60) (h66 : G 66 = some F66) (h67 : G 67 = some F67) (h77 : G 77 = some F77) (h78 : G 78 = some F78) (h79 : G 79 = some F79) (h86 : G 86 = some F86) (h87 : G 87 = some F87) (h90 : G 90 = some F90) (h91 : G 91 = some F91) (h92 : G 92 = some F92) (h93 : G 93 = some F93) {ns : List Int} (hl : ns.length ≤ 63) :
    ∃ m, callI G (n + 32) 93 [.ext ns] [] = .ok (.d (.bool true)) m := by
  refine law_end h93 rfl rfl ?_
  obtain ⟨k, ek, hk⟩ := deck_ok (n := n + 30) h5 hl
  have ek : callI G (n + 31) 5 [.ext ns] [] = .ok (.ref 1) (k.st ++ []) := by rw [List.append_nil]; exact ek
  have hr3 : ∀ r m, rng1K (callI G (n + 31)) (.cst (.int 3)) r m = .ok ((List.range 3).map fun i => PyData.int (i : Nat), none) m := fun r m => rng1K_of (k := 3) rfl (by decide)
  have right : ∀ {S : List Smp} m, TsOk S → callI G (n + 31) 92 [.d (ssD S)] m = .ok (.d (.bool true)) m := fun {S} m h => right10_e h23 h24 h25 h60 h66 h67 h77 h78 h79 h86 h87 h90 h91 h92 h
  simp only [F93, ↓ev_comp, ↓evI_r1, ↓hr3, ↓flP_retS, ↓outP_and, ↓outP_or, ↓outP_ite, ↓outP_cmp2, flP_of, flP_next, flP_ret, flP_bad, flP_nil, outP_ok, outP_bad, outP_of, outP_bind, outP_nox, ok_bind, ok_of, of_some, open_none, ex, ev, evs, evo, evT, evI, dat, datX, datP, datAll, dOf, seqI, lockM, openM, boxK, freshE, retOk, asgT_nm, asgT_tup, asgT_lst, asgTs_nil, asgTs_cons, List.map_cons, List.map_nil, List.cons_append, List.nil_append, List.getElem?_cons_zero, List.getElem?_cons_succ, List.length_cons, List.length_nil, List.replicate, Option.bind_some, Option.map_some, Option.isSome_some, List.set_cons_zero, List.set_cons_succ, Nat.zero_add, Nat.reduceAdd, Nat.reduceSub, Nat.reduceLT, Nat.reduceLeDiff, Nat.reduceEqDiff, Int.reduceNeg, Int.reduceLT, Int.reduceLE, Int.reduceAdd, Int.reduceSub, decide_true, decide_false, Bool.and_self, Bool.and_true, Bool.true_and, Bool.and_false, Bool.false_and, Bool.or_true, Bool.true_or, Bool.or_false, Bool.false_or, Bool.not_true, Bool.not_false, ↓reduceIte, Bool.false_eq_true, truD, bop_addI, bop_subI, bop_mulI, bop_modI, bop_fdivI, bop_pow18, bop_addT, bop_addL, cop_eq, cop_ne, cop_ltI, cop_leI, cop_gtI, cop_geI, eqD_ii, eqD_ss, eqD_bb, fits_lit, recvOk, recvOk.isL, isMut, isDic, killR, List.foldl, List.append_assoc, List.length_append, Nat.add_assoc, dk_len, st_get0, st_get1, st_get2, st_set0, st_set1, st_set2, Option.some.injEq, exists_eq_left', exists_eq_left, SV.d.injEq, PyData.bool.injEq, SV.ref.injEq, reduceCtorEq, false_and, and_false, exists_false, or_false, false_or, true_and, and_true, true_implies, false_implies, forall_const, beq_self_eq_true, Bool.true_eq_false, flP_set, flP_asg, flP_par, flP_sti, flP_expr, flP_for, flP_whl, flP_rets, bop_pow6, bop_pow9, bfn_max2, bfn_min2, bfn_tupL, bfn_tupT, bfn_lenL, bfn_lenT, bfn_listL, bfn_listT, bfn_intB, bfn_intI, SV.d.injEq, PyData.str.injEq, PyData.int.injEq, ek]
  refine FlP.forT (fun pr r m => ∃ (its : List (List Smp)) (k' : Deck), r = [none, some (.ref 1), some (.ref 2), none, none, none, none, none, none, none] ∧ m = k'.st ++ [.lst (its.map ssD)] ∧ its.length = pr.length ∧ (∀ i ∈ its, TsOk i) ∧ k'.Ok (4000 * pr.length)) ⟨[], k, rfl, rfl, rfl, (fun i hi => by cases hi), hk.mono (by simp)⟩ ?_ ?_
  · rintro pr a post r m e ⟨its, k1, rfl, rfl, hil, hio, hk1⟩
    have hpr : pr.length + 1 ≤ 3 := by
      have := congrArg List.length e
      simp only [List.length_append, List.length_cons, List.length_range] at this
      omega
    simp only [↓flP_retS, ↓outP_and, ↓outP_or, ↓outP_ite, ↓outP_cmp2, flP_of, flP_next, flP_ret, flP_bad, flP_nil, outP_ok, outP_bad, outP_of, outP_bind, outP_nox, ok_bind, ok_of, of_some, open_none, ex, ev, evs, evo, evT, evI, dat, datX, datP, datAll, dOf, seqI, lockM, openM, boxK, freshE, retOk, asgT_nm, asgT_tup, asgT_lst, asgTs_nil, asgTs_cons, List.map_cons, List.map_nil, List.cons_append, List.nil_append, List.getElem?_cons_zero, List.getElem?_cons_succ, List.length_cons, List.length_nil, List.replicate, Option.bind_some, Option.map_some, Option.isSome_some, List.set_cons_zero, List.set_cons_succ, Nat.zero_add, Nat.reduceAdd, Nat.reduceSub, Nat.reduceLT, Nat.reduceLeDiff, Nat.reduceEqDiff, Int.reduceNeg, Int.reduceLT, Int.reduceLE, Int.reduceAdd, Int.reduceSub, decide_true, decide_false, Bool.and_self, Bool.and_true, Bool.true_and, Bool.and_false, Bool.false_and, Bool.or_true, Bool.true_or, Bool.or_false, Bool.false_or, Bool.not_true, Bool.not_false, ↓reduceIte, Bool.false_eq_true, truD, bop_addI, bop_subI, bop_mulI, bop_modI, bop_fdivI, bop_pow18, bop_addT, bop_addL, cop_eq, cop_ne, cop_ltI, cop_leI, cop_gtI, cop_geI, eqD_ii, eqD_ss, eqD_bb, fits_lit, recvOk, recvOk.isL, isMut, isDic, killR, List.foldl, List.append_assoc, List.length_append, Nat.add_assoc, dk_len, st_get0, st_get1, st_get2, st_set0, st_set1, st_set2, Option.some.injEq, exists_eq_left', exists_eq_left, SV.d.injEq, PyData.bool.injEq, SV.ref.injEq, reduceCtorEq, false_and, and_false, exists_false, or_false, false_or, true_and, and_true, true_implies, false_implies, forall_const, beq_self_eq_true, Bool.true_eq_false, flP_set, flP_asg, flP_par, flP_sti, flP_expr, flP_for, flP_whl, flP_rets, bop_pow6, bop_pow9, bfn_max2, bfn_min2, bfn_tupL, bfn_tupT, bfn_lenL, bfn_lenT, bfn_listL, bfn_listT, bfn_intB, bfn_intI, SV.d.injEq, PyData.str.injEq, PyData.int.injEq]
    refine world_p (n := n + 26) h6 h7 h8 h9 h10 h11 h12 h13 hk1 (by omega) fun names S k2 W n2 hk2 => ?_
    have wl := W.len
    have hS : TsOk S := ⟨(fun s hs z => by have := (W.smp s hs).pile.pos; rw [z] at this; exact absurd this (by decide)), fun s hs x hx => W.nm x ((W.smp s hs).pile.mem x hx), fun s hs => (W.smp s hs).pile.len, fun s hs => (W.smp s hs).lo, fun s hs => (W.smp s hs).hi, by omega⟩
    have e39 : slD (ssD S) none (some 39) = some (ssD (S.take 39)) := by
      show some (PyData.tuple (cutD (S.map smD) none (some 39))) = _
      rw [cutD_to (by decide), ← List.map_take]; rfl
    simp only [↓ev_comp, ↓flP_retS, ↓outP_and, ↓outP_or, ↓outP_ite, ↓outP_cmp2, flP_of, flP_next, flP_ret, flP_bad, flP_nil, outP_ok, outP_bad, outP_of, outP_bind, outP_nox, ok_bind, ok_of, of_some, open_none, ex, ev, evs, evo, evT, evI, dat, datX, datP, datAll, dOf, seqI, lockM, openM, boxK, freshE, retOk, asgT_nm, asgT_tup, asgT_lst, asgTs_nil, asgTs_cons, List.map_cons, List.map_nil, List.cons_append, List.nil_append, List.getElem?_cons_zero, List.getElem?_cons_succ, List.length_cons, List.length_nil, List.replicate, Option.bind_some, Option.map_some, Option.isSome_some, List.set_cons_zero, List.set_cons_succ, Nat.zero_add, Nat.reduceAdd, Nat.reduceSub, Nat.reduceLT, Nat.reduceLeDiff, Nat.reduceEqDiff, Int.reduceNeg, Int.reduceLT, Int.reduceLE, Int.reduceAdd, Int.reduceSub, decide_true, decide_false, Bool.and_self, Bool.and_true, Bool.true_and, Bool.and_false, Bool.false_and, Bool.or_true, Bool.true_or, Bool.or_false, Bool.false_or, Bool.not_true, Bool.not_false, ↓reduceIte, Bool.false_eq_true, truD, bop_addI, bop_subI, bop_mulI, bop_modI, bop_fdivI, bop_pow18, bop_addT, bop_addL, cop_eq, cop_ne, cop_ltI, cop_leI, cop_gtI, cop_geI, eqD_ii, eqD_ss, eqD_bb, fits_lit, recvOk, recvOk.isL, isMut, isDic, killR, List.foldl, List.append_assoc, List.length_append, Nat.add_assoc, dk_len, st_get0, st_get1, st_get2, st_set0, st_set1, st_set2, Option.some.injEq, exists_eq_left', exists_eq_left, SV.d.injEq, PyData.bool.injEq, SV.ref.injEq, reduceCtorEq, false_and, and_false, exists_false, or_false, false_or, true_and, and_true, true_implies, false_implies, forall_const, beq_self_eq_true, Bool.true_eq_false, flP_set, flP_asg, flP_par, flP_sti, flP_expr, flP_for, flP_whl, flP_rets, bop_pow6, bop_pow9, bfn_max2, bfn_min2, bfn_tupL, bfn_tupT, bfn_lenL, bfn_lenT, bfn_listL, bfn_listT, bfn_intB, bfn_intI, SV.d.injEq, PyData.str.injEq, PyData.int.injEq]
    refine ⟨(S.map smD, none), rfl, ?_⟩
    refine OutP.compM (f := smD) (as := S) (fun s => plD s.1) (fun s hs => ⟨rfl, ?_⟩) ?_
    · simp only [eltF, ↓flP_retS, ↓outP_and, ↓outP_or, ↓outP_ite, ↓outP_cmp2, flP_of, flP_next, flP_ret, flP_bad, flP_nil, outP_ok, outP_bad, outP_of, outP_bind, outP_nox, ok_bind, ok_of, of_some, open_none, ex, ev, evs, evo, evT, evI, dat, datX, datP, datAll, dOf, seqI, lockM, openM, boxK, freshE, retOk, asgT_nm, asgT_tup, asgT_lst, asgTs_nil, asgTs_cons, List.map_cons, List.map_nil, List.cons_append, List.nil_append, List.getElem?_cons_zero, List.getElem?_cons_succ, List.length_cons, List.length_nil, List.replicate, Option.bind_some, Option.map_some, Option.isSome_some, List.set_cons_zero, List.set_cons_succ, Nat.zero_add, Nat.reduceAdd, Nat.reduceSub, Nat.reduceLT, Nat.reduceLeDiff, Nat.reduceEqDiff, Int.reduceNeg, Int.reduceLT, Int.reduceLE, Int.reduceAdd, Int.reduceSub, decide_true, decide_false, Bool.and_self, Bool.and_true, Bool.true_and, Bool.and_false, Bool.false_and, Bool.or_true, Bool.true_or, Bool.or_false, Bool.false_or, Bool.not_true, Bool.not_false, ↓reduceIte, Bool.false_eq_true, truD, bop_addI, bop_subI, bop_mulI, bop_modI, bop_fdivI, bop_pow18, bop_addT, bop_addL, cop_eq, cop_ne, cop_ltI, cop_leI, cop_gtI, cop_geI, eqD_ii, eqD_ss, eqD_bb, fits_lit, recvOk, recvOk.isL, isMut, isDic, killR, List.foldl, List.append_assoc, List.length_append, Nat.add_assoc, dk_len, st_get0, st_get1, st_get2, st_set0, st_set1, st_set2, Option.some.injEq, exists_eq_left', exists_eq_left, SV.d.injEq, PyData.bool.injEq, SV.ref.injEq, reduceCtorEq, false_and, and_false, exists_false, or_false, false_or, true_and, and_true, true_implies, false_implies, forall_const, beq_self_eq_true, Bool.true_eq_false, flP_set, flP_asg, flP_par, flP_sti, flP_expr, flP_for, flP_whl, flP_rets, bop_pow6, bop_pow9, bfn_max2, bfn_min2, bfn_tupL, bfn_tupT, bfn_lenL, bfn_lenT, bfn_listL, bfn_listT, bfn_intB, bfn_intI, SV.d.injEq, PyData.str.injEq, PyData.int.injEq, smD, noxK]
    have hfp : fitsN (S.map fun s => plD s.1).length = true := fits_lit (by rw [List.length_map]; omega)
    have em : (S.map fun s => plD s.1) = (S.map (·.1)).map plD := by rw [List.map_map]; rfl
    simp only [↓flP_retS, ↓outP_and, ↓outP_or, ↓outP_ite, ↓outP_cmp2, flP_of, flP_next, flP_ret, flP_bad, flP_nil, outP_ok, outP_bad, outP_of, outP_bind, outP_nox, ok_bind, ok_of, of_some, open_none, ex, ev, evs, evo, evT, evI, dat, datX, datP, datAll, dOf, seqI, lockM, openM, boxK, freshE, retOk, asgT_nm, asgT_tup, asgT_lst, asgTs_nil, asgTs_cons, List.map_cons, List.map_nil, List.cons_append, List.nil_append, List.getElem?_cons_zero, List.getElem?_cons_succ, List.length_cons, List.length_nil, List.replicate, Option.bind_some, Option.map_some, Option.isSome_some, List.set_cons_zero, List.set_cons_succ, Nat.zero_add, Nat.reduceAdd, Nat.reduceSub, Nat.reduceLT, Nat.reduceLeDiff, Nat.reduceEqDiff, Int.reduceNeg, Int.reduceLT, Int.reduceLE, Int.reduceAdd, Int.reduceSub, decide_true, decide_false, Bool.and_self, Bool.and_true, Bool.true_and, Bool.and_false, Bool.false_and, Bool.or_true, Bool.true_or, Bool.or_false, Bool.false_or, Bool.not_true, Bool.not_false, ↓reduceIte, Bool.false_eq_true, truD, bop_addI, bop_subI, bop_mulI, bop_modI, bop_fdivI, bop_pow18, bop_addT, bop_addL, cop_eq, cop_ne, cop_ltI, cop_leI, cop_gtI, cop_geI, eqD_ii, eqD_ss, eqD_bb, fits_lit, recvOk, recvOk.isL, isMut, isDic, killR, List.foldl, List.append_assoc, List.length_append, Nat.add_assoc, dk_len, st_get0, st_get1, st_get2, st_set0, st_set1, st_set2, Option.some.injEq, exists_eq_left', exists_eq_left, SV.d.injEq, PyData.bool.injEq, SV.ref.injEq, reduceCtorEq, false_and, and_false, exists_false, or_false, false_or, true_and, and_true, true_implies, false_implies, forall_const, beq_self_eq_true, Bool.true_eq_false, flP_set, flP_asg, flP_par, flP_sti, flP_expr, flP_for, flP_whl, flP_rets, bop_pow6, bop_pow9, bfn_max2, bfn_min2, bfn_tupL, bfn_tupT, bfn_lenL, bfn_lenT, bfn_listL, bfn_listT, bfn_intB, bfn_intI, SV.d.injEq, PyData.str.injEq, PyData.int.injEq, hfp, e39]
    rw [em]
    refine pile_p (n := n + 28) (names := names) (known := S.map (·.1)) (most := 6) h6 h7 h10 hk2 (by omega) W.nm W.n1 (by have := W.n2; omega) (by rw [List.length_map]; omega) (fun p hp => by
      obtain ⟨s, hs, rfl⟩ := List.mem_map.mp hp
      exact (W.smp s hs).pile) (by decide) (by decide) fun p k3 hp hk3 => ?_
    have ad : bop .add (ssD (S.take 39)) (.tuple [.tuple [plD p, .int 1]]) = some (ssD (S.take 39 ++ [(p, 1)])) := by
      show bop .add (.tuple ((S.take 39).map smD)) (.tuple [smD (p, 1)]) = _
      rw [bop_addT (by rw [List.length_map, List.length_take]; simp only [List.length_cons, List.length_nil]; omega)]
      show some (PyData.tuple (_ ++ [smD (p, 1)])) = some (PyData.tuple _)
      rw [List.map_append]; rfl
    have hM : TsOk (S.take 39 ++ [(p, 1)]) := by
      have hin : ∀ s ∈ S.take 39 ++ [(p, 1)], s ∈ S ∨ s = (p, 1) := fun s hs => by
        rcases List.mem_append.mp hs with hs | hs
        · exact .inl (List.mem_of_mem_take hs)
        · exact .inr (List.mem_singleton.mp hs)
      refine ⟨fun s hs => ?_, fun s hs => ?_, fun s hs => ?_, fun s hs => ?_, fun s hs => ?_, by rw [List.length_append, List.length_take]; simp only [List.length_cons, List.length_nil]; omega⟩
      · rcases hin s hs with h | rfl
        · exact hS.ne s h
        · intro z
          have z : p = [] := z
          have := hp.pos; rw [z] at this; exact absurd this (by decide)
      · rcases hin s hs with h | rfl
        · exact hS.nm s h
        · exact fun x hx => W.nm x (hp.mem x hx)
      · rcases hin s hs with h | rfl
        · exact hS.pl s h
        · exact hp.len
      · rcases hin s hs with h | rfl
        · exact hS.lo s h
        · exact Int.le_refl 1
      · rcases hin s hs with h | rfl
        · exact hS.hi s h
        · show (1 : Int) ≤ 1000000000; decide
    have hap : mmu .append (its.map ssD) [ssD S] = some ((its ++ [S]).map ssD, .none) := by
      rw [app_mmu (by rw [List.length_map]; omega), List.map_append]; rfl
    have r1 := fun m => right m hS
    have r2 := fun m => right m hM
    simp only [↓flP_retS, ↓outP_and, ↓outP_or, ↓outP_ite, ↓outP_cmp2, flP_of, flP_next, flP_ret, flP_bad, flP_nil, outP_ok, outP_bad, outP_of, outP_bind, outP_nox, ok_bind, ok_of, of_some, open_none, ex, ev, evs, evo, evT, evI, dat, datX, datP, datAll, dOf, seqI, lockM, openM, boxK, freshE, retOk, asgT_nm, asgT_tup, asgT_lst, asgTs_nil, asgTs_cons, List.map_cons, List.map_nil, List.cons_append, List.nil_append, List.getElem?_cons_zero, List.getElem?_cons_succ, List.length_cons, List.length_nil, List.replicate, Option.bind_some, Option.map_some, Option.isSome_some, List.set_cons_zero, List.set_cons_succ, Nat.zero_add, Nat.reduceAdd, Nat.reduceSub, Nat.reduceLT, Nat.reduceLeDiff, Nat.reduceEqDiff, Int.reduceNeg, Int.reduceLT, Int.reduceLE, Int.reduceAdd, Int.reduceSub, decide_true, decide_false, Bool.and_self, Bool.and_true, Bool.true_and, Bool.and_false, Bool.false_and, Bool.or_true, Bool.true_or, Bool.or_false, Bool.false_or, Bool.not_true, Bool.not_false, ↓reduceIte, Bool.false_eq_true, truD, bop_addI, bop_subI, bop_mulI, bop_modI, bop_fdivI, bop_pow18, bop_addT, bop_addL, cop_eq, cop_ne, cop_ltI, cop_leI, cop_gtI, cop_geI, eqD_ii, eqD_ss, eqD_bb, fits_lit, recvOk, recvOk.isL, isMut, isDic, killR, List.foldl, List.append_assoc, List.length_append, Nat.add_assoc, dk_len, st_get0, st_get1, st_get2, st_set0, st_set1, st_set2, Option.some.injEq, exists_eq_left', exists_eq_left, SV.d.injEq, PyData.bool.injEq, SV.ref.injEq, reduceCtorEq, false_and, and_false, exists_false, or_false, false_or, true_and, and_true, true_implies, false_implies, forall_const, beq_self_eq_true, Bool.true_eq_false, flP_set, flP_asg, flP_par, flP_sti, flP_expr, flP_for, flP_whl, flP_rets, bop_pow6, bop_pow9, bfn_max2, bfn_min2, bfn_tupL, bfn_tupT, bfn_lenL, bfn_lenT, bfn_listL, bfn_listT, bfn_intB, bfn_intI, SV.d.injEq, PyData.str.injEq, PyData.int.injEq, flP_ifs, ad, r1, r2, sg0, hap, ss0]
    refine ⟨its ++ [S], k3, rfl, by rw [List.length_append, hil]; rfl, fun i hi => ?_, hk3.mono (by omega)⟩
    rcases List.mem_append.mp hi with hi | hi
    · exact hio i hi
    · rw [List.mem_singleton] at hi
      subst hi
      exact hS
  · rintro r m ⟨its, k1, rfl, rfl, hil, hio, hk1⟩
    simp only [↓flP_retS, ↓outP_and, ↓outP_or, ↓outP_ite, ↓outP_cmp2, flP_of, flP_next, flP_ret, flP_bad, flP_nil, outP_ok, outP_bad, outP_of, outP_bind, outP_nox, ok_bind, ok_of, of_some, open_none, ex, ev, evs, evo, evT, evI, dat, datX, datP, datAll, dOf, seqI, lockM, openM, boxK, freshE, retOk, asgT_nm, asgT_tup, asgT_lst, asgTs_nil, asgTs_cons, List.map_cons, List.map_nil, List.cons_append, List.nil_append, List.getElem?_cons_zero, List.getElem?_cons_succ, List.length_cons, List.length_nil, List.replicate, Option.bind_some, Option.map_some, Option.isSome_some, List.set_cons_zero, List.set_cons_succ, Nat.zero_add, Nat.reduceAdd, Nat.reduceSub, Nat.reduceLT, Nat.reduceLeDiff, Nat.reduceEqDiff, Int.reduceNeg, Int.reduceLT, Int.reduceLE, Int.reduceAdd, Int.reduceSub, decide_true, decide_false, Bool.and_self, Bool.and_true, Bool.true_and, Bool.and_false, Bool.false_and, Bool.or_true, Bool.true_or, Bool.or_false, Bool.false_or, Bool.not_true, Bool.not_false, ↓reduceIte, Bool.false_eq_true, truD, bop_addI, bop_subI, bop_mulI, bop_modI, bop_fdivI, bop_pow18, bop_addT, bop_addL, cop_eq, cop_ne, cop_ltI, cop_leI, cop_gtI, cop_geI, eqD_ii, eqD_ss, eqD_bb, fits_lit, recvOk, recvOk.isL, isMut, isDic, killR, List.foldl, List.append_assoc, List.length_append, Nat.add_assoc, dk_len, st_get0, st_get1, st_get2, st_set0, st_set1, st_set2, Option.some.injEq, exists_eq_left', exists_eq_left, SV.d.injEq, PyData.bool.injEq, SV.ref.injEq, reduceCtorEq, false_and, and_false, exists_false, or_false, false_or, true_and, and_true, true_implies, false_implies, forall_const, beq_self_eq_true, Bool.true_eq_false, flP_set, flP_asg, flP_par, flP_sti, flP_expr, flP_for, flP_whl, flP_rets, bop_pow6, bop_pow9, bfn_max2, bfn_min2, bfn_tupL, bfn_tupT, bfn_lenL, bfn_lenT, bfn_listL, bfn_listT, bfn_intB, bfn_intI, SV.d.injEq, PyData.str.injEq, PyData.int.injEq, sg0, ss0]
    rw [flP_openS]
    refine FlP.forT (f := ssD) (as := its) (fun pr r m => r = [none, none, none, none, none, none, none, none, none, none] ∧ m = k1.st ++ [.dead]) ⟨rfl, rfl⟩ ?_ ?_
    · rintro pr S post r m e ⟨rfl, rfl⟩
      have r1 := fun m => right m (hio S (by rw [e]; simp))
      simp only [↓flP_retS, ↓outP_and, ↓outP_or, ↓outP_ite, ↓outP_cmp2, flP_of, flP_next, flP_ret, flP_bad, flP_nil, outP_ok, outP_bad, outP_of, outP_bind, outP_nox, ok_bind, ok_of, of_some, open_none, ex, ev, evs, evo, evT, evI, dat, datX, datP, datAll, dOf, seqI, lockM, openM, boxK, freshE, retOk, asgT_nm, asgT_tup, asgT_lst, asgTs_nil, asgTs_cons, List.map_cons, List.map_nil, List.cons_append, List.nil_append, List.getElem?_cons_zero, List.getElem?_cons_succ, List.length_cons, List.length_nil, List.replicate, Option.bind_some, Option.map_some, Option.isSome_some, List.set_cons_zero, List.set_cons_succ, Nat.zero_add, Nat.reduceAdd, Nat.reduceSub, Nat.reduceLT, Nat.reduceLeDiff, Nat.reduceEqDiff, Int.reduceNeg, Int.reduceLT, Int.reduceLE, Int.reduceAdd, Int.reduceSub, decide_true, decide_false, Bool.and_self, Bool.and_true, Bool.true_and, Bool.and_false, Bool.false_and, Bool.or_true, Bool.true_or, Bool.or_false, Bool.false_or, Bool.not_true, Bool.not_false, ↓reduceIte, Bool.false_eq_true, truD, bop_addI, bop_subI, bop_mulI, bop_modI, bop_fdivI, bop_pow18, bop_addT, bop_addL, cop_eq, cop_ne, cop_ltI, cop_leI, cop_gtI, cop_geI, eqD_ii, eqD_ss, eqD_bb, fits_lit, recvOk, recvOk.isL, isMut, isDic, killR, List.foldl, List.append_assoc, List.length_append, Nat.add_assoc, dk_len, st_get0, st_get1, st_get2, st_set0, st_set1, st_set2, Option.some.injEq, exists_eq_left', exists_eq_left, SV.d.injEq, PyData.bool.injEq, SV.ref.injEq, reduceCtorEq, false_and, and_false, exists_false, or_false, false_or, true_and, and_true, true_implies, false_implies, forall_const, beq_self_eq_true, Bool.true_eq_false, flP_set, flP_asg, flP_par, flP_sti, flP_expr, flP_for, flP_whl, flP_rets, bop_pow6, bop_pow9, bfn_max2, bfn_min2, bfn_tupL, bfn_tupT, bfn_lenL, bfn_lenT, bfn_listL, bfn_listT, bfn_intB, bfn_intI, SV.d.injEq, PyData.str.injEq, PyData.int.injEq, flP_ifs, r1]
    · rintro r m ⟨rfl, rfl⟩
      have t0 : TsOk [] := ⟨(fun s hs => by cases hs), (fun s hs => by cases hs), (fun s hs => by cases hs), (fun s hs => by cases hs), (fun s hs => by cases hs), by decide⟩
      have c90 : ∀ m, callI G (n + 31) 90 [.d (.tuple [])] m = .ok (.d (.tuple [])) m := fun m => by
        have := smpO_e (n := n + 16) (S := []) (m := m) h86 h87 h90 t0
        rw [show gath [] = [] from gath_self List.nodup_nil List.Pairwise.nil] at this
        exact this
      have c91 : ∀ m, callI G (n + 31) 91 [.d (.tuple [])] m = .ok (.d (.int 0)) m := fun m => totO_e (n := n + 29) (S := []) h60 h91 t0
      have cI : ∀ m, callI G (n + 31) 25 [.d (.int 0), .d (.int 0)] m = .ok (.d (.bool true)) m := fun m => sameI_e (n := n + 30) h25
      have e1 : eqD (.tuple []) (.tuple []) = some true := eqD_nilT (xs := []) (n := 1) (fine_tup fun x hx => by cases hx) (by decide)
      simp only [↓flP_retS, ↓outP_and, ↓outP_or, ↓outP_ite, ↓outP_cmp2, flP_of, flP_next, flP_ret, flP_bad, flP_nil, outP_ok, outP_bad, outP_of, outP_bind, outP_nox, ok_bind, ok_of, of_some, open_none, ex, ev, evs, evo, evT, evI, dat, datX, datP, datAll, dOf, seqI, lockM, openM, boxK, freshE, retOk, asgT_nm, asgT_tup, asgT_lst, asgTs_nil, asgTs_cons, List.map_cons, List.map_nil, List.cons_append, List.nil_append, List.getElem?_cons_zero, List.getElem?_cons_succ, List.length_cons, List.length_nil, List.replicate, Option.bind_some, Option.map_some, Option.isSome_some, List.set_cons_zero, List.set_cons_succ, Nat.zero_add, Nat.reduceAdd, Nat.reduceSub, Nat.reduceLT, Nat.reduceLeDiff, Nat.reduceEqDiff, Int.reduceNeg, Int.reduceLT, Int.reduceLE, Int.reduceAdd, Int.reduceSub, decide_true, decide_false, Bool.and_self, Bool.and_true, Bool.true_and, Bool.and_false, Bool.false_and, Bool.or_true, Bool.true_or, Bool.or_false, Bool.false_or, Bool.not_true, Bool.not_false, ↓reduceIte, Bool.false_eq_true, truD, bop_addI, bop_subI, bop_mulI, bop_modI, bop_fdivI, bop_pow18, bop_addT, bop_addL, cop_eq, cop_ne, cop_ltI, cop_leI, cop_gtI, cop_geI, eqD_ii, eqD_ss, eqD_bb, fits_lit, recvOk, recvOk.isL, isMut, isDic, killR, List.foldl, List.append_assoc, List.length_append, Nat.add_assoc, dk_len, st_get0, st_get1, st_get2, st_set0, st_set1, st_set2, Option.some.injEq, exists_eq_left', exists_eq_left, SV.d.injEq, PyData.bool.injEq, SV.ref.injEq, reduceCtorEq, false_and, and_false, exists_false, or_false, false_or, true_and, and_true, true_implies, false_implies, forall_const, beq_self_eq_true, Bool.true_eq_false, flP_set, flP_asg, flP_par, flP_sti, flP_expr, flP_for, flP_whl, flP_rets, bop_pow6, bop_pow9, bfn_max2, bfn_min2, bfn_tupL, bfn_tupT, bfn_lenL, bfn_lenT, bfn_listL, bfn_listT, bfn_intB, bfn_intI, SV.d.injEq, PyData.str.injEq, PyData.int.injEq, flP_ifs, c90, c91, cI, e1]
end
end Pil

set_option Elab.async false
set_option linter.all false
set_option maxRecDepth 100000
set_option maxHeartbeats 4000000
namespace Pil
open PySem PySem.Spec PyProof.Rows L2
def topS (i : Nat) : Stmt := PySem.Challenge.pw_pilesamples_k10_samples_that_come_back.main.body.getD i (.Pass ⟨0, 0, 0, 0⟩)
def tab : List Entry := [⟨23, F23, topS 1⟩, ⟨60, F60, topS 3⟩, ⟨77, F77, topS 4⟩, ⟨78, F78, topS 5⟩, ⟨79, F79, topS 6⟩, ⟨86, F86, topS 7⟩, ⟨87, F87, topS 8⟩, ⟨90, F90, topS 9⟩, ⟨91, F91, topS 10⟩, ⟨5, F5, topS 12⟩, ⟨6, F6, topS 13⟩, ⟨7, F7, topS 14⟩, ⟨8, F8, topS 15⟩, ⟨9, F9, topS 16⟩, ⟨10, F10, topS 17⟩, ⟨11, F11, topS 18⟩, ⟨12, F12, topS 19⟩, ⟨13, F13, topS 20⟩, ⟨24, F24, topS 21⟩, ⟨66, F66, topS 22⟩, ⟨67, F67, topS 23⟩, ⟨25, F25, topS 24⟩, ⟨92, F92, topS 25⟩, ⟨93, F93, topS 26⟩]
def gcs : List (Str × Const) := []
theorem chk23 : okE tab gcs ⟨23, F23, topS 1⟩ = true := by decide +kernel
theorem chk60 : okE tab gcs ⟨60, F60, topS 3⟩ = true := by decide +kernel
theorem chk77 : okE tab gcs ⟨77, F77, topS 4⟩ = true := by decide +kernel
theorem chk78 : okE tab gcs ⟨78, F78, topS 5⟩ = true := by decide +kernel
theorem chk79 : okE tab gcs ⟨79, F79, topS 6⟩ = true := by decide +kernel
theorem chk86 : okE tab gcs ⟨86, F86, topS 7⟩ = true := by decide +kernel
theorem chk87 : okE tab gcs ⟨87, F87, topS 8⟩ = true := by decide +kernel
theorem chk90 : okE tab gcs ⟨90, F90, topS 9⟩ = true := by decide +kernel
theorem chk91 : okE tab gcs ⟨91, F91, topS 10⟩ = true := by decide +kernel
theorem chk5 : okE tab gcs ⟨5, F5, topS 12⟩ = true := by decide +kernel
theorem chk6 : okE tab gcs ⟨6, F6, topS 13⟩ = true := by decide +kernel
theorem chk7 : okE tab gcs ⟨7, F7, topS 14⟩ = true := by decide +kernel
theorem chk8 : okE tab gcs ⟨8, F8, topS 15⟩ = true := by decide +kernel
theorem chk9 : okE tab gcs ⟨9, F9, topS 16⟩ = true := by decide +kernel
theorem chk10 : okE tab gcs ⟨10, F10, topS 17⟩ = true := by decide +kernel
theorem chk11 : okE tab gcs ⟨11, F11, topS 18⟩ = true := by decide +kernel
theorem chk12 : okE tab gcs ⟨12, F12, topS 19⟩ = true := by decide +kernel
theorem chk13 : okE tab gcs ⟨13, F13, topS 20⟩ = true := by decide +kernel
theorem chk24 : okE tab gcs ⟨24, F24, topS 21⟩ = true := by decide +kernel
theorem chk66 : okE tab gcs ⟨66, F66, topS 22⟩ = true := by decide +kernel
theorem chk67 : okE tab gcs ⟨67, F67, topS 23⟩ = true := by decide +kernel
theorem chk25 : okE tab gcs ⟨25, F25, topS 24⟩ = true := by decide +kernel
theorem chk92 : okE tab gcs ⟨92, F92, topS 25⟩ = true := by decide +kernel
theorem chk93 : okE tab gcs ⟨93, F93, topS 26⟩ = true := by decide +kernel
theorem chk : tab.all (okE tab gcs) = true := by
  simp only [tab, List.all_cons, List.all_nil, Bool.and_eq_true]
  exact ⟨chk23, chk60, chk77, chk78, chk79, chk86, chk87, chk90, chk91, chk5, chk6, chk7, chk8, chk9, chk10, chk11, chk12, chk13, chk24, chk66, chk67, chk25, chk92, chk93, trivial⟩
theorem pl23 : Plain (topS 1) F23.ps := fun _ _ _ _ _ _ _ us hl => match us, hl with | [_], _ => rfl
theorem pl60 : Plain (topS 3) F60.ps := fun _ _ _ _ _ _ _ us hl => match us, hl with | [_], _ => rfl
theorem pl77 : Plain (topS 4) F77.ps := fun _ _ _ _ _ _ _ us hl => match us, hl with | [_, _], _ => rfl
theorem pl78 : Plain (topS 5) F78.ps := fun _ _ _ _ _ _ _ us hl => match us, hl with | [_, _], _ => rfl
theorem pl79 : Plain (topS 6) F79.ps := fun _ _ _ _ _ _ _ us hl => match us, hl with | [_], _ => rfl
theorem pl86 : Plain (topS 7) F86.ps := fun _ _ _ _ _ _ _ us hl => match us, hl with | [_, _], _ => rfl
theorem pl87 : Plain (topS 8) F87.ps := fun _ _ _ _ _ _ _ us hl => match us, hl with | [_], _ => rfl
theorem pl90 : Plain (topS 9) F90.ps := fun _ _ _ _ _ _ _ us hl => match us, hl with | [_], _ => rfl
theorem pl91 : Plain (topS 10) F91.ps := fun _ _ _ _ _ _ _ us hl => match us, hl with | [_], _ => rfl
theorem pl5 : Plain (topS 12) F5.ps := fun _ _ _ _ _ _ _ us hl => match us, hl with | [_], _ => rfl
theorem pl6 : Plain (topS 13) F6.ps := fun _ _ _ _ _ _ _ us hl => match us, hl with | [_, _], _ => rfl
theorem pl7 : Plain (topS 14) F7.ps := fun _ _ _ _ _ _ _ us hl => match us, hl with | [_, _], _ => rfl
theorem pl8 : Plain (topS 15) F8.ps := fun _ _ _ _ _ _ _ us hl => match us, hl with | [_, _], _ => rfl
theorem pl9 : Plain (topS 16) F9.ps := fun _ _ _ _ _ _ _ us hl => match us, hl with | [_, _], _ => rfl
theorem pl10 : Plain (topS 17) F10.ps := fun _ _ _ _ _ _ _ us hl => match us, hl with | [_, _, _, _], _ => rfl
theorem pl11 : Plain (topS 18) F11.ps := fun _ _ _ _ _ _ _ us hl => match us, hl with | [_, _, _, _], _ => rfl
theorem pl12 : Plain (topS 19) F12.ps := fun _ _ _ _ _ _ _ us hl => match us, hl with | [_], _ => rfl
theorem pl13 : Plain (topS 20) F13.ps := fun _ _ _ _ _ _ _ us hl => match us, hl with | [_], _ => rfl
theorem pl24 : Plain (topS 21) F24.ps := fun _ _ _ _ _ _ _ us hl => match us, hl with | [_], _ => rfl
theorem pl66 : Plain (topS 22) F66.ps := fun _ _ _ _ _ _ _ us hl => match us, hl with | [_], _ => rfl
theorem pl67 : Plain (topS 23) F67.ps := fun _ _ _ _ _ _ _ us hl => match us, hl with | [_], _ => rfl
theorem pl25 : Plain (topS 24) F25.ps := fun _ _ _ _ _ _ _ us hl => match us, hl with | [_, _], _ => rfl
theorem pl92 : Plain (topS 25) F92.ps := fun _ _ _ _ _ _ _ us hl => match us, hl with | [_], _ => rfl
theorem pl93 : Plain (topS 26) F93.ps := fun _ _ _ _ _ _ _ us hl => match us, hl with | [_], _ => rfl
theorem pls : ∀ e ∈ tab, Plain e.st e.F.ps := by
  intro e he
  simp only [tab, List.mem_cons, List.not_mem_nil, or_false] at he
  rcases he with rfl | rfl | rfl | rfl | rfl | rfl | rfl | rfl | rfl | rfl | rfl | rfl | rfl | rfl | rfl | rfl | rfl | rfl | rfl | rfl | rfl | rfl | rfl | rfl
  · exact pl23
  · exact pl60
  · exact pl77
  · exact pl78
  · exact pl79
  · exact pl86
  · exact pl87
  · exact pl90
  · exact pl91
  · exact pl5
  · exact pl6
  · exact pl7
  · exact pl8
  · exact pl9
  · exact pl10
  · exact pl11
  · exact pl12
  · exact pl13
  · exact pl24
  · exact pl66
  · exact pl67
  · exact pl25
  · exact pl92
  · exact pl93
theorem eqL : ∀ ns : List Int, ns.length ≤ 63 → ∃ m, callI (tabG tab) 32 93 [.ext ns] [] = .ok (.d (.bool true)) m := fun ns hl => law10 (n := 0) rfl rfl rfl rfl rfl rfl rfl rfl rfl rfl rfl rfl rfl rfl rfl rfl rfl rfl rfl rfl rfl rfl rfl rfl hl
theorem tabK_mk {K : PySem.W.Frag} (d0 : DefK K F23.nm (topS 1)) (d1 : DefK K F60.nm (topS 3)) (d2 : DefK K F77.nm (topS 4)) (d3 : DefK K F78.nm (topS 5)) (d4 : DefK K F79.nm (topS 6)) (d5 : DefK K F86.nm (topS 7)) (d6 : DefK K F87.nm (topS 8)) (d7 : DefK K F90.nm (topS 9)) (d8 : DefK K F91.nm (topS 10)) (d9 : DefK K F5.nm (topS 12)) (d10 : DefK K F6.nm (topS 13)) (d11 : DefK K F7.nm (topS 14)) (d12 : DefK K F8.nm (topS 15)) (d13 : DefK K F9.nm (topS 16)) (d14 : DefK K F10.nm (topS 17)) (d15 : DefK K F11.nm (topS 18)) (d16 : DefK K F12.nm (topS 19)) (d17 : DefK K F13.nm (topS 20)) (d18 : DefK K F24.nm (topS 21)) (d19 : DefK K F66.nm (topS 22)) (d20 : DefK K F67.nm (topS 23)) (d21 : DefK K F25.nm (topS 24)) (d22 : DefK K F92.nm (topS 25)) (d23 : DefK K F93.nm (topS 26)) (z0 : PySem.W.nsIn K mainGlobals "len" = some none) (z1 : PySem.W.nsIn K mainGlobals "int" = some none) (z2 : PySem.W.nsIn K mainGlobals "str" = some none) (z3 : PySem.W.nsIn K mainGlobals "list" = some none) (z4 : PySem.W.nsIn K mainGlobals "tuple" = some none) (z5 : PySem.W.nsIn K mainGlobals "sum" = some none) (z6 : PySem.W.nsIn K mainGlobals "max" = some none) (z7 : PySem.W.nsIn K mainGlobals "min" = some none) (z8 : PySem.W.nsIn K mainGlobals "all" = some none) (z9 : PySem.W.nsIn K mainGlobals "any" = some none) (z10 : PySem.W.nsIn K mainGlobals "abs" = some none) (z11 : PySem.W.nsIn K mainGlobals "range" = some none) (z12 : PySem.W.nsIn K mainGlobals "zip" = some none) (z13 : PySem.W.nsIn K mainGlobals "enumerate" = some none) (z14 : PySem.W.nsIn K mainGlobals "isinstance" = some none) (z15 : PySem.W.nsIn K mainGlobals "bool" = some none) (z16 : PySem.W.nsIn K mainGlobals "dict" = some none) (z17 : PySem.W.nsIn K mainGlobals "set" = some none) (z18 : PySem.W.nsIn K mainGlobals "sorted" = some none) (z19 : PySem.W.nsIn K mainGlobals "reversed" = some none) (z20 : PySem.W.nsIn K mainGlobals "repr" = some none)  : TabK K tab gcs where
  defs := fun e he => by
    simp only [tab, List.mem_cons, List.not_mem_nil, or_false] at he
    rcases he with rfl | rfl | rfl | rfl | rfl | rfl | rfl | rfl | rfl | rfl | rfl | rfl | rfl | rfl | rfl | rfl | rfl | rfl | rfl | rfl | rfl | rfl | rfl | rfl
    · exact d0
    · exact d1
    · exact d2
    · exact d3
    · exact d4
    · exact d5
    · exact d6
    · exact d7
    · exact d8
    · exact d9
    · exact d10
    · exact d11
    · exact d12
    · exact d13
    · exact d14
    · exact d15
    · exact d16
    · exact d17
    · exact d18
    · exact d19
    · exact d20
    · exact d21
    · exact d22
    · exact d23
  blt := fun x hx => by
    simp only [bltNames, List.mem_cons, List.not_mem_nil, or_false] at hx
    rcases hx with rfl | rfl | rfl | rfl | rfl | rfl | rfl | rfl | rfl | rfl | rfl | rfl | rfl | rfl | rfl | rfl | rfl | rfl | rfl | rfl | rfl
    · exact z0
    · exact z1
    · exact z2
    · exact z3
    · exact z4
    · exact z5
    · exact z6
    · exact z7
    · exact z8
    · exact z9
    · exact z10
    · exact z11
    · exact z12
    · exact z13
    · exact z14
    · exact z15
    · exact z16
    · exact z17
    · exact z18
    · exact z19
    · exact z20
  gcs := fun x k hx => by
    cases hx
end Pil
open PySem PySem.W PyProof.Rows
set_option maxHeartbeats 0 in
theorem PySem.Challenge.cw_pilesamples_k10_samples_that_come_back_holds : PySem.Challenge.rw_pilesamples_k10_samples_that_come_back.Holds := by
  w_on; o_law; k_head; (case hw => w_witness2)
  k_fill
  refine Pil.walk_ofG (l := PySem.Challenge.rw_pilesamples_k10_samples_that_come_back) (n := 63) (k := 32) (x := "_law_script") (CX := fun w => L2.CX PySem.Challenge.rw_pilesamples_k10_samples_that_come_back.prog w) (sp := fun w => Pil.spI ⟨_, fun _ => 0, fun _ => 0, fun _ => False⟩ (Pil.tabG Pil.tab) 32 93) rfl (by decide) rfl ⟨rfl, by decide, by decide⟩ (fun w h Y => PySem.W.kIn_of Y) ?F (fun w H a ns hl hO hS => Pil.sp_end Pil.eqL H a ns hl hO hS) ?C
  case C =>
    intro w H s e s' h
    obtain ⟨_, _, _, _, _, _, _, _, _, _, _, _, z⟩ := h
    exact z
  case F =>
    intro w mg fa h KX G hmg
    refine' Pil.tab_end (F0 := Pil.F93) Pil.chk Pil.pls rfl rfl KX G hmg (Pil.tabK_mk (Pil.defK_mk ?a0 ?l0 ?c0 ?k0) (Pil.defK_mk ?a1 ?l1 ?c1 ?k1) (Pil.defK_mk ?a2 ?l2 ?c2 ?k2) (Pil.defK_mk ?a3 ?l3 ?c3 ?k3) (Pil.defK_mk ?a4 ?l4 ?c4 ?k4) (Pil.defK_mk ?a5 ?l5 ?c5 ?k5) (Pil.defK_mk ?a6 ?l6 ?c6 ?k6) (Pil.defK_mk ?a7 ?l7 ?c7 ?k7) (Pil.defK_mk ?a8 ?l8 ?c8 ?k8) (Pil.defK_mk ?a9 ?l9 ?c9 ?k9) (Pil.defK_mk ?a10 ?l10 ?c10 ?k10) (Pil.defK_mk ?a11 ?l11 ?c11 ?k11) (Pil.defK_mk ?a12 ?l12 ?c12 ?k12) (Pil.defK_mk ?a13 ?l13 ?c13 ?k13) (Pil.defK_mk ?a14 ?l14 ?c14 ?k14) (Pil.defK_mk ?a15 ?l15 ?c15 ?k15) (Pil.defK_mk ?a16 ?l16 ?c16 ?k16) (Pil.defK_mk ?a17 ?l17 ?c17 ?k17) (Pil.defK_mk ?a18 ?l18 ?c18 ?k18) (Pil.defK_mk ?a19 ?l19 ?c19 ?k19) (Pil.defK_mk ?a20 ?l20 ?c20 ?k20) (Pil.defK_mk ?a21 ?l21 ?c21 ?k21) (Pil.defK_mk ?a22 ?l22 ?c22 ?k22) (Pil.defK_mk ?a23 ?l23 ?c23 ?k23) ?z0 ?z1 ?z2 ?z3 ?z4 ?z5 ?z6 ?z7 ?z8 ?z9 ?z10 ?z11 ?z12 ?z13 ?z14 ?z15 ?z16 ?z17 ?z18 ?z19 ?z20 )
    (case a0 => k_is); (case l0 => k_is); (case c0 => k_is); (case k0 => k_is)
    (case a1 => k_is); (case l1 => k_is); (case c1 => k_is); (case k1 => k_is)
    (case a2 => k_is); (case l2 => k_is); (case c2 => k_is); (case k2 => k_is)
    (case a3 => k_is); (case l3 => k_is); (case c3 => k_is); (case k3 => k_is)
    (case a4 => k_is); (case l4 => k_is); (case c4 => k_is); (case k4 => k_is)
    (case a5 => k_is); (case l5 => k_is); (case c5 => k_is); (case k5 => k_is)
    (case a6 => k_is); (case l6 => k_is); (case c6 => k_is); (case k6 => k_is)
    (case a7 => k_is); (case l7 => k_is); (case c7 => k_is); (case k7 => k_is)
    (case a8 => k_is); (case l8 => k_is); (case c8 => k_is); (case k8 => k_is)
    (case a9 => k_is); (case l9 => k_is); (case c9 => k_is); (case k9 => k_is)
    (case a10 => k_is); (case l10 => k_is); (case c10 => k_is); (case k10 => k_is)
    (case a11 => k_is); (case l11 => k_is); (case c11 => k_is); (case k11 => k_is)
    (case a12 => k_is); (case l12 => k_is); (case c12 => k_is); (case k12 => k_is)
    (case a13 => k_is); (case l13 => k_is); (case c13 => k_is); (case k13 => k_is)
    (case a14 => k_is); (case l14 => k_is); (case c14 => k_is); (case k14 => k_is)
    (case a15 => k_is); (case l15 => k_is); (case c15 => k_is); (case k15 => k_is)
    (case a16 => k_is); (case l16 => k_is); (case c16 => k_is); (case k16 => k_is)
    (case a17 => k_is); (case l17 => k_is); (case c17 => k_is); (case k17 => k_is)
    (case a18 => k_is); (case l18 => k_is); (case c18 => k_is); (case k18 => k_is)
    (case a19 => k_is); (case l19 => k_is); (case c19 => k_is); (case k19 => k_is)
    (case a20 => k_is); (case l20 => k_is); (case c20 => k_is); (case k20 => k_is)
    (case a21 => k_is); (case l21 => k_is); (case c21 => k_is); (case k21 => k_is)
    (case a22 => k_is); (case l22 => k_is); (case c22 => k_is); (case k22 => k_is)
    (case a23 => k_is); (case l23 => k_is); (case c23 => k_is); (case k23 => k_is)
    (case z0 => k_is); (case z1 => k_is); (case z2 => k_is); (case z3 => k_is); (case z4 => k_is); (case z5 => k_is); (case z6 => k_is); (case z7 => k_is); (case z8 => k_is); (case z9 => k_is); (case z10 => k_is); (case z11 => k_is); (case z12 => k_is); (case z13 => k_is); (case z14 => k_is); (case z15 => k_is); (case z16 => k_is); (case z17 => k_is); (case z18 => k_is); (case z19 => k_is); (case z20 => k_is)

