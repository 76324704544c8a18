import PyProof.Rows.All
import Wide.All
import OpenK.AllK
import Wide.FinOn
import PyProof.EqAt
import PyProof.EqKinds
import PyProof.TupleCall
import PySem.Challenge.RW_tilepushes_k24_parting_numbers
import HandS.ForMost
import HandS.Walk
import HandS.Wide
import PyProof.ReprReads
import KE.KeyNested
import HandS.Iter
import HandS.Dict
import KE.KDictKeyed
import KE.KDictWalk
import KE.KDictDisplayH
import KE.KEqDict
import HandS.ForExc
import HandS.IsInst
import HandS.SortInts
import HandS.Deep
import HandS.TupAny
import HandS.Style
import HandS.Rev
import HandS.SetFor
import HandS.TupLe
import HandS.WideBits
import HandS.TryOnly
import PyProof.ReprRoads
import HandS.EndBits
import HandS.ExcOwn
import PyProof.Draws
import KE.GoesZip
import KE.KDictZip
import KE.GoesMore
import KE.SortData
import KE.DataFind
import OpenK.KMeth
import OpenK.KOps
import OpenK.KWalk
import KE.KOpsOwn
import KE.KCallOwn
import HandS.Property
import PyProof.StrOps2
import HandS.Codes
import PyProof.InstNe
import PyProof.PvWalk
import HandS.ExcIs
import HandS.ExcField
import KE.IntBitsLaws
import PyProof.ReprLen
import PyProof.ReprBulk
import PyProof.FitsInt
import PyProof.Rows.StrJoinMade
import PyProof.P3Eq
set_option Elab.async false
set_option linter.all false
set_option maxRecDepth 100000
namespace FX
open PySem

inductive Sl where
  | no | d (x : PyData) | o (xs : List PyData) | t (kvs : List (PyData × PyData))
  /-- a thing that is held apart, by its description -/
  | h (o : L2.HO)
inductive Rs where
  | d (x : PyData) | o (xs : List PyData) | t (kvs : List (PyData × PyData))
abbrev FE := List Sl
structure Exc where
  cls : Nat
  pay : Option PyData := none
abbrev KQ := Rs → FE → Prop
abbrev KX := Exc → FE → Prop
abbrev FSp := List Rs → (Rs → List Rs → Prop) → (Exc → List Rs → Prop) → Prop

def Rs.data : Rs → PyData
  | .d x => x
  | .o xs => .list xs
  | .t kvs => .dict kvs
def Rs.sl : Rs → Sl
  | .d x => .d x
  | .o xs => .o xs
  | .t kvs => .t kvs
def Sl.rs : Sl → Option Rs
  | .no => none
  | .h _ => none
  | .d x => some (.d x)
  | .o xs => some (.o xs)
  | .t kvs => some (.t kvs)

/-- an operand: a value just made, or the owned list that a name holds -/
inductive Op where
  | v (r : Rs) | s (i : Nat)
def at_ (ρ : FE) (i : Nat) : Sl := ρ.getD i .no
def Sl.data : Sl → Option PyData
  | .no => none
  | .h _ => none
  | .d x => some x
  | .o xs => some (.list xs)
  | .t kvs => some (.dict kvs)
def Op.get (ρ : FE) : Op → Option PyData
  | .v r => some r.data
  | .s i => (at_ ρ i).data
def gets (ρ : FE) : List Op → Option (List PyData)
  | [] => some []
  | o :: os => match o.get ρ, gets ρ os with
    | some x, some xs => some (x :: xs)
    | _, _ => none

/-! ### keys of dicts: tuples of numbers, nested -/
mutual
def nk : PyData → NestedKey
  | .int i => .num i
  | .bool b => .num (if b = true then 1 else 0)
  | .tuple ds => .tup (nks ds)
  | _ => .none
def nks : List PyData → List NestedKey
  | [] => []
  | d :: ds => nk d :: nks ds
end
mutual
def kd : PyData → Bool
  | .int _ => true
  | .bool _ => true
  | .tuple ds => kds ds
  | _ => false
def kds : List PyData → Bool
  | [] => true
  | d :: ds => kd d && kds ds
end
def isTup : PyData → Bool
  | .tuple _ => true
  | _ => false
def keyOk (d : PyData) : Bool := isTup d && kd d && decide ((nk d).depth ≤ 8)
def dgetK (kvs : List (PyData × PyData)) (k : PyData) : Option PyData := (kvs.find? fun p => decide (nk p.1 = nk k)).map (·.2)
def dputK (kvs : List (PyData × PyData)) (k v : PyData) : List (PyData × PyData) :=
  if (dgetK kvs k).isSome = true then kvs.map (fun p => if nk p.1 = nk k then (p.1, v) else p) else kvs ++ [(k, v)]
/-- a dict of that kind -/
def dkd : List (PyData × PyData) → Bool
  | [] => true
  | (.tuple _, _) :: _ => true
  | _ => false

/-! ### primitive functions -/
inductive Ty where
  | int | bool | str | list | tuple | none | dict
  deriving DecidableEq
inductive PF where
  | add | sub | mul | fdiv | mod | pow | shl | shr | band | neg
  | eq | ne | lt | le | gt | ge | inn | nin | isN | notN | isB | notB
  | index | slice (lo hi : Bool) | rev
  | len | abs | max2 | min2 | maxL | minL | sum | all | any | sorted | list | tuple | int | str | repr | isi (t : Ty)
  | join | split | lindex | lcount
  | dget | eqE | neE | sortedR
  deriving DecidableEq

def tyOf : PyData → Ty
  | .none => .none
  | .bool _ => .bool
  | .int _ => .int
  | .str _ => .str
  | .list _ => .list
  | .tuple _ => .tuple
  | .dict _ => .dict
/-- .. of a receiver -/
def tyM : PyData → Ty
  | .dict kvs => if dkd kvs = true then .dict else .none
  | x => tyOf x
def isTy (t : Ty) (x : PyData) : Bool :=
  match t, tyOf x with
  | .int, .int => true
  | .int, .bool => true
  | .bool, .bool => true
  | .str, .str => true
  | .list, .list => true
  | .tuple, .tuple => true
  | .none, .none => true
  | .dict, .dict => true
  | _, _ => false
def scalar : PyData → Bool
  | .none => true
  | .bool _ => true
  | .int _ => true
  | .str _ => true
  | _ => false
/-- the law's script: a list that is only read -/
def scrK (ns : List Int) : List (PyData × PyData) := (.list [], .none) :: ns.map fun n => (.list [], .int n)
def cutD (xs : List PyData) (lo hi : Option Int) : List PyData := (xs.drop (HT.sIx xs.length 0 lo)).take (HT.sIx xs.length xs.length hi - HT.sIx xs.length 0 lo)
def sliceD (x : PyData) (lo hi : Option Int) (k : Rs → Prop) : Prop :=
  match x with
  | .list xs => k (.o (cutD xs lo hi))
  | .tuple xs => k (.d (.tuple (cutD xs lo hi)))
  | .str z => z.length ≤ sizeLine ∧ k (.d (.str (L2.cutS z lo hi)))
  | _ => False
def inD (x : PyData) (ys : List PyData) : Bool := ys.any fun y => PyData.eqv y x
def inSeq (neg : Bool) (x : PyData) (ys : List PyData) (k : Rs → Prop) : Prop :=
  scalar x = true ∧ ys.all scalar = true ∧ k (.d (.bool (xor neg (inD x ys))))
def inLst (neg : Bool) (x : PyData) (ys : List PyData) (k : Rs → Prop) : Prop :=
  SeqAt.shaped x = true ∧ SeqAt.shaped (.list ys) = true ∧ k (.d (.bool (xor neg (inD x ys))))
/-- a written dict that is kept as it is -/
def litk : List (PyData × PyData) → Bool
  | [(.int _, .int _)] => true
  | [(.str _, .int _)] => true
  | _ => false
/-- a thing that is no dict of a plain kind -/
def isDict : PyData → Bool
  | .dict kvs => !(litk kvs || kvs.isEmpty)
  | _ => false
def isDct : PyData → Bool
  | .dict _ => true
  | _ => false
mutual
/-- somewhere a thing that is no dict of a plain kind -/
def badD : PyData → Bool
  | .list xs => badDs xs
  | .tuple xs => badDs xs
  | .dict kvs => !(litk kvs || kvs.isEmpty)
  | _ => false
def badDs : List PyData → Bool
  | [] => false
  | x :: xs => badD x || badDs xs
end
def inAny (neg : Bool) (x y : PyData) (k : Rs → Prop) : Prop :=
  match x, y with
  | x, .list ys => inLst neg x ys k
  | x, .tuple ys => inSeq neg x ys k
  | x, .dict kvs => dkd kvs = true ∧ keyOk x = true ∧ k (.d (.bool (xor neg (dgetK kvs x).isSome)))
  | .str a, .str b => (∃ c, a = ⟨#[c]⟩ ∧ k (.d (.bool (xor neg (decide (c ∈ b.cps.toList)))))) ∨ k (.d (.bool (xor neg (!(Builtin.Str.occurrences b a 0 b.length 1).isEmpty))))
  | _, _ => False
def minD (x y : PyData) (k : Rs → Prop) : Prop :=
  match x, y with
  | .int i, .int j => k (.d (.int (if j < i then j else i)))
  | .str i, .str j => k (.d (.str (if j.cps.toList < i.cps.toList then j else i)))
  | _, _ => False
def isNone : PyData → Bool
  | .none => true
  | _ => false
def rel (f : Int → Int → Bool) (xs : List PyData) (k : Rs → Prop) : Prop :=
  match xs with
  | [.int i, .int j] => k (.d (.bool (f i j)))
  | _ => False

def relT2 (f : Int → Int → Bool) (xs : List PyData) (k : Rs → Prop) : Prop :=
  match xs with
  | [.int i, .int j] => k (.d (.bool (f i j)))
  | [.str a, .str b] => k (.d (.bool (decide (a.cps.toList < b.cps.toList))))
  | _ => False
/-- what may be compared -/
def shp (p q : PyData) : Bool := match p, q with
  | .str _, .str _ => true
  | p, _ => SeqAt.shaped p

/-- the members of a set, as they are met first -/
def dedI (ns : List Int) : List Int := ns.foldl (fun acc k => if acc.any (· == k) then acc else acc ++ [k]) []
def rowD (ns : List Int) : PyData := .list (ns.map .int)
def psem : PF → List PyData → (Rs → Prop) → Prop
  | .add, [.int i, .int j], k => k (.d (.int (i + j)))
  | .add, [.str a, .str b], k => a.length + b.length ≤ sizeLine ∧ k (.d (.str (a ++ b)))
  | .add, [.list xs, .list ys], k => xs.length + ys.length ≤ sizeLine ∧ k (.o (xs ++ ys))
  | .add, [.tuple xs, .tuple ys], k => xs ≠ [] ∧ xs.length + ys.length ≤ sizeLine ∧ k (.d (.tuple (xs ++ ys)))
  | .sub, [.int i, .int j], k => k (.d (.int (i - j)))
  | .mul, [.int i, .int j], k => IntMulOk i j ∧ k (.d (.int (i * j)))
  | .mul, [.list xs, .int j], k => -(2 ^ 63) ≤ j ∧ j < 2 ^ 63 ∧ xs.length * j.toNat ≤ sizeLine ∧ k (.o (List.replicate j.toNat xs).flatten)
  | .fdiv, [.int i, .int j], k => 0 < j ∧ j.natAbs.log2 < 9000 ∧ k (.d (.int (i / j)))
  | .mod, [.int i, .int j], k => 0 < j ∧ k (.d (.int (i % j)))
  | .pow, [.int i, .int j], k => 0 ≤ j ∧ (Builtin.Int.intBits i : Int) * j ≤ 2 ^ 27 ∧ k (.d (.int (i ^ j.toNat)))
  | .shl, [.int i, .int j], k => 0 ≤ j ∧ (Builtin.Int.intBits i : Int) + j ≤ 2 ^ 27 ∧ k (.d (.int (i * 2 ^ j.toNat)))
  | .shr, [.int i, .int j], k => 0 ≤ j ∧ k (.d (.int (i / 2 ^ j.toNat)))
  | .band, [.int i, .int j], k => k (.d (.int (Builtin.bitAnd i j)))
  | .neg, [.int i], k => k (.d (.int (-i)))
  | .eq, [p, q], k => shp p q = true ∧ shp q p = true ∧ k (.d (.bool (PyData.eqv p q)))
  | .ne, [p, q], k => shp p q = true ∧ shp q p = true ∧ k (.d (.bool (!PyData.eqv p q)))
  | .lt, xs, k => relT2 (fun i j => decide (i < j)) xs k
  | .le, xs, k => rel (fun i j => decide (i ≤ j)) xs k
  | .gt, xs, k => rel (fun i j => decide (j < i)) xs k
  | .ge, xs, k => rel (fun i j => decide (j ≤ i)) xs k
  | .inn, [x, y], k => inAny false x y k
  | .nin, [x, y], k => inAny true x y k
  | .isN, [x], k => k (.d (.bool (isNone x)))
  | .notN, [x], k => k (.d (.bool (!isNone x)))
  | .isB, [.bool a, .bool b], k => k (.d (.bool (a == b)))
  | .notB, [.bool a, .bool b], k => k (.d (.bool (!(a == b))))
  | .index, [.dict kvs, .tuple ks], k => keyOk (.tuple ks) = true ∧ ∃ x, dgetK kvs (.tuple ks) = some x ∧ k (.d x)
  | .index, [.list xs, .int i], k => ∃ x, L2.atI xs i = some x ∧ k (.d x)
  | .index, [.tuple xs, .int i], k => ∃ x, L2.atI xs i = some x ∧ k (.d x)
  | .index, [.str z, .int i], k => z.length ≤ sizeLine ∧ ∃ c, L2.atI z.cps.toList i = some c ∧ k (.d (.str ⟨#[c]⟩))
  | .index, [.dict ((.list [], .none) :: kvs), .int i], k => ∃ x, L2.atI (kvs.map (·.2)) i = some x ∧ k (.d x)
  | .len, [.dict ((.list [], .none) :: kvs)], k => k (.d (.int kvs.length))
  | .slice false false, [x], k => sliceD x none none k
  | .slice true false, [x, .int i], k => sliceD x (some i) none k
  | .slice false true, [x, .int j], k => sliceD x none (some j) k
  | .rev, [.list xs], k => k (.o xs.reverse)
  | .len, [.list xs], k => k (.d (.int xs.length))
  | .len, [.tuple xs], k => k (.d (.int xs.length))
  | .len, [.str z], k => z.length ≤ sizeLine ∧ k (.d (.int z.length))
  | .abs, [.int i], k => k (.d (.int (if i < 0 then -i else i)))
  | .max2, [.int i, .int j], k => k (.d (.int (if j > i then j else i)))
  | .min2, [x, y], k => minD x y k
  | .maxL, [.list xs], k => ∃ ns : List Int, xs = ns.map .int ∧ 0 < ns.length ∧ ∀ m, m ∈ ns → (∀ y, y ∈ ns → y ≤ m) → k (.d (.int m))
  | .minL, [.list xs], k => ∃ ns : List Int, xs = ns.map .int ∧ 0 < ns.length ∧ ∀ m, m ∈ ns → (∀ y, y ∈ ns → m ≤ y) → k (.d (.int m))
  | .sum, [.list xs], k => ∃ ns : List Int, xs = ns.map .int ∧ k (.d (.int ns.sum))
  | .all, [.list xs], k => ∃ bs : List Bool, xs = bs.map .bool ∧ k (.d (.bool (bs.all id)))
  | .any, [.list xs], k => ∃ bs : List Bool, xs = bs.map .bool ∧ k (.d (.bool (bs.any id)))
  | .sorted, [.list xs], k => ∃ ns : List Int, xs = ns.map .int ∧ ∀ ns' : List Int, ns'.Perm ns → ns'.Pairwise (· ≤ ·) → k (.o (ns'.map .int))
  | .list, [.list xs], k => k (.o xs)
  | .list, [.tuple xs], k => k (.o xs)
  | .list, [.str z], k => z.length ≤ sizeLine ∧ k (.o (z.cps.toList.map fun c => .str ⟨#[c]⟩))
  | .tuple, [.list xs], k => k (.d (.tuple xs))
  | .tuple, [.tuple xs], k => k (.d (.tuple xs))
  | .int, [.int i], k => k (.d (.int i))
  | .int, [.bool b], k => k (.d (.int (if b then 1 else 0)))
  | .int, [.str a], k => ∃ n, PySem.intText? a = some n ∧ a.length ≤ 640 ∧ k (.d (.int n))
  | .str, [.int i], k => i.natAbs.log2 < 1920 ∧ k (.d (.str (toString i)))
  | .repr, [x], k => PyData.showable x = true ∧ badD x = false ∧ x.shown.length ≤ sizeLine ∧ x.depth ≤ 60 ∧ k (.d (.str x.shown))
  | .isi t, [x], k => isDict x = false ∧ k (.d (.bool (isTy t x)))
  | .join, [.str a, .list xs], k => ∃ ys : List Str, xs = ys.map .str ∧ (ys.map (·.length)).sum + ys.length * a.length ≤ 16777216 ∧ k (.d (.str (Txt.join a ys)))
  | .split, [.str a, .str b], k => (b.length == 0) = false ∧ a.length + 2 ≤ sizeLine ∧ k (.o ((Txt.split a b).map .str))
  | .lindex, [.list xs, y], k => SeqAt.shaped y = true ∧ SeqAt.shaped (.list xs) = true ∧ ∃ j z, xs[j]? = some z ∧ PyData.eqv z y = true ∧ (∀ (m : Nat) z', m < j → xs[m]? = some z' → PyData.eqv z' y = false) ∧ k (.d (.int (j : Nat)))
  | .lcount, [.list xs, .int i], k => ∃ ns : List Int, xs = ns.map .int ∧ k (.d (.int (ns.count i : Nat)))
  | .lcount, [.list xs, .list ys], k => ∃ (rows : List (List Int)) (r : List Int), xs = rows.map rowD ∧ .list ys = rowD r ∧ k (.d (.int (rows.count r : Nat)))
  | .sortedR, [.list xs], k => ∃ rows : List (List Int), xs = rows.map rowD ∧ k (.o ((rows.mergeSort fun p q => decide (p ≤ q)).map rowD))
  | .dget, [.dict kvs, x], k => dkd kvs = true ∧ keyOk x = true ∧ k (.d ((dgetK kvs x).getD .none))
  | .dget, [.dict kvs, x, y], k => dkd kvs = true ∧ keyOk x = true ∧ scalar y = true ∧ k (.d ((dgetK kvs x).getD y))
  | .eqE, [.dict kvs], k => dkd kvs = true ∧ k (.d (.bool kvs.isEmpty))
  | .neE, [.dict kvs], k => dkd kvs = true ∧ k (.d (.bool (!kvs.isEmpty)))
  | _, _, _ => False
def mergeD (kvs more : List (PyData × PyData)) : List (PyData × PyData) := more.foldl (fun acc p => dputK acc p.1 p.2) kvs

/-! ### methods that change a list -/
inductive MF where
  | append | extend | pop | popAt | reverse | insert
  deriving DecidableEq
def msem : MF → List PyData → List PyData → (PyData → List PyData → Prop) → Prop
  | .append, xs, [y], k => xs.length < sizeLine ∧ k .none (xs ++ [y])
  | .extend, xs, [.list ys], k => xs.length + ys.length ≤ sizeLine ∧ k .none (xs ++ ys)
  | .pop, xs, [], k => ∃ y, xs[xs.length - 1]? = some y ∧ k y xs.dropLast
  | .popAt, xs, [.int i], k => -(2 ^ 63) ≤ i ∧ i < 2 ^ 63 ∧ ∃ j y, seqIndex? i xs.length = some j ∧ xs[j]? = some y ∧ k y (xs.eraseIdx j)
  | .reverse, xs, [], k => k .none xs.reverse
  | .insert, xs, [.int i, y], k => xs.length < sizeLine ∧ 0 ≤ i ∧ i < 2 ^ 63 ∧ k .none (xs.take i.toNat ++ [y] ++ xs.drop i.toNat)
  | _, _, _, _ => False

/-! ### objects of own classes with one field, a text: they never change -/
def objD (c : Nat) (z : Str) : PyData := .dict [(.none, .int c), (.none, .str z)]
def objOf : PyData → Option (Nat × Str)
  | .dict [(.none, .int (.ofNat c)), (.none, .str z)] => some (c, z)
  | _ => none
theorem objOf_D {c : Nat} {z : Str} : objOf (objD c z) = some (c, z) := rfl
theorem objOf_eq {x : PyData} {c : Nat} {z : Str} (h : objOf x = some (c, z)) : x = objD c z := by
  unfold objOf at h
  split at h
  · cases h
    rfl
  · cases h
/-- the ways in which an own method is called -/
inductive MO where
  | neg | add | mul | call | prop (f : Str) | len | item | inn | eq | ne
/-- a text so many times -/
def repS (z : Str) (n : Nat) : Str := ⟨(List.replicate n z.cps).foldl (· ++ ·) #[]⟩
/-- what stands behind == of an object -/
def eqOk : PyData → Bool
  | .none => true
  | .bool _ => true
  | .int _ => true
  | .str _ => true
  | .list _ => true
  | .tuple _ => true
  | .dict kvs => (objOf (.dict kvs)).isSome
def meR (mt : Nat → Str → Option (List Bool × FSp)) (m : Str) (ds : List PyData) (Q : Rs → Prop) (E : Exc → Prop) : Prop :=
  match ds.head?.bind objOf with
  | none => False
  | some (c, _) => match mt c m with
    | none => False
    | some (mask, sp) => mask.length = ds.length ∧ sp (ds.map .d) (fun r _ => Q r) (fun x _ => E x)
def moR (mt : Nat → Str → Option (List Bool × FSp)) (k : MO) (ds : List PyData) (Q : Rs → Prop) (E : Exc → Prop) : Prop :=
  match k, ds with
  | .neg, [x] => meR mt "__neg__" [x] Q E
  | .add, [x, y] => (∃ c z t, x = objD c z ∧ y = objD c t) ∧ meR mt "__add__" [x, y] Q E
  | .mul, [x, y] => (∃ n, y = .int n) ∧ meR mt "__mul__" [x, y] Q E
  | .call, ds => meR mt "__call__" ds Q E
  | .prop f, [x] => meR mt f [x] Q fun _ => False
  | .len, [x] => meR mt "__len__" [x] (fun r => ∃ n : Int, r = .d (.int n) ∧ 0 ≤ n ∧ n < 2 ^ 63 ∧ Q (.d (.int n))) fun _ => False
  | .item, [x, y] => meR mt "__getitem__" [x, y] Q E
  | .inn, [y, x] => meR mt "__contains__" [x, y] (fun r => ∃ b, r = .d (.bool b) ∧ Q (.d (.bool b))) fun _ => False
  | .eq, [x, y] => eqOk y = true ∧ meR mt "__eq__" [x, y] (fun r => ∃ b, r = .d (.bool b) ∧ Q (.d (.bool b))) fun _ => False
  | .ne, [x, y] => eqOk y = true ∧ meR mt "__eq__" [x, y] (fun r => ∃ b, r = .d (.bool b) ∧ Q (.d (.bool (!b)))) fun _ => False
  | _, _ => False

/-! ### the language -/
mutual
inductive T where
  | nm (i : Nat) | tp (ts : Ts)
inductive Ts where
  | nil | cons (t : T) (ts : Ts)
end
mutual
inductive E where
  | cst (c : PyData)
  | var (i : Nat)
  | glob (g : Nat)
  | prim (f : PF) (as : Es)
  | ands (as : Es)
  | ors (as : Es)
  | nt (a : E)
  | ite (c a b : E)
  | chain (f g : PF) (a b c : E)
  | call (f : Nat) (as : Es)
  | lst (as : Es)
  | tup (as : Es)
  | comp (own : List Nat) (elt : E) (t : T) (it : I) (cond : Es)
  | comp2 (own own1 : List Nat) (elt : E) (t : T) (it : I) (cond : Es) (t1 : T) (it1 : I) (cond1 : Es)
  | mcall (m : MF) (i : Nat) (as : Es)
  | meth (t : Ty) (f : PF) (a : E) (as : Es)
  | sl (a l h : E)
  | dct0
  | dct1 (k v : E)
  | dupd (i : Nat) (e : E)
  | reprL (as : Es)
  | litD (k : PyData) (n : Int)
  | lenS (a : E)
  | new (c : Nat) (a : E)
  | fld (a : E) (c : Nat)
  | mo (k : MO) (as : Es)
  | isO (a : E) (c : Nat)
  | smul (a b : E)
  | isT (t : Ty) (a : E)
  | nev
inductive Es where
  | nil | cons (a : E) (as : Es)
inductive I where
  | seq (e : E) | rng1 (a : E) | rng2 (a b : E) | zip (a b : E) | enum (a : E) | enumZ (a b : E) | rngD (a b : E) | items (e : E)
end

mutual
def T.put : T → PyData → FE → Option FE
  | .nm i, x, ρ => some (ρ.set i (.d x))
  | .tp ts, .tuple xs, ρ => ts.put xs ρ
  | _, _, _ => none
def Ts.put : Ts → List PyData → FE → Option FE
  | .nil, [], ρ => some ρ
  | .cons t ts, x :: xs, ρ => (t.put x ρ).bind fun ρ' => ts.put xs ρ'
  | _, _, _ => none
end
/-- a value stored at a target -/
def T.store : T → Rs → FE → Option FE
  | .nm i, .o xs, ρ => some (ρ.set i (.o xs))
  | .nm i, .t kvs, ρ => some (ρ.set i (.t kvs))
  | t, r, ρ => t.put r.data ρ
def Ts.store : Ts → List Rs → FE → Option FE
  | .nil, [], ρ => some ρ
  | .cons t ts, x :: xs, ρ => (t.store x ρ).bind fun ρ' => ts.store xs ρ'
  | _, _, _ => none

structure Sm where
  v : FE → KQ → KX → Prop
  o : FE → (Op → FE → Prop) → KX → Prop
  t : FE → (Bool → FE → Prop) → KX → Prop
  m : FE → KQ → KX → Prop
structure SmL where
  os : FE → (List Op → FE → Prop) → KX → Prop
  rs : FE → (List Rs → FE → Prop) → KX → Prop
  andV : FE → KQ → KX → Prop
  orV : FE → KQ → KX → Prop
  andT : FE → (Bool → FE → Prop) → KX → Prop
  orT : FE → (Bool → FE → Prop) → KX → Prop
/-- the names that are walked stay as they are -/
abbrev Lk := List (Nat × Sl)
def lkOk (l : Lk) (ρ : FE) : Prop := match l with
  | [] => True
  | p :: r => at_ ρ p.1 = p.2 ∧ lkOk r ρ
abbrev SmI := FE → (List PyData → Lk → FE → Prop) → KX → Prop

def truth : PyData → Option Bool
  | .none => some false
  | .bool b => some b
  | .int i => some (i != 0)
  | .str s => some ((s.length : Int) != 0)
  | .list xs => some (!xs.isEmpty)
  | .tuple xs => some (!xs.isEmpty)
  | .dict _ => none
def lenOk : PyData → Prop
  | .str s => s.length ≤ sizeLine
  | _ => True
/-- truth of an operand -/
def truthK (o : Op) (ρ : FE) (Q : Bool → Prop) : Prop := match o.get ρ with
  | some x => lenOk x ∧ match truth x with
    | some b => Q b
    | none => False
  | none => False
/-- the modes of a value that is no name -/
def Sm.ofV (v : FE → KQ → KX → Prop) : Sm where
  v := v
  o := fun ρ Q E => v ρ (fun r ρ' => Q (.v r) ρ') E
  t := fun ρ Q E => v ρ (fun r ρ' => truthK (.v r) ρ' fun b => Q b ρ') E
  m := v

/-- a call's arguments: what is handed over, and the name that holds it (an owned list of a name goes to a parameter that is never stored, and comes back) -/
def passArgs : List Bool → List Op → FE → Option (List (Rs × Option Nat) × FE)
  | [], [], ρ => some ([], ρ)
  | b :: bs, .v r :: os, ρ => (passArgs bs os ρ).map fun p => ((if b then r else .d r.data, none) :: p.1, p.2)
  | b :: bs, .s i :: os, ρ => match at_ ρ i with
    | .no => none
    | .h _ => none
    | .d x => (passArgs bs os ρ).map fun p => ((.d x, none) :: p.1, p.2)
    | .o xs => if b then (passArgs bs os (ρ.set i .no)).map fun p => ((.o xs, some i) :: p.1, p.2)
        else (passArgs bs os (ρ.set i (.d (.list xs)))).map fun p => ((.d (.list xs), none) :: p.1, p.2)
    | .t kvs => if b then (passArgs bs os (ρ.set i .no)).map fun p => ((.t kvs, some i) :: p.1, p.2)
        else (passArgs bs os (ρ.set i (.d (.dict kvs)))).map fun p => ((.d (.dict kvs), none) :: p.1, p.2)
  | _, _, _ => none
/-- behind a call -/
def backIo : List (Rs × Option Nat) → List Rs → FE → FE
  | (_, some i) :: ps, r :: rs, ρ => backIo ps rs (ρ.set i r.sl)
  | (_, none) :: ps, _ :: rs, ρ => backIo ps rs ρ
  | _, _, ρ => ρ

/-- the program's globals -/
structure Gm where
  fn : Nat → Option (List Bool × FSp)
  con : Nat → Option PyData
  /-- the own error classes, by number: is the one below the other? -/
  sub : Nat → Nat → Bool := fun _ _ => false
  /-- own classes: their methods; what is made of a value -/
  mt : Nat → Str → Option (List Bool × FSp) := fun _ _ => none
  ct : Nat → Option (PyData → (Str → Prop) → (Exc → Prop) → Prop) := fun _ => none

def wipeF : List Nat → FE → FE
  | [], ρ => ρ
  | i :: is, ρ => (wipeF is ρ).set i .no
def compL (lk : Lk) (put : PyData → FE → Option FE) (cond : FE → (Bool → FE → Prop) → Prop) (elt : FE → KQ → Prop) (own : List Nat) : List PyData → List PyData → FE → (List PyData → FE → Prop) → Prop
  | [], acc, ρ, Q => Q acc ρ
  | x :: xs, acc, ρ, Q => match put x ρ with
    | none => False
    | some ρ1 => cond ρ1 fun b ρ2 => if b = true then elt ρ2 fun r ρ3 => acc.length < sizeLine ∧ lkOk lk (wipeF own ρ3) ∧ compL lk put cond elt own xs (acc ++ [r.data]) (wipeF own ρ3) Q else lkOk lk (wipeF own ρ2) ∧ compL lk put cond elt own xs acc (wipeF own ρ2) Q
def compL2 (lk : Lk) (put : PyData → FE → Option FE) (cond : FE → (Bool → FE → Prop) → Prop) (inner : List PyData → FE → (List PyData → FE → Prop) → Prop) (own : List Nat) : List PyData → List PyData → FE → (List PyData → FE → Prop) → Prop
  | [], acc, ρ, Q => Q acc ρ
  | x :: xs, acc, ρ, Q => match put x ρ with
    | none => False
    | some ρ1 => cond ρ1 fun b ρ2 => if b = true then inner acc ρ2 fun acc2 ρ3 => lkOk lk (wipeF own ρ3) ∧ compL2 lk put cond inner own xs acc2 (wipeF own ρ3) Q else lkOk lk (wipeF own ρ2) ∧ compL2 lk put cond inner own xs acc (wipeF own ρ2) Q
def lkOf : Op → FE → Lk
  | .v _, _ => []
  | .s i, ρ => [(i, at_ ρ i)]
def noX : KX := fun _ _ => False
def strChars (z : Str) : List PyData := z.cps.toList.map fun c => .str ⟨#[c]⟩
def itemsOf : PyData → Option (List PyData)
  | .list xs => some xs
  | .tuple xs => some xs
  | .str z => some (strChars z)
  | .dict kvs => if dkd kvs = true then some (kvs.map (·.1)) else none
  | _ => none
def pairsD (kvs : List (PyData × PyData)) : List PyData := kvs.map fun p => .tuple [p.1, p.2]
def enumD (xs : List PyData) (i : Nat) : List PyData := match xs with
  | [] => []
  | x :: r => .tuple [.int (i : Nat), x] :: enumD r (i + 1)
def zipD : List PyData → List PyData → List PyData
  | x :: xs, y :: ys => .tuple [x, y] :: zipD xs ys
  | _, _ => []
def rangeD (lo : Int) : Nat → List PyData
  | 0 => []
  | n + 1 => .int lo :: rangeD (lo + 1) n
/-- downwards -/
def rangeN (hi : Int) : Nat → List PyData
  | 0 => []
  | n + 1 => .int hi :: rangeN (hi - 1) n

section
variable (G : Gm)
mutual
def W : E → Sm
  | .cst c => .ofV fun ρ Q _ => Q (.d c) ρ
  | .var i => {
      v := fun ρ Q _ => match at_ ρ i with
        | .no => False
        | .h _ => False
        | .d x => Q (.d x) ρ
        | .o xs => Q (.d (.list xs)) (ρ.set i (.d (.list xs)))
        | .t kvs => Q (.d (.dict kvs)) (ρ.set i (.d (.dict kvs)))
      o := fun ρ Q _ => match at_ ρ i with
        | .no => False
        | .h _ => False
        | _ => Q (.s i) ρ
      t := fun ρ Q _ => truthK (.s i) ρ fun b => Q b ρ
      m := fun ρ Q _ => match at_ ρ i with
        | .no => False
        | .h _ => False
        | .d x => Q (.d x) ρ
        | .o xs => Q (.o xs) (ρ.set i .no)
        | .t kvs => Q (.d (.dict kvs)) (ρ.set i (.d (.dict kvs))) }
  | .glob g => .ofV fun ρ Q _ => match G.con g with
      | some c => Q (.d c) ρ
      | none => False
  | .prim f as => .ofV fun ρ Q E => (Ws as).os ρ (fun os ρ' => match gets ρ' os with
      | some ds => psem f ds fun r => Q r ρ'
      | none => False) E
  | .ands as => {
      v := (Ws as).andV
      o := fun ρ Q E => (Ws as).andV ρ (fun r ρ' => Q (.v r) ρ') E
      t := (Ws as).andT
      m := (Ws as).andV }
  | .ors as => {
      v := (Ws as).orV
      o := fun ρ Q E => (Ws as).orV ρ (fun r ρ' => Q (.v r) ρ') E
      t := (Ws as).orT
      m := (Ws as).orV }
  | .nt a => {
      v := fun ρ Q E => (W a).v ρ (fun r ρ' => match r with
        | .d (.bool b) => Q (.d (.bool (!b))) ρ'
        | _ => False) E
      o := fun ρ Q E => (W a).v ρ (fun r ρ' => match r with
        | .d (.bool b) => Q (.v (.d (.bool (!b)))) ρ'
        | _ => False) E
      t := fun ρ Q E => (W a).t ρ (fun b ρ' => Q (!b) ρ') E
      m := fun ρ Q E => (W a).v ρ (fun r ρ' => match r with
        | .d (.bool b) => Q (.d (.bool (!b))) ρ'
        | _ => False) E }
  | .ite c a b => {
      v := fun ρ Q E => (W c).t ρ (fun k ρ' => if k = true then (W a).v ρ' Q E else (W b).v ρ' Q E) E
      o := fun ρ Q E => (W c).t ρ (fun k ρ' => if k = true then (W a).v ρ' (fun r => Q (.v r)) E else (W b).v ρ' (fun r => Q (.v r)) E) E
      t := fun ρ Q E => (W c).t ρ (fun k ρ' => if k = true then (W a).t ρ' Q E else (W b).t ρ' Q E) E
      m := fun ρ Q E => (W c).t ρ (fun k ρ' => if k = true then (W a).m ρ' Q E else (W b).m ρ' Q E) E }
  | .chain f g a b c =>
    let v : FE → KQ → KX → Prop := fun ρ Q E => (W a).o ρ (fun x ρ1 => (W b).o ρ1 (fun y ρ2 => match gets ρ2 [x, y] with
      | none => False
      | some ds => psem f ds fun r => match r with
        | .d (.bool k) => if k = true then (W c).o ρ2 (fun z ρ3 => match gets ρ3 [y, z] with
            | none => False
            | some es => psem g es fun r => Q r ρ3) E else Q (.d (.bool false)) ρ2
        | _ => False) E) E
    { v := v
      o := fun ρ Q E => v ρ (fun r ρ' => Q (.v r) ρ') E
      t := fun ρ Q E => v ρ (fun r ρ' => match r with
        | .d (.bool k) => Q k ρ'
        | _ => False) E
      m := v }
  | .call f as => .ofV fun ρ Q E => match G.fn f with
      | none => False
      | some (mask, sp) => (Ws as).os ρ (fun os ρ' => match passArgs mask os ρ' with
        | none => False
        | some (ps, ρ2) => sp (ps.map (·.1)) (fun r outs => Q r (backIo ps outs ρ2)) (fun x outs => E x (backIo ps outs ρ2))) E
  | .lst as => .ofV fun ρ Q E => (Ws as).rs ρ (fun rs ρ' => rs.length ≤ sizeLine ∧ Q (.o (rs.map Rs.data)) ρ') E
  | .tup as => .ofV fun ρ Q E => (Ws as).rs ρ (fun rs ρ' => rs.length ≤ sizeLine ∧ Q (.d (.tuple (rs.map Rs.data))) ρ') E
  | .comp own elt t it cond => .ofV fun ρ Q E => (WI it) ρ (fun xs lk ρ1 =>
      lkOk lk (wipeF own ρ1) ∧ compL lk t.put (fun ρ K => (Ws cond).andT ρ K noX) (fun ρ K => (W elt).v ρ K noX) own xs [] (wipeF own ρ1) fun ys ρ2 => Q (.o ys) ρ2) E
  | .comp2 own own1 elt t it cond t1 it1 cond1 => .ofV fun ρ Q E => (WI it) ρ (fun xs lk ρ1 =>
      let rec_ := fun (acc : List PyData) (ρ : FE) (K : List PyData → FE → Prop) => (WI it1) ρ (fun ys lk1 ρ2 =>
        lkOk lk1 (wipeF own1 ρ2) ∧ compL lk1 t1.put (fun ρ K => (Ws cond1).andT ρ K noX) (fun ρ K => (W elt).v ρ K noX) own1 ys acc (wipeF own1 ρ2) K) noX
      lkOk lk (wipeF own ρ1) ∧ compL2 lk t.put (fun ρ K => (Ws cond).andT ρ K noX) rec_ own xs [] (wipeF own ρ1) fun ys ρ2 => Q (.o ys) ρ2) E
  | .mcall m i as => .ofV fun ρ Q E => (match at_ ρ i with
      | .o _ => True
      | _ => False) ∧ (Ws as).rs ρ (fun rs ρ' => match at_ ρ' i with
      | .o xs => msem m xs (rs.map Rs.data) fun y xs' => Q (.d y) (ρ'.set i (.o xs'))
      | _ => False) E
  | .sl a l h => .ofV fun ρ Q E => (W a).o ρ (fun x ρ1 => (W l).v ρ1 (fun r ρ2 => match r with
      | .d (.int i) => (W h).v ρ2 (fun r2 ρ3 => match r2 with
        | .d (.int j) => (match x.get ρ3 with
          | some p => sliceD p (some i) (some j) fun r => Q r ρ3
          | none => False)
        | _ => False) E
      | _ => False) E) E
  | .reprL as => .ofV fun ρ Q E => (Ws as).os ρ (fun os ρ' => os.length ≤ sizeLine ∧ match gets ρ' os with
      | some ds => psem .repr [.list ds] fun r => Q r ρ'
      | none => False) E
  | .litD k n => .ofV fun ρ Q _ => litk [(k, .int n)] = true ∧ Q (.d (.dict [(k, .int n)])) ρ
  | .lenS a => .ofV fun ρ Q E => (W a).o ρ (fun x ρ1 => match x.get ρ1 with
      | some (.list xs) => ∃ ns : List Int, xs = ns.map .int ∧ ns.length ≤ 4000 ∧ Q (.d (.int ((dedI ns).length : Nat))) ρ1
      | _ => False) E
  | .new c a => .ofV fun ρ Q E => (W a).v ρ (fun r ρ1 => match G.ct c with
      | some sp => sp r.data (fun z => Q (.d (objD c z)) ρ1) fun x => E x ρ1
      | none => False) E
  | .fld a c => .ofV fun ρ Q E => (W a).v ρ (fun r ρ1 => match objOf r.data with
      | some (c', z) => c' = c ∧ Q (.d (.str z)) ρ1
      | none => False) E
  | .mo k as => .ofV fun ρ Q E => (Ws as).rs ρ (fun rs ρ1 => moR G.mt k (rs.map Rs.data) (fun r => Q r ρ1) fun x => E x ρ1) E
  | .isO a c => .ofV fun ρ Q E => (W a).v ρ (fun r ρ1 => eqOk r.data = true ∧ Q (.d (.bool (match objOf r.data with
      | some (c', _) => c' == c
      | none => false))) ρ1) E
  | .isT t a => .ofV fun ρ Q E => (W a).v ρ (fun r ρ1 => eqOk r.data = true ∧ Q (.d (.bool (match objOf r.data with
      | some _ => false
      | none => isTy t r.data))) ρ1) E
  | .smul a b => .ofV fun ρ Q E => (W a).o ρ (fun x ρ1 => (W b).o ρ1 (fun y ρ2 => match gets ρ2 [x, y] with
      | some [.str z, .int j] => -(2 ^ 63) ≤ j ∧ j < 2 ^ 63 ∧ z.length * j.toNat ≤ sizeLine ∧ Q (.d (.str (repS z j.toNat))) ρ2
      | _ => False) E) E
  | .nev => .ofV fun _ _ _ => False
  | .dct0 => .ofV fun ρ Q _ => Q (.t []) ρ
  | .dct1 a b => .ofV fun ρ Q E => (W a).v ρ (fun x ρ1 => (W b).v ρ1 (fun y ρ2 => keyOk x.data = true ∧ scalar y.data = true ∧ Q (.t [(x.data, y.data)]) ρ2) E) E
  | .dupd i a => .ofV fun ρ Q E => (match at_ ρ i with
      | .t _ => True
      | _ => False) ∧ (W a).v ρ (fun x ρ1 => match x.data, at_ ρ1 i with
      | .dict more, .t kvs => dkd more = true ∧ kvs ≠ [] ∧ kvs.length + more.length ≤ sizeLine ∧ Q (.d .none) (ρ1.set i (.t (mergeD kvs more)))
      | _, _ => False) E
  | .meth t f a as => .ofV fun ρ Q E => (W a).o ρ (fun x ρ1 => (∃ d, x.get ρ1 = some d ∧ tyM d = t) ∧ (Ws as).os ρ1 (fun os ρ2 => match gets ρ2 (x :: os) with
      | some ds => psem f ds fun r => Q r ρ2
      | none => False) E) E
def Ws : Es → SmL
  | .nil => {
      os := fun ρ Q _ => Q [] ρ
      rs := fun ρ Q _ => Q [] ρ
      andV := fun _ _ _ => False
      orV := fun _ _ _ => False
      andT := fun ρ Q _ => Q true ρ
      orT := fun ρ Q _ => Q false ρ }
  | .cons a as => {
      os := fun ρ Q E => (W a).o ρ (fun x ρ1 => (Ws as).os ρ1 (fun xs ρ2 => Q (x :: xs) ρ2) E) E
      rs := fun ρ Q E => (W a).v ρ (fun x ρ1 => (Ws as).rs ρ1 (fun xs ρ2 => Q (x :: xs) ρ2) E) E
      andV := match as with
        | .nil => (W a).v
        | _ => fun ρ Q E => (W a).v ρ (fun r ρ1 => match r with
          | .d (.bool b) => if b = true then (Ws as).andV ρ1 Q E else Q (.d (.bool false)) ρ1
          | _ => False) E
      orV := match as with
        | .nil => (W a).v
        | _ => fun ρ Q E => (W a).v ρ (fun r ρ1 => match r with
          | .d (.bool b) => if b = true then Q (.d (.bool true)) ρ1 else (Ws as).orV ρ1 Q E
          | _ => False) E
      andT := fun ρ Q E => (W a).t ρ (fun b ρ1 => if b = true then (Ws as).andT ρ1 Q E else Q false ρ1) E
      orT := fun ρ Q E => (W a).t ρ (fun b ρ1 => if b = true then Q true ρ1 else (Ws as).orT ρ1 Q E) E }
def WI : I → SmI
  | .seq e => fun ρ Q E => match e with
    | .var i => (match (at_ ρ i).data with
      | some (.dict kvs) => dkd kvs = true ∧ Q (kvs.map (·.1)) [] (ρ.set i (.d (.dict kvs)))
      | some x => (match itemsOf x with
        | some xs => Q xs [(i, at_ ρ i)] ρ
        | none => False)
      | none => False)
    | _ => (W e).v ρ (fun r ρ' => match itemsOf r.data with
      | some xs => Q xs [] ρ'
      | none => False) E
  | .rng1 a => fun ρ Q E => (W a).o ρ (fun x ρ' => match x.get ρ' with
      | some (.int j) => -(2 ^ 62) ≤ j ∧ j < 2 ^ 62 ∧ Q (rangeD 0 j.toNat) [] ρ'
      | _ => False) E
  | .rng2 a b => fun ρ Q E => (W a).o ρ (fun x ρ1 => (W b).o ρ1 (fun y ρ2 => match gets ρ2 [x, y] with
      | some [.int i, .int j] => -(2 ^ 62) ≤ i ∧ i < 2 ^ 62 ∧ -(2 ^ 62) ≤ j ∧ j < 2 ^ 62 ∧ Q (rangeD i (j - i).toNat) [] ρ2
      | _ => False) E) E
  | .zip a b => fun ρ Q E => (W a).o ρ (fun x ρ1 => (W b).o ρ1 (fun y ρ2 => match gets ρ2 [x, y] with
      | some [.list xs, .list ys] => Q (zipD xs ys) (lkOf x ρ2 ++ lkOf y ρ2) ρ2
      | _ => False) E) E
  | .enum a => fun ρ Q E => (W a).o ρ (fun x ρ' => match x.get ρ' with
      | some (.list xs) => Q (enumD xs 0) (lkOf x ρ') ρ'
      | some (.str z) => Q (enumD (strChars z) 0) [] ρ'
      | _ => False) E
  | .enumZ a b => fun ρ Q E => (W a).o ρ (fun x ρ1 => (W b).o ρ1 (fun y ρ2 => match gets ρ2 [x, y] with
      | some [.str s, .str t] => Q (enumD (zipD (strChars s) (strChars t)) 0) [] ρ2
      | _ => False) E) E
  | .rngD a b => fun ρ Q E => (W a).o ρ (fun x ρ1 => (W b).o ρ1 (fun y ρ2 => match gets ρ2 [x, y] with
      | some [.int i, .int j] => -(2 ^ 62) ≤ i ∧ i < 2 ^ 62 ∧ -(2 ^ 62) ≤ j ∧ j < 2 ^ 62 ∧ Q (rangeN i (i - j).toNat) [] ρ2
      | _ => False) E) E
  | .items a => fun ρ Q E => (W a).v ρ (fun r ρ' => match r.data with
      | .dict kvs => dkd kvs = true ∧ Q (pairsD kvs) [] ρ'
      | _ => False) E
end
end
/-! ### statements -/
structure FEnds where
  nx : FE → Prop
  rt : Rs → FE → Prop
  bk : FE → Prop
  ct : FE → Prop
  ex : KX
/-- what an except suite asks of its error, what it answers -/
inductive HC where
  | isC (c : Nat) | nt (h : HC) | and (a b : HC)
inductive HX where
  | txt (s : Str) | ite (c : HC) (a b : HX) | lim (pre : Str)
def HC.ok (sub : Nat → Nat → Bool) (x : Exc) : HC → Bool
  | .isC c => sub x.cls c
  | .nt h => !h.ok sub x
  | .and a b => a.ok sub x && b.ok sub x
def HX.val (sub : Nat → Nat → Bool) (x : Exc) : HX → Option Str
  | .txt s => some s
  | .ite c a b => if c.ok sub x = true then a.val sub x else b.val sub x
  | .lim pre => match x.pay with
    | some (.int n) => if n.natAbs < 10 ^ 100 ∧ pre.length ≤ 1000 then some (pre ++ Str.ofString (toString n)) else none
    | _ => none
def HX.run (sub : Nat → Nat → Bool) (h : HX) (x : Exc) (k : Str → Prop) : Prop := match h.val sub x with
  | some s => k s
  | none => False
inductive S where
  | skip | seq (a b : S)
  | pass | brk | cnt
  | ex (e : E)
  | asg (t : T) (e : E)
  | asgT (ts : Ts) (es : Es)
  | aug (i : Nat) (f : PF) (e : E)
  | setI (i : Nat) (ix e : E)
  | ifs (c : E) (a b : S)
  | whl (c : E) (b : S)
  | fr (t : T) (it : I) (b : S)
  | ret (e : E) | retv (e : E) | retN
  | rais (c : Nat) (as : Es)
  | tryR (b : S) (c i : Nat) (h : HX)
  | setI2 (i : Nat) (ix iy e : E)
  | never
mutual
def T.vars : T → List Nat
  | .nm i => [i]
  | .tp ts => ts.vars
def Ts.vars : Ts → List Nat
  | .nil => []
  | .cons t ts => t.vars ++ ts.vars
end
/-- the names that a statement may store -/
def S.asgs : S → List Nat
  | .seq a b => a.asgs ++ b.asgs
  | .asg t _ => t.vars
  | .asgT ts _ => ts.vars
  | .aug i _ _ => [i]
  | .ifs _ a b => a.asgs ++ b.asgs
  | .whl _ b => b.asgs
  | .fr t _ b => t.vars ++ b.asgs
  | .tryR b _ i _ => i :: b.asgs
  | _ => []
/-- x[i] = d, x a list that a name owns -/
def setK (wo : FE → (Op → FE → Prop) → KX → Prop) (i : Nat) (d : PyData) (ρ : FE) (K : FE → Prop) (Ex : KX) : Prop := (match at_ ρ i with
  | .o _ => True
  | _ => False) ∧ wo ρ (fun y ρ2 => match y.get ρ2, at_ ρ2 i with
    | some (.int j), .o xs => ∃ n, L2.ixN xs.length j = some n ∧ K (ρ2.set i (.o (xs.set n d)))
    | _, _ => False) Ex
def lkFree (lk : Lk) (vs : List Nat) : Bool := lk.all fun p => !vs.contains p.1
def forL (lk : Lk) (put : PyData → FE → Option FE) (body : FE → (FE → Prop) → Prop) (end_ : FE → Prop) : List PyData → FE → Prop
  | [], ρ => end_ ρ
  | x :: xs, ρ => match put x ρ with
    | none => False
    | some ρ1 => body ρ1 fun ρ2 => lkOk lk ρ2 ∧ forL lk put body end_ xs ρ2
section
variable (G : Gm)
def WS : S → FE → FEnds → Prop
  | .skip => fun ρ D => D.nx ρ
  | .pass => fun ρ D => D.nx ρ
  | .seq a b => fun ρ D => (WS a) ρ { D with nx := fun ρ1 => (WS b) ρ1 D }
  | .brk => fun ρ D => D.bk ρ
  | .cnt => fun ρ D => D.ct ρ
  | .ex e => fun ρ D => (W G e).o ρ (fun _ ρ1 => D.nx ρ1) D.ex
  | .asg t e => fun ρ D => (W G e).v ρ (fun r ρ1 => match t.store r ρ1 with
      | some ρ2 => D.nx ρ2
      | none => False) D.ex
  | .asgT ts es => fun ρ D => (Ws G es).rs ρ (fun rs ρ1 => match ts.store rs ρ1 with
      | some ρ2 => D.nx ρ2
      | none => False) D.ex
  | .aug i f e => fun ρ D => match at_ ρ i with
      | .d (.int m) => (W G e).o ρ (fun y ρ1 => match y.get ρ1, f with
          | some (.int n), .add => D.nx (ρ1.set i (.d (.int (m + n))))
          | some (.int n), .sub => D.nx (ρ1.set i (.d (.int (m - n))))
          | _, _ => False) D.ex
      | .d (.str s) => f = .add ∧ (W G e).o ρ (fun y ρ1 => match y.get ρ1 with
          | some (.str t) => s.length + t.length ≤ sizeLine ∧ D.nx (ρ1.set i (.d (.str (s ++ t))))
          | _ => False) D.ex
      | .o _ => f = .add ∧ (W G e).o ρ (fun y ρ1 => match y.get ρ1, at_ ρ1 i with
          | some (.list ys), .o xs => xs.length + ys.length ≤ sizeLine ∧ D.nx (ρ1.set i (.o (xs ++ ys)))
          | _, _ => False) D.ex
      | _ => False
  | .setI i ix e => fun ρ D => (W G e).v ρ (fun r ρ1 => (match at_ ρ1 i with
      | .o _ => True
      | .t _ => True
      | _ => False) ∧ (W G ix).o ρ1 (fun y ρ2 => match y.get ρ2, at_ ρ2 i with
      | some (.int j), .o xs => ∃ n, L2.ixN xs.length j = some n ∧ D.nx (ρ2.set i (.o (xs.set n r.data)))
      | some k, .t kvs => keyOk k = true ∧ scalar r.data = true ∧ kvs.length < sizeLine ∧ D.nx (ρ2.set i (.t (dputK kvs k r.data)))
      | _, _ => False) D.ex) D.ex
  | .ifs c a b => fun ρ D => (W G c).t ρ (fun k ρ1 => if k = true then (WS a) ρ1 D else (WS b) ρ1 D) D.ex
  | .whl c b => fun ρ D => ∃ J : Nat → FE → Prop, (∃ n, J n ρ) ∧ ∀ n ρ, J n ρ → (W G c).t ρ (fun k ρ1 => if k = true then
      (WS b) ρ1 { nx := fun ρ2 => ∃ m, m < n ∧ J m ρ2, ct := fun ρ2 => ∃ m, m < n ∧ J m ρ2, bk := D.nx, rt := D.rt, ex := D.ex } else D.nx ρ1) D.ex
  | .fr t it b => fun ρ D => (WI G it) ρ (fun xs lk ρ1 => lkFree lk (t.vars ++ b.asgs) = true ∧
      forL lk t.put (fun ρ K => (WS b) ρ { nx := K, ct := K, bk := D.nx, rt := D.rt, ex := D.ex }) D.nx xs ρ1) D.ex
  | .ret e => fun ρ D => (W G e).m ρ D.rt D.ex
  | .retv e => fun ρ D => (W G e).v ρ D.rt D.ex
  | .retN => fun ρ D => D.rt (.d .none) ρ
  | .rais c as => fun ρ D => (Ws G as).rs ρ (fun rs ρ1 => D.ex ⟨c, match rs with
      | [r] => some r.data
      | _ => none⟩ ρ1) D.ex
  | .tryR b c _ h => fun ρ D => (WS b) ρ { D with ex := fun x ρ1 => if G.sub x.cls c = true then h.run G.sub x (fun s => D.rt (.d (.str s)) ρ1) else D.ex x ρ1 }
  | .setI2 i ix iy e => fun ρ D => (W G e).v ρ (fun r ρ1 => match r.data with
      | .tuple [x, y] => setK (W G ix).o i x ρ1 (fun ρ2 => setK (W G iy).o i y ρ2 D.nx D.ex) D.ex
      | _ => False) D.ex
  | .never => fun _ _ => False
end
/-- what stands at the parameters behind a body (those of the mask: never stored) -/
def outsOf : List Bool → List Rs → FE → Option (List Rs)
  | [], [], _ => some []
  | true :: bs, _ :: as, s :: ρ => match s.rs, outsOf bs as ρ with
    | some r, some rs => some (r :: rs)
    | _, _ => none
  | false :: bs, a :: as, _ :: ρ => (outsOf bs as ρ).map fun rs => a :: rs
  | _, _, _ => none
/-- a def's body as a promise; n: all its names -/
def runB (G : Gm) (ir : S) (n : Nat) (mask : List Bool) : FSp := fun args Q E =>
  args.length = mask.length ∧ args.length ≤ n ∧
  WS G ir (args.map Rs.sl ++ List.replicate (n - args.length) .no)
    { nx := fun ρ => match outsOf mask args ρ with
        | some outs => Q (.d .none) outs
        | none => False
      rt := fun r ρ => match outsOf mask args ρ with
        | some outs => Q r outs
        | none => False
      bk := fun _ => False
      ct := fun _ => False
      ex := fun x ρ => match outsOf mask args ρ with
        | some outs => E x outs
        | none => False }

end FX
set_option maxHeartbeats 2000000
namespace FX
open PySem PySem.Spec PyProof.Rows L2

/-! ### dicts whose keys are tuples of numbers, nested -/
def scV : PyData → V
  | .none => .non
  | .bool b => .bl b
  | .int i => .int i
  | .str s => .str s
  | _ => .non
mutual
theorem hash_any (w w' : World) : ∀ d : PyData, kd d = true → (nk d).hash w = (nk d).hash w'
  | .int i, _ => rfl
  | .bool b, _ => rfl
  | .tuple ds, h => by
    rw [kd] at h
    rw [nk, NestedKey.hash, NestedKey.hash, hashes_any w w' ds h]
  | .none, h => by simp [kd] at h
  | .str _, h => by simp [kd] at h
  | .list _, h => by simp [kd] at h
  | .dict _, h => by simp [kd] at h
theorem hashes_any (w w' : World) : ∀ ds : List PyData, kds ds = true → NestedKey.hashes w (nks ds) = NestedKey.hashes w' (nks ds)
  | [], _ => rfl
  | d :: ds, h => by
    rw [kds, Bool.and_eq_true] at h
    rw [nks, NestedKey.hashes, NestedKey.hashes, hash_any w w' d h.1, hashes_any w w' ds h.2]
end
mutual

inductive KD (K : PySem.W.Frag) (F : Hp) : V → PyData → Prop
  | bl (b : Bool) : KD K F (.bl b) (.bool b)
  | int (i : Int) : KD K F (.int i) (.int i)
  | tup {a : Addr} {xs : List V} {ds : List PyData} : SqT K F a xs → KDs K F xs ds → KD K F (.ref a) (.tuple ds)
inductive KDs (K : PySem.W.Frag) (F : Hp) : List V → List PyData → Prop
  | nil : KDs K F [] []
  | cons {v : V} {vs : List V} {d : PyData} {ds : List PyData} : KD K F v d → KDs K F vs ds → KDs K F (v :: vs) (d :: ds)
end
theorem sqT_mono {K : PySem.W.Frag} {F F' : Hp} {a : Addr} {xs : List V} (e : Same F F') (h : SqT K F a xs) : SqT K F' a xs := by
  rcases h with (h | ⟨o, h⟩) | h
  · exact .inl (.inl (e _ _ h))
  · exact .inl (.inr ⟨o, e _ _ h⟩)
  · exact .inr h
mutual
theorem kd_mono {K : PySem.W.Frag} {F F' : Hp} (e : Same F F') : ∀ (d : PyData) (v : V), KD K F v d → KD K F' v d
  | .bool b, _, h => by cases h; exact .bl b
  | .int i, _, h => by cases h; exact .int i
  | .tuple xs, _, h => by
    cases h with
    | tup hs ha => exact .tup (sqT_mono e hs) (kds_mono e xs _ ha)
  | .none, _, h => by cases h
  | .str _, _, h => by cases h
  | .list _, _, h => by cases h
  | .dict _, _, h => by cases h
theorem kds_mono {K : PySem.W.Frag} {F F' : Hp} (e : Same F F') : ∀ (ds : List PyData) (vs : List V), KDs K F vs ds → KDs K F' vs ds
  | [], _, h => by cases h; exact .nil
  | d :: ds, _, h => by
    cases h with
    | cons h1 h2 => exact .cons (kd_mono e d _ h1) (kds_mono e ds _ h2)
end
abbrev Ent3 := PyData × Addr × PyData
def kvsOf (xs : List Ent3) : List (PyData × PyData) := xs.map fun x => (x.1, x.2.2)
def EP3 (p : Ent3) (q : NestedKey × Addr × Value) : Prop := q.1 = nk p.1 ∧ q.2.1 = p.2.1 ∧ RelV (scV p.2.2) q.2.2
def entW (w : World) (y : NestedKey × Addr × Value) : DictEntry := ⟨y.1.hash w, .ref y.2.1, y.2.2⟩
def EntO (d : Addr) (o : Obj) (xs : List Ent3) : Prop :=
  (d == sysModules) = false ∧ xs.length ≤ sizeLine ∧ o.ExactDict ∧ (∃ es ep, o.data = .dict es ep ∧ ∃ ys : List (NestedKey × Addr × Value), Paired EP3 xs ys ∧ ∀ w, es.toList = ys.map (entW w)) ∧
  (xs.map fun x => nk x.1).Nodup ∧ ∀ x ∈ xs, keyOk x.1 = true ∧ scalar x.2.2 = true
/-- the dict at d, its object o -/
def DctO (d : Addr) (o : Obj) (xs : List Ent3) : HO := .ext fun h => h.get? d = some o ∧ EntO d o xs
section
variable {X : Cx} {pins : List (Addr × Obj)} {σ : L2.St} {H : Hp} {s : Shared} {d : Addr} {o : Obj} {xs : List Ent3}
theorem keyOk_kd {k : PyData} (h : keyOk k = true) : kd k = true ∧ (nk k).depth ≤ 8 ∧ ∃ ds, k = .tuple ds := by
  unfold keyOk at h
  simp only [Bool.and_eq_true, decide_eq_true_eq] at h
  obtain ⟨⟨h1, h2⟩, h3⟩ := h
  refine ⟨h2, h3, ?_⟩
  cases k <;> first | exact ⟨_, rfl⟩ | cases h1
mutual
theorem kd_is (I : Inv X pins σ H s) : ∀ (k : PyData) (v : V) (u : Value), KD X.K H v k → RelV v u → NestedIs s.heap (nk k) u
  | .bool b, _, u, h, r => by
    cases h
    cases (show u = Value.bool b from r)
    exact .bool rfl
  | .int i, _, u, h, r => by
    cases h
    obtain ⟨t, rfl⟩ := (show ∃ t, u = Value.int i t from r)
    exact .int _ _
  | .tuple ds, _, u, h, r => by
    cases h with
    | @tup a xs _ h1 h2 =>
      cases (show u = Value.ref a from r)
      obtain ⟨its, rv, ⟨o, e1, e2, n, e3⟩, _⟩ := I.tuple h1
      rw [nk]
      exact .tup e1 e2 e3 (kds_is I ds xs its h2 rv)
  | .none, _, _, h, _ => by cases h
  | .str _, _, _, h, _ => by cases h
  | .list _, _, _, h, _ => by cases h
  | .dict _, _, _, h, _ => by cases h
theorem kds_is (I : Inv X pins σ H s) : ∀ (ks : List PyData) (vs : List V) (us : List Value), KDs X.K H vs ks → Vals vs us → NestedAll s.heap (nks ks) us
  | [], _, us, h, r => by
    cases h
    cases r
    exact .nil
  | k :: ks, _, us, h, r => by
    cases h with
    | cons h1 h2 =>
      cases r with
      | cons r1 r2 => exact .cons (kd_is I k _ _ h1 r1) (kds_is I ks _ _ h2 r2)
end
theorem paired_mem {α β : Type} {G : α → β → Prop} {l₁ : List α} {l₂ : List β} (h : Paired G l₁ l₂) : ∀ b ∈ l₂, ∃ a ∈ l₁, G a b := by
  induction h with
  | nil => intro b hb; cases hb
  | cons r t ih =>
    intro b hb
    rcases List.mem_cons.mp hb with rfl | hb
    · exact ⟨_, List.mem_cons_self, r⟩
    · obtain ⟨a, h1, h2⟩ := ih b hb
      exact ⟨a, List.mem_cons_of_mem _ h1, h2⟩
theorem paired_keys {xs : List Ent3} {ys : List (NestedKey × Addr × Value)} (h : Paired EP3 xs ys) : ys.map (·.1) = xs.map fun x => nk x.1 := by
  induction h with
  | nil => rfl
  | cons r t ih => rw [List.map_cons, List.map_cons, ih, r.1]
/-- what the invariant tells of the dict -/
theorem dct_rd (I : Inv X pins σ H s) (e : H d = some (DctO d o xs)) (hk : ∀ x ∈ xs, KD X.K H (.ref x.2.1) x.1) :
    s.heap.get? d = some o ∧ EntO d o xs ∧ ∃ ys, Paired EP3 xs ys ∧ s.heap.DictOfH (nestedKind X.prog X.w) d ys := by
  obtain ⟨⟨hg, hE⟩, _, _⟩ := (show ObjOk X.prog X.w H s.heap d (DctO d o xs) from I.hok d _ e)
  refine ⟨hg, hE, ?_⟩
  obtain ⟨_, _, hx, ⟨es, ep, hd, ys, hp, hw⟩, hn, ho⟩ := hE
  refine ⟨ys, hp, o, es, ep, hg, hx, hd, hw X.w, fun y hy => ?_, by rw [paired_keys hp]; exact hn⟩
  obtain ⟨x, m, q1, q2, _⟩ := paired_mem hp y hy
  obtain ⟨_, g2, _⟩ := keyOk_kd (ho x m).1
  refine ⟨?_, by rw [q1]; exact g2⟩
  rw [q1, q2]
  exact kd_is I x.1 _ _ (hk x m) rfl
theorem dct_new {H' : Hp} {h' : Heap} {P : Program} {w : World} (hg : h'.get? d = some o) (hE : EntO d o xs) : ObjOk P w H' h' d (DctO d o xs) :=
  ⟨⟨hg, hE⟩, ⟨o, hg⟩, fun h1 h2 q k => ⟨k _ q.1, q.2⟩⟩
/-- the lookup -/
theorem at_get {k : PyData} {ys : List (NestedKey × Addr × Value)} (h : Paired EP3 xs ys) : (∀ v, dgetK (kvsOf xs) k = some v → ∃ p, atKey ys (nk k) = some p ∧ RelV (scV v) p.2) ∧ (dgetK (kvsOf xs) k = none → atKey ys (nk k) = none) := by
  induction h with
  | nil => exact ⟨fun v e => by simp [dgetK, kvsOf] at e, fun _ => rfl⟩
  | @cons p q ps qs r t ih =>
    by_cases e : nk p.1 = nk k
    · have e2 : q.1 = nk k := r.1.trans e
      refine ⟨fun v ev => ⟨q.2, by simp [atKey, e2], ?_⟩, fun ev => ?_⟩
      · have : v = p.2.2 := by
          simp [dgetK, kvsOf, e] at ev
          exact ev.symm
        subst this
        exact r.2.2
      · simp [dgetK, kvsOf, e] at ev
    · have e2 : ¬ q.1 = nk k := fun z => e (r.1 ▸ z)
      have a1 : dgetK (kvsOf (p :: ps)) k = dgetK (kvsOf ps) k := by simp [dgetK, kvsOf, e]
      have a2 : atKey (q :: qs) (nk k) = atKey qs (nk k) := by simp [atKey, e2]
      rw [a1, a2]
      exact ih
theorem at_isSome {k : PyData} {ys : List (NestedKey × Addr × Value)} (h : Paired EP3 xs ys) : (atKey ys (nk k)).isSome = (dgetK (kvsOf xs) k).isSome := by
  obtain ⟨h1, h2⟩ := at_get (k := k) h
  cases e : dgetK (kvsOf xs) k with
  | none => rw [h2 e]; rfl
  | some v =>
    obtain ⟨p, hp, _⟩ := h1 v e
    rw [hp]
    rfl
/-- the store -/
def xput (xs : List Ent3) (k : PyData) (a : Addr) (v : PyData) : List Ent3 :=
  if (dgetK (kvsOf xs) k).isSome = true then xs.map (fun x => if nk x.1 = nk k then (x.1, x.2.1, v) else x) else xs ++ [(k, a, v)]
theorem xput_kvs (k : PyData) (a : Addr) (v : PyData) : kvsOf (xput xs k a v) = dputK (kvsOf xs) k v := by
  unfold xput dputK
  split
  · unfold kvsOf
    rw [List.map_map, List.map_map]
    refine List.map_congr_left fun x _ => ?_
    by_cases e : nk x.1 = nk k <;> simp [e]
  · simp [kvsOf]
theorem xput_paired {k : PyData} {a : Addr} {v : PyData} {u : Value} {ys : List (NestedKey × Addr × Value)} (h : Paired EP3 xs ys) (r : RelV (scV v) u) : Paired EP3 (xput xs k a v) (storedH ys (nk k) a u) := by
  unfold xput storedH
  rw [at_isSome h]
  split
  · have key : ∀ {xs : List Ent3} {ys : List (NestedKey × Addr × Value)}, Paired EP3 xs ys → Paired EP3 (xs.map (fun x => if nk x.1 = nk k then (x.1, x.2.1, v) else x)) (ys.map (putAt (nk k) u)) := by
      intro xs ys h
      induction h with
      | nil => exact .nil
      | @cons p q ps qs r0 t ih =>
        rw [List.map_cons, List.map_cons]
        refine .cons ?_ ih
        by_cases e : nk p.1 = nk k
        · have e2 : q.1 = nk k := r0.1.trans e
          have a1 : (if nk p.1 = nk k then (p.1, p.2.1, v) else p) = (p.1, p.2.1, v) := if_pos e
          have a2 : putAt (nk k) u q = (q.1, q.2.1, u) := if_pos e2
          rw [a1, a2]
          exact ⟨r0.1, r0.2.1, r⟩
        · have e2 : ¬ q.1 = nk k := fun z => e (r0.1 ▸ z)
          have a1 : (if nk p.1 = nk k then (p.1, p.2.1, v) else p) = p := if_neg e
          have a2 : putAt (nk k) u q = q := if_neg e2
          rw [a1, a2]
          exact r0
    exact key h
  · exact Paired.snoc h ⟨rfl, rfl, r⟩
theorem find_none {k : PyData} (h : ¬ (dgetK (kvsOf xs) k).isSome = true) : ∀ x ∈ xs, nk x.1 ≠ nk k := by
  intro x hx e
  apply h
  unfold dgetK kvsOf
  rw [Option.isSome_map, List.find?_isSome]
  exact ⟨(x.1, x.2.2), List.mem_map.mpr ⟨x, hx, rfl⟩, by simp [e]⟩
theorem xput_nodup {k : PyData} {a : Addr} {v : PyData} (h : (xs.map fun x => nk x.1).Nodup) : ((xput xs k a v).map fun x => nk x.1).Nodup := by
  unfold xput
  split
  · rw [List.map_map]
    have : ((fun x : Ent3 => nk x.1) ∘ fun x : Ent3 => if nk x.1 = nk k then (x.1, x.2.1, v) else x) = fun x => nk x.1 := by
      funext x
      by_cases e : nk x.1 = nk k <;> simp [e]
    rw [this]
    exact h
  · rename_i hn
    rw [List.map_append, List.nodup_append]
    refine ⟨h, by simp, fun x hx y hy => ?_⟩
    obtain ⟨z, hz, rfl⟩ := List.mem_map.mp hx
    simp only [List.map_cons, List.map_nil, List.mem_singleton] at hy
    subst hy
    exact find_none hn z hz
theorem xput_len (k : PyData) (a : Addr) (v : PyData) : (xput xs k a v).length ≤ xs.length + 1 := by
  unfold xput
  split <;> simp
theorem xput_mem {k : PyData} {a : Addr} {v : PyData} {y : Ent3} (h : y ∈ xput xs k a v) : y = (k, a, v) ∨ ∃ x ∈ xs, y.1 = x.1 ∧ y.2.1 = x.2.1 ∧ (y.2.2 = v ∨ y.2.2 = x.2.2) := by
  unfold xput at h
  split at h
  · obtain ⟨x, hx, rfl⟩ := List.mem_map.mp h
    right
    refine ⟨x, hx, ?_⟩
    by_cases e : nk x.1 = nk k <;> simp [e]
  · rcases List.mem_append.mp h with h | h
    · exact .inr ⟨y, h, rfl, rfl, .inr rfl⟩
    · exact .inl (by simpa using h)
/-- the object behind the rules' dict -/
theorem ent_of {P : Program} {w : World} {h' : Heap} {ys : List (NestedKey × Addr × Value)} (hs : (d == sysModules) = false) (hl : xs.length ≤ sizeLine) (hp : Paired EP3 xs ys) (hn : (xs.map fun x => nk x.1).Nodup) (ho : ∀ x ∈ xs, keyOk x.1 = true ∧ scalar x.2.2 = true)
    (dd : h'.DictOfH (nestedKind P w) d ys) : ∃ o', h'.get? d = some o' ∧ EntO d o' xs := by
  obtain ⟨o', es, ep, g1, g2, g3, g4, _, _⟩ := dd
  refine ⟨o', g1, hs, hl, g2, ⟨es, ep, g3, ys, hp, fun w' => ?_⟩, hn, ho⟩
  rw [g4]
  refine List.map_congr_left fun y hy => ?_
  obtain ⟨x, m, q1, _, _⟩ := paired_mem hp y hy
  have := hash_any w w' x.1 (keyOk_kd (ho x m).1).1
  show (⟨y.1.hash w, .ref y.2.1, y.2.2⟩ : DictEntry) = ⟨y.1.hash w', .ref y.2.1, y.2.2⟩
  rw [q1, this]
theorem room_n {A : Around} (hu : A.units + 65 < cLine) : (nestedKind X.prog X.w).room A.in1 := by
  show A.units + 1 + 8 < cLine
  omega
theorem key_is (I : Inv X pins σ H s) {k : PyData} {b : Addr} (hk : KD X.K H (.ref b) k) (ho : keyOk k = true) : (nestedKind X.prog X.w).is s.heap (nk k) b :=
  ⟨kd_is I k _ _ hk rfl, (keyOk_kd ho).2.1⟩
variable {A : Around} {E : Value → Shared → Prop} {k : PyData} {b : Addr}
theorem n_get {v : PyData} {Q : Value → Shared → Prop} (hu : A.units + 65 < cLine) (I : Inv X pins σ H s) (e : H d = some (DctO d o xs)) (hk : ∀ x ∈ xs, KD X.K H (.ref x.2.1) x.1) (kk : KD X.K H (.ref b) k) (ko : keyOk k = true) (hv : dgetK (kvsOf xs) k = some v)
    (h : ∀ u s', Inv X pins σ H s' → RelV (scV v) u → Q u s') : wpAny (model X.prog X.w) A (getItem (.ref d) (.ref b)) Q E s := by
  obtain ⟨_, _, ys, hp, dd⟩ := dct_rd I e hk
  obtain ⟨p, p1, p2⟩ := (at_get hp).1 v hv
  exact wpAny_getItem_heap (room_n hu) (key_is I kk ko) dd p1 (h _ _ (I.tok _) p2)
theorem n_in {Q : Value → Shared → Prop} (hu : A.units + 65 < cLine) (I : Inv X pins σ H s) (e : H d = some (DctO d o xs)) (hk : ∀ x ∈ xs, KD X.K H (.ref x.2.1) x.1) (kk : KD X.K H (.ref b) k) (ko : keyOk k = true)
    (h : ∀ s', Inv X pins σ H s' → Q (.bool (dgetK (kvsOf xs) k).isSome) s') : wpAny (model X.prog X.w) A (compareOp .In (.ref b) (.ref d)) Q E s := by
  obtain ⟨_, hE, ys, hp, dd⟩ := dct_rd I e hk
  refine wpAny_in_heap (room_n hu) (key_is I kk ko) hE.1 dd ?_
  rw [at_isSome hp]
  exact h _ (I.tok _)
theorem n_notIn {Q : Value → Shared → Prop} (hu : A.units + 65 < cLine) (I : Inv X pins σ H s) (e : H d = some (DctO d o xs)) (hk : ∀ x ∈ xs, KD X.K H (.ref x.2.1) x.1) (kk : KD X.K H (.ref b) k) (ko : keyOk k = true)
    (h : ∀ s', Inv X pins σ H s' → Q (.bool (!(dgetK (kvsOf xs) k).isSome)) s') : wpAny (model X.prog X.w) A (compareOp .NotIn (.ref b) (.ref d)) Q E s := by
  obtain ⟨_, hE, ys, hp, dd⟩ := dct_rd I e hk
  refine wpAny_notIn_heap (room_n hu) (key_is I kk ko) hE.1 dd ?_
  rw [at_isSome hp]
  exact h _ (I.tok _)
theorem n_get1 {Q : Value → Shared → Prop} (hu : A.units + 65 < cLine) (I : Inv X pins σ H s) (e : H d = some (DctO d o xs)) (hk : ∀ x ∈ xs, KD X.K H (.ref x.2.1) x.1) (kk : KD X.K H (.ref b) k) (ko : keyOk k = true)
    (h : ∀ u s', Inv X pins σ H s' → RelV (scV ((dgetK (kvsOf xs) k).getD .none)) u → Q u s') : wpAny (model X.prog X.w) A (call (.builtin "dict.get") [.ref d, .ref b]) Q E s := by
  obtain ⟨_, hE, ys, hp, dd⟩ := dct_rd I e hk
  refine call_meetsIn PySem.F.slot_dict_get dd.typeIs PySem.F.entry_dict_get (PySem.F.args_dict_get_2 _ _) (meetsH_dict_get (nestedKind X.prog X.w) d b hE.1) ⟨room_n hu, _, ys, key_is I kk ko, dd, h _ _ (I.tok _) ?_⟩
  obtain ⟨g1, g2⟩ := at_get (k := k) hp
  cases e : dgetK (kvsOf xs) k with
  | none => rw [g2 e]; exact rfl
  | some v =>
    obtain ⟨p, p1, p2⟩ := g1 v e
    rw [p1]
    exact p2
theorem n_get2 {y : V} {r : Value} {dv : PyData} {Q : Value → Shared → Prop} (hu : A.units + 65 < cLine) (I : Inv X pins σ H s) (e : H d = some (DctO d o xs)) (hk : ∀ x ∈ xs, KD X.K H (.ref x.2.1) x.1) (kk : KD X.K H (.ref b) k) (ko : keyOk k = true) (rd : RelV (scV dv) r)
    (h : ∀ u s', Inv X pins σ H s' → RelV (scV ((dgetK (kvsOf xs) k).getD dv)) u → Q u s') : wpAny (model X.prog X.w) A (call (.builtin "dict.get") [.ref d, .ref b, r]) Q E s := by
  obtain ⟨_, hE, ys, hp, dd⟩ := dct_rd I e hk
  refine call_meetsIn PySem.F.slot_dict_get dd.typeIs PySem.F.entry_dict_get (PySem.F.args_dict_get_3 _ _ _) (meetsH_dict_get_default (nestedKind X.prog X.w) d b hE.1 r) ⟨room_n hu, _, ys, key_is I kk ko, dd, h _ _ (I.tok _) ?_⟩
  obtain ⟨g1, g2⟩ := at_get (k := k) hp
  cases e : dgetK (kvsOf xs) k with
  | none => rw [g2 e]; exact rd
  | some v =>
    obtain ⟨p, p1, p2⟩ := g1 v e
    rw [p1]
    exact p2
theorem n_set {v : PyData} {r : Value} {Q : Unit → Shared → Prop} (hu : A.units + 65 < cLine) (I : Inv X pins σ H s) (e : H d = some (DctO d o xs)) (hk : ∀ x ∈ xs, KD X.K H (.ref x.2.1) x.1) (kk : KD X.K H (.ref b) k) (ko : keyOk k = true) (vo : scalar v = true)
    (rv : RelV (scV v) r) (hz : xs.length < sizeLine) (h : ∀ o' s', Inv X pins σ (upd H d (DctO d o' (xput xs k b v))) s' → Q () s') : wpAny (model X.prog X.w) A (setItem (.ref d) (.ref b) r) Q E s := by
  obtain ⟨_, hE, ys, hp, dd⟩ := dct_rd I e hk
  obtain ⟨h1, h2, h3, h4, h5, h6⟩ := hE
  refine wpAny_setItem_heap (hsz := by rw [← Paired.length hp]; omega) (room_n hu) (key_is I kk ko) dd fun h' dd' hs => ?_
  have hl := xput_len (xs := xs) k b v
  obtain ⟨o', g1, g2⟩ := ent_of (xs := xput xs k b v) h1 (by omega) (xput_paired hp rv) (xput_nodup h5) (fun y hy => by
    rcases xput_mem hy with rfl | ⟨x, hx, e1, _, e3⟩
    · exact ⟨ko, vo⟩
    · rw [e1]
      refine ⟨(h6 x hx).1, ?_⟩
      rcases e3 with e3 | e3 <;> rw [e3]
      · exact vo
      · exact (h6 x hx).2) dd'
  exact h o' _ (d_write I (by rw [e]; exact True.intro) hs ⟨o', g1⟩ (dct_new g1 g2))
theorem empty_ent {h : Heap} (hb : sysModules < h.objs.size) : EntO h.objs.size { cls := .type "dict", data := .dict #[] } [] :=
  ⟨beq_eq_false_iff_ne.mpr (Ne.symm (Nat.ne_of_lt hb)), Nat.zero_le _, ⟨rfl, rfl, rfl⟩, ⟨#[], 0, rfl, [], .nil, fun _ => rfl⟩, List.nodup_nil, fun _ h => by cases h⟩
end
end FX
namespace FX
open PySem PySem.Spec PyProof.Rows L2

/-- what is known of the program beyond its functions: the addresses of its classes, the name of their one field -/
class Wc where
  cls : PySem.W.Frag → Nat → Option Addr
  fld : Nat → Str
variable [Wc]
/-! ### what stands for plain data -/
def kDk : L2.Key → PyData
  | .inl i => .int i
  | .inr x => .str x
mutual
inductive DD (K : PySem.W.Frag) (F : Hp) : V → PyData → Prop
  | non : DD K F .non .none
  | bl (b : Bool) : DD K F (.bl b) (.bool b)
  | int (i : Int) : DD K F (.int i) (.int i)
  | str (x : Str) : DD K F (.str x) (.str x)
  | lst {a : Addr} {xs : List V} {ds : List PyData} : F a = some (.lst xs) → DDs K F xs ds → DD K F (.ref a) (.list ds)
  | tup {a : Addr} {xs : List V} {ds : List PyData} : SqT K F a xs → DDs K F xs ds → DD K F (.ref a) (.tuple ds)
  | scr {a : Addr} {kvs : List (PyData × PyData)} (ns : List Int) : SqL K F a (ns.map V.int) → kvs = scrK ns → DD K F (.ref a) (.dict kvs)
  | ins {a C dx : Addr} {z : Str} {kvs : List (PyData × PyData)} (c : Nat) : Wc.cls K c = some C → F a = some (.ins C dx [(Wc.fld c, .str z)]) → F dx = some (.own a) → kvs = [(.none, .int c), (.none, .str z)] → DD K F (.ref a) (.dict kvs)
  | dct {a : Addr} {o : Obj} {xs : List Ent3} {kvs : List (PyData × PyData)} : F a = some (DctO a o xs) → (∀ x ∈ xs, KD K F (.ref x.2.1) x.1) → kvs = kvsOf xs → DD K F (.ref a) (.dict kvs)
  | lit {a : Addr} {kvs : List (PyData × PyData)} (k : L2.Key) (n : Int) : F a = some (.dK [(k, .int n)]) → kvs = [(kDk k, .int n)] → DD K F (.ref a) (.dict kvs)
inductive DDs (K : PySem.W.Frag) (F : Hp) : List V → List PyData → Prop
  | nil : DDs K F [] []
  | cons {v : V} {vs : List V} {d : PyData} {ds : List PyData} : DD K F v d → DDs K F vs ds → DDs K F (v :: vs) (d :: ds)
end
mutual
theorem dp_mono {K : PySem.W.Frag} {F F' : Hp} (e : Same F F') : ∀ (d : PyData) (v : V), DD K F v d → DD K F' v d
  | .none, _, h => by cases h; exact .non
  | .bool b, _, h => by cases h; exact .bl b
  | .int i, _, h => by cases h; exact .int i
  | .str s, _, h => by cases h; exact .str s
  | .list xs, _, h => by
    cases h with
    | lst hs ha => exact .lst (e _ _ hs) (dps_mono e xs _ ha)
  | .tuple xs, _, h => by
    cases h with
    | tup hs ha => exact .tup (sqT_mono e hs) (dps_mono e xs _ ha)
  | .dict _, _, h => by
    cases h with
    | scr ns h1 h2 => exact .scr ns (e.seq h1) h2
    | ins c h1 h2 h3 h4 => exact .ins c h1 (e _ _ h2) (e _ _ h3) h4
    | dct h1 h2 h3 => exact .dct (e _ _ h1) (fun x hx => kd_mono e _ _ (h2 x hx)) h3
    | lit k n h1 h2 => exact .lit k n (e _ _ h1) h2
theorem dps_mono {K : PySem.W.Frag} {F F' : Hp} (e : Same F F') : ∀ (ds : List PyData) (vs : List V), DDs K F vs ds → DDs K F' vs ds
  | [], _, h => by cases h; exact .nil
  | d :: ds, _, h => by
    cases h with
    | cons h1 h2 => exact .cons (dp_mono e d _ h1) (dps_mono e ds _ h2)
end
theorem dps_len {K : PySem.W.Frag} {F : Hp} : ∀ {vs : List V} {ds : List PyData}, DDs K F vs ds → vs.length = ds.length
  | [], [], _ => rfl
  | _ :: _, _ :: _, .cons _ h => by simp [dps_len h]
theorem dps_get {K : PySem.W.Frag} {F : Hp} : ∀ {vs : List V} {ds : List PyData} {i : Nat} {d : PyData}, DDs K F vs ds → ds[i]? = some d → ∃ v, vs[i]? = some v ∧ DD K F v d
  | _ :: _, _ :: _, 0, _, .cons h _, e => by
    simp only [List.getElem?_cons_zero, Option.some.injEq] at e ⊢
    subst e
    exact ⟨_, rfl, h⟩
  | _ :: _, _ :: _, i + 1, _, .cons _ h, e => by
    simp only [List.getElem?_cons_succ] at e ⊢
    exact dps_get h e
  | [], [], _, _, .nil, e => by simp at e
theorem dps_get' {K : PySem.W.Frag} {F : Hp} : ∀ {vs : List V} {ds : List PyData} {i : Nat} {v : V}, DDs K F vs ds → vs[i]? = some v → ∃ d, ds[i]? = some d ∧ DD K F v d
  | _ :: _, _ :: _, 0, _, .cons h _, e => by
    simp only [List.getElem?_cons_zero, Option.some.injEq] at e ⊢
    subst e
    exact ⟨_, rfl, h⟩
  | _ :: _, _ :: _, i + 1, _, .cons _ h, e => by
    simp only [List.getElem?_cons_succ] at e ⊢
    exact dps_get' h e
  | [], [], _, _, .nil, e => by simp at e
theorem dps_app {K : PySem.W.Frag} {F : Hp} : ∀ {vs ws : List V} {ds es : List PyData}, DDs K F vs ds → DDs K F ws es → DDs K F (vs ++ ws) (ds ++ es)
  | [], _, [], _, _, h => h
  | _ :: _, _, _ :: _, _, .cons h1 h2, h => .cons h1 (dps_app h2 h)
theorem dps_take {K : PySem.W.Frag} {F : Hp} : ∀ {vs : List V} {ds : List PyData} (n : Nat), DDs K F vs ds → DDs K F (vs.take n) (ds.take n)
  | [], [], 0, _ => .nil
  | [], [], _ + 1, _ => .nil
  | _ :: _, _ :: _, 0, _ => .nil
  | _ :: _, _ :: _, n + 1, .cons h1 h2 => .cons h1 (dps_take n h2)
theorem dps_drop {K : PySem.W.Frag} {F : Hp} : ∀ {vs : List V} {ds : List PyData} (n : Nat), DDs K F vs ds → DDs K F (vs.drop n) (ds.drop n)
  | [], [], 0, h => h
  | [], [], _ + 1, _ => .nil
  | _ :: _, _ :: _, 0, h => h
  | _ :: _, _ :: _, n + 1, .cons _ h2 => dps_drop n h2
theorem dps_rev {K : PySem.W.Frag} {F : Hp} : ∀ {vs : List V} {ds : List PyData}, DDs K F vs ds → DDs K F vs.reverse ds.reverse
  | [], [], _ => .nil
  | _ :: _, _ :: _, .cons h1 h2 => by
    rw [List.reverse_cons, List.reverse_cons]
    exact dps_app (dps_rev h2) (.cons h1 .nil)
theorem dps_set {K : PySem.W.Frag} {F : Hp} {v : V} {d : PyData} (h : DD K F v d) : ∀ {vs : List V} {ds : List PyData} (n : Nat), DDs K F vs ds → DDs K F (vs.set n v) (ds.set n d)
  | [], [], _, _ => .nil
  | _ :: _, _ :: _, 0, .cons _ h2 => .cons h h2
  | _ :: _, _ :: _, n + 1, .cons h1 h2 => .cons h1 (dps_set h n h2)
theorem dps_erase {K : PySem.W.Frag} {F : Hp} : ∀ {vs : List V} {ds : List PyData} (n : Nat), DDs K F vs ds → DDs K F (vs.eraseIdx n) (ds.eraseIdx n)
  | [], [], _, _ => by simpa using DDs.nil
  | _ :: _, _ :: _, 0, .cons _ h2 => h2
  | _ :: _, _ :: _, n + 1, .cons h1 h2 => .cons h1 (dps_erase n h2)
theorem dps_dropLast {K : PySem.W.Frag} {F : Hp} {vs : List V} {ds : List PyData} (h : DDs K F vs ds) : DDs K F vs.dropLast ds.dropLast := by
  rw [List.dropLast_eq_take, List.dropLast_eq_take, dps_len h]
  exact dps_take _ h
theorem dps_rep {K : PySem.W.Frag} {F : Hp} {vs : List V} {ds : List PyData} (h : DDs K F vs ds) : ∀ n : Nat, DDs K F (List.replicate n vs).flatten (List.replicate n ds).flatten
  | 0 => .nil
  | n + 1 => by
    rw [List.replicate_succ, List.replicate_succ, List.flatten_cons, List.flatten_cons]
    exact dps_app h (dps_rep h n)
theorem dps_ints {K : PySem.W.Frag} {F : Hp} : ∀ ns : List Int, DDs K F (ns.map V.int) (ns.map PyData.int)
  | [] => .nil
  | n :: ns => .cons (.int n) (dps_ints ns)
theorem dps_strs {K : PySem.W.Frag} {F : Hp} : ∀ ns : List Str, DDs K F (ns.map V.str) (ns.map PyData.str)
  | [] => .nil
  | n :: ns => .cons (.str n) (dps_strs ns)
theorem of_ints {K : PySem.W.Frag} {F : Hp} : ∀ {vs : List V} {ns : List Int}, DDs K F vs (ns.map PyData.int) → vs = ns.map V.int
  | _, [], .nil => rfl
  | _, n :: ns, .cons h1 h2 => by
    cases h1
    rw [of_ints h2]
    rfl
theorem of_bools {K : PySem.W.Frag} {F : Hp} : ∀ {vs : List V} {ns : List Bool}, DDs K F vs (ns.map PyData.bool) → vs = ns.map V.bl
  | _, [], .nil => rfl
  | _, n :: ns, .cons h1 h2 => by
    cases h1
    rw [of_bools h2]
    rfl
theorem of_strs {K : PySem.W.Frag} {F : Hp} : ∀ {vs : List V} {ns : List Str}, DDs K F vs (ns.map PyData.str) → vs = ns.map V.str
  | _, [], .nil => rfl
  | _, n :: ns, .cons h1 h2 => by
    cases h1
    rw [of_strs h2]
    rfl

mutual
theorem dd_kd {K : PySem.W.Frag} {F : Hp} : ∀ (d : PyData) (v : V), DD K F v d → kd d = true → KD K F v d
  | .bool b, _, h, _ => by cases h; exact .bl b
  | .int i, _, h, _ => by cases h; exact .int i
  | .tuple xs, _, h, e => by
    rw [kd] at e
    cases h with
    | tup hs ha => exact .tup hs (dds_kd xs _ ha e)
  | .none, _, _, e => by simp [kd] at e
  | .str _, _, _, e => by simp [kd] at e
  | .list _, _, _, e => by simp [kd] at e
  | .dict _, _, _, e => by simp [kd] at e
theorem dds_kd {K : PySem.W.Frag} {F : Hp} : ∀ (ds : List PyData) (vs : List V), DDs K F vs ds → kds ds = true → KDs K F vs ds
  | [], _, h, _ => by cases h; exact .nil
  | d :: ds, _, h, e => by
    rw [kds, Bool.and_eq_true] at e
    cases h with
    | cons h1 h2 => exact .cons (dd_kd d _ h1 e.1) (dds_kd ds _ h2 e.2)
end
mutual
theorem kd_dd {K : PySem.W.Frag} {F : Hp} : ∀ (d : PyData) (v : V), KD K F v d → DD K F v d
  | .bool b, _, h => by cases h; exact .bl b
  | .int i, _, h => by cases h; exact .int i
  | .tuple xs, _, h => by
    cases h with
    | tup hs ha => exact .tup hs (kds_dd xs _ ha)
  | .none, _, h => by cases h
  | .str _, _, h => by cases h
  | .list _, _, h => by cases h
  | .dict _, _, h => by cases h
theorem kds_dd {K : PySem.W.Frag} {F : Hp} : ∀ (ds : List PyData) (vs : List V), KDs K F vs ds → DDs K F vs ds
  | [], _, h => by cases h; exact .nil
  | d :: ds, _, h => by
    cases h with
    | cons h1 h2 => exact .cons (kd_dd d _ h1) (kds_dd ds _ h2)
end
/-- a dict at a: its object, its entries -/
def DctA (K : PySem.W.Frag) (F H : Hp) (a : Addr) (kvs : List (PyData × PyData)) : Prop := ∃ o xs, H a = some (DctO a o xs) ∧ (∀ x ∈ xs, KD K F (.ref x.2.1) x.1) ∧ kvs = kvsOf xs
theorem DctA.mono {K : PySem.W.Frag} {F F' H H' : Hp} {a : Addr} {kvs : List (PyData × PyData)} (e : Same F F') (h : DctA K F H a kvs) (ha : H' a = H a) : DctA K F' H' a kvs := by
  obtain ⟨o, xs, h1, h2, h3⟩ := h
  exact ⟨o, xs, by rw [ha]; exact h1, fun x hx => kd_mono e _ _ (h2 x hx), h3⟩
/-! ### the slots over a heap: F what is frozen -/
abbrev Zs := List (Sl × Option V)
def SlotR (K : PySem.W.Frag) (F H : Hp) : Sl → Option V → Prop
  | .no, _ => True
  | .d x, some v => DD K F v x
  | .o xs, some (.ref a) => F a = none ∧ ∃ vs, H a = some (.lst vs) ∧ DDs K F vs xs
  | .t kvs, some (.ref a) => F a = none ∧ DctA K F H a kvs
  | .h o, some (.ref a) => F a = none ∧ H a = some o
  | _, _ => False
def ownA : Sl × Option V → Option Addr
  | (.o _, some (.ref a)) => some a
  | (.t _, some (.ref a)) => some a
  | (.h _, some (.ref a)) => some a
  | _ => none
structure Rp (K : PySem.W.Frag) (F H : Hp) (z : Zs) : Prop where
  sub : Same F H
  ok : ∀ p ∈ z, SlotR K F H p.1 p.2
  nd : (z.filterMap ownA).Nodup
section
variable {K : PySem.W.Frag} {F F' H H' : Hp} {z z' : Zs} {a : Addr} {v : V} {w : Option V} {x : PyData} {xs xs' : List PyData} {vs vs' : List V}
theorem Rp.perm (R : Rp K F H z) (p : z.Perm z') : Rp K F H z' := ⟨R.sub, fun q hq => R.ok q (p.mem_iff.mpr hq), (p.filterMap ownA).nodup_iff.mp R.nd⟩
theorem Rp.tail {p : Sl × Option V} (R : Rp K F H (p :: z)) : Rp K F H z := ⟨R.sub, fun q hq => R.ok q (List.mem_cons_of_mem _ hq), by
  have h := R.nd
  rw [List.filterMap_cons] at h
  cases e : ownA p with
  | none => rw [e] at h; exact h
  | some b => rw [e] at h; exact (List.nodup_cons.mp h).2⟩
theorem Rp.head {p : Sl × Option V} (R : Rp K F H (p :: z)) : SlotR K F H p.1 p.2 := R.ok p List.mem_cons_self
theorem Rp.consN (R : Rp K F H z) : Rp K F H ((.no, w) :: z) := ⟨R.sub, fun q hq => by
  rcases List.mem_cons.mp hq with rfl | hq
  · trivial
  · exact R.ok q hq, R.nd⟩
theorem Rp.consD (R : Rp K F H z) (h : DD K F v x) : Rp K F H ((.d x, some v) :: z) := ⟨R.sub, fun q hq => by
  rcases List.mem_cons.mp hq with rfl | hq
  · exact h
  · exact R.ok q hq, R.nd⟩
theorem Rp.consO (R : Rp K F H z) (hF : F a = none) (hH : H a = some (.lst vs)) (h : DDs K F vs xs) (hn : a ∉ z.filterMap ownA) : Rp K F H ((.o xs, some (.ref a)) :: z) := ⟨R.sub, fun q hq => by
  rcases List.mem_cons.mp hq with rfl | hq
  · exact ⟨hF, vs, hH, h⟩
  · exact R.ok q hq, by
  rw [List.filterMap_cons]
  exact List.nodup_cons.mpr ⟨hn, R.nd⟩⟩
theorem Rp.consT {kvs : List (PyData × PyData)} (R : Rp K F H z) (hF : F a = none) (h : DctA K F H a kvs) (hn : a ∉ z.filterMap ownA) : Rp K F H ((.t kvs, some (.ref a)) :: z) := ⟨R.sub, fun q hq => by
  rcases List.mem_cons.mp hq with rfl | hq
  · exact ⟨hF, h⟩
  · exact R.ok q hq, by
  rw [List.filterMap_cons]
  exact List.nodup_cons.mpr ⟨hn, R.nd⟩⟩
theorem Rp.own (R : Rp K F H z) (h : a ∈ z.filterMap ownA) : F a = none ∧ ∃ u, H a = some u := by
  obtain ⟨⟨s, w⟩, hp, e⟩ := List.mem_filterMap.mp h
  have q := R.ok _ hp
  unfold ownA at e
  split at e
  · rename_i ys b he
    cases e
    cases he
    obtain ⟨h1, vs, h2, _⟩ := q
    exact ⟨h1, _, h2⟩
  · rename_i ys b he
    cases e
    cases he
    obtain ⟨h1, o, xs, h2, _⟩ := q
    exact ⟨h1, _, h2⟩
  · rename_i ys b he
    cases e
    cases he
    obtain ⟨h1, h2⟩ := q
    exact ⟨h1, _, h2⟩
  · cases e
theorem Rp.notinT {kvs : List (PyData × PyData)} (R : Rp K F H ((.t kvs, some (.ref a)) :: z)) : a ∉ z.filterMap ownA := by
  have h := R.nd
  rw [List.filterMap_cons] at h
  exact (List.nodup_cons.mp h).1
theorem Rp.notin (R : Rp K F H ((.o xs, some (.ref a)) :: z)) : a ∉ z.filterMap ownA := by
  have h := R.nd
  rw [List.filterMap_cons] at h
  exact (List.nodup_cons.mp h).1
theorem Rp.step (R : Rp K F H z) (hF : Same F F') (hs : Same F' H') (ho : ∀ a ∈ z.filterMap ownA, F' a = none ∧ H' a = H a) : Rp K F' H' z := by
  refine ⟨hs, fun p hp => ?_, R.nd⟩
  have q := R.ok p hp
  obtain ⟨s, w⟩ := p
  cases s with
  | no => trivial
  | d x =>
    cases w with
    | none => exact q
    | some v => exact dp_mono hF _ _ q
  | o ys =>
    cases w with
    | none => exact q
    | some v =>
      cases v with
      | ref b =>
        obtain ⟨h1, vs, h2, h3⟩ := q
        obtain ⟨h4, h5⟩ := ho b (List.mem_filterMap.mpr ⟨_, hp, rfl⟩)
        exact ⟨h4, vs, by rw [h5]; exact h2, dps_mono hF _ _ h3⟩
      | _ => exact q
  | t ys =>
    cases w with
    | none => exact q
    | some v =>
      cases v with
      | ref b =>
        obtain ⟨h1, h2⟩ := q
        obtain ⟨h4, h5⟩ := ho b (List.mem_filterMap.mpr ⟨_, hp, rfl⟩)
        exact ⟨h4, h2.mono hF h5⟩
      | _ => exact q
  | h u =>
    cases w with
    | none => exact q
    | some v =>
      cases v with
      | ref b =>
        obtain ⟨h1, h2⟩ := q
        obtain ⟨h4, h5⟩ := ho b (List.mem_filterMap.mpr ⟨_, hp, rfl⟩)
        exact ⟨h4, h5.trans h2⟩
      | _ => exact q
/-- what was made: a value z of the heap H', new objects only -/
def Made (K : PySem.W.Frag) (F H : Hp) (r : Rs) (v : V) (H' : Hp) : Prop := ∃ F', Same F F' ∧ Same F' H' ∧ Same H H' ∧ (∀ a, F' a ≠ none → F a ≠ none ∨ H a = none) ∧
  match r with
  | .d x => DD K F' v x
  | .o xs => ∃ p vs, v = .ref p ∧ H p = none ∧ F' p = none ∧ H' p = some (.lst vs) ∧ DDs K F' vs xs
  | .t kvs => ∃ p, v = .ref p ∧ H p = none ∧ F' p = none ∧ DctA K F' H' p kvs
theorem Rp.grow (R : Rp K F H z) (hF : Same F F') (hs : Same F' H') (hH : Same H H') (hn : ∀ a, F' a ≠ none → F a ≠ none ∨ H a = none) : Rp K F' H' z := by
  refine R.step hF hs fun b hb => ?_
  obtain ⟨h1, vs, h2⟩ := R.own hb
  refine ⟨?_, by rw [h2]; exact hH _ _ h2⟩
  cases q : F' b with
  | none => rfl
  | some o =>
    rcases hn b (by rw [q]; simp) with h | h
    · exact absurd h1 h
    · rw [h2] at h; cases h
theorem Rp.made {r : Rs} (R : Rp K F H z) (m : Made K F H r v H') : ∃ F', Same F F' ∧ Rp K F' H' ((r.sl, some v) :: z) := by
  obtain ⟨F', h1, h2, h3, h4, h5⟩ := m
  have R' := R.grow h1 h2 h3 h4
  refine ⟨F', h1, ?_⟩
  cases r with
  | d x => exact R'.consD h5
  | o xs =>
    obtain ⟨p, vs, rfl, e1, e2, e3, e4⟩ := h5
    refine R'.consO e2 e3 e4 fun hm => ?_
    obtain ⟨_, vs', q⟩ := R.own hm
    rw [e1] at q
    cases q
  | t kvs =>
    obtain ⟨p, rfl, e1, e2, e3⟩ := h5
    refine R'.consT e2 e3 fun hm => ?_
    obtain ⟨_, vs', q⟩ := R.own hm
    rw [e1] at q
    cases q
theorem same_upd0 {o : HO} (h : F a = none) : Same F (upd F a o) := fun b u e => by
  rw [upd_ne (ne_of_none e h)]
  exact e
theorem Rp.freeze (R : Rp K F H ((.o xs, some (.ref a)) :: z)) : ∃ F', Same F F' ∧ Rp K F' H ((.d (.list xs), some (.ref a)) :: z) := by
  obtain ⟨h1, vs, h2, h3⟩ := R.head
  have hF : Same F (upd F a (.lst vs)) := same_upd0 h1
  refine ⟨upd F a (.lst vs), hF, Rp.consD (R.tail.step hF (fun b u e => ?_) fun b hb => ?_) (.lst upd_same (dps_mono hF _ _ h3))⟩
  · by_cases e1 : b = a
    · subst e1
      rw [upd_same] at e
      cases e
      exact h2
    · rw [upd_ne e1] at e
      exact R.sub _ _ e
  · have hne : b ≠ a := fun e => R.notin (e ▸ hb)
    obtain ⟨q1, _⟩ := R.tail.own hb
    exact ⟨by rw [upd_ne hne]; exact q1, rfl⟩
theorem Rp.write (R : Rp K F H ((.o xs, some (.ref a)) :: z)) (h : DDs K F vs' xs') : Rp K F (upd H a (.lst vs')) ((.o xs', some (.ref a)) :: z) := by
  obtain ⟨h1, vs, h2, h3⟩ := R.head
  refine Rp.consO (R.tail.step (fun _ _ e => e) (fun b u e => ?_) fun b hb => ?_) h1 upd_same h R.notin
  · rw [upd_ne (ne_of_none e h1)]
    exact R.sub _ _ e
  · have hne : b ≠ a := fun e => R.notin (e ▸ hb)
    exact ⟨(R.tail.own hb).1, upd_ne hne⟩
theorem Rp.freezeT {kvs : List (PyData × PyData)} (R : Rp K F H ((.t kvs, some (.ref a)) :: z)) : ∃ F', Same F F' ∧ Rp K F' H ((.d (.dict kvs), some (.ref a)) :: z) := by
  obtain ⟨h1, o, xs, h2, h3, h4⟩ := R.head
  have hF : Same F (upd F a (DctO a o xs)) := same_upd0 h1
  refine ⟨upd F a (DctO a o xs), hF, Rp.consD (R.tail.step hF (fun b u e => ?_) fun b hb => ?_) (.dct upd_same (fun x hx => kd_mono hF _ _ (h3 x hx)) h4)⟩
  · by_cases e1 : b = a
    · subst e1
      rw [upd_same] at e
      cases e
      exact h2
    · rw [upd_ne e1] at e
      exact R.sub _ _ e
  · have hne : b ≠ a := fun e => R.notinT (e ▸ hb)
    obtain ⟨q1, _⟩ := R.tail.own hb
    exact ⟨by rw [upd_ne hne]; exact q1, rfl⟩
theorem Rp.writeT {kvs : List (PyData × PyData)} {o' : Obj} {xs' : List Ent3} (R : Rp K F H ((.t kvs, some (.ref a)) :: z)) (h : ∀ x ∈ xs', KD K F (.ref x.2.1) x.1) : Rp K F (upd H a (DctO a o' xs')) ((.t (kvsOf xs'), some (.ref a)) :: z) := by
  obtain ⟨h1, o, xs, h2, h3, h4⟩ := R.head
  refine Rp.consT (R.tail.step (fun _ _ e => e) (fun b u e => ?_) fun b hb => ?_) h1 ⟨o', xs', upd_same, h, rfl⟩ R.notinT
  · rw [upd_ne (ne_of_none e h1)]
    exact R.sub _ _ e
  · have hne : b ≠ a := fun e => R.notinT (e ▸ hb)
    exact ⟨(R.tail.own hb).1, upd_ne hne⟩
theorem made_now (h : DD K F v x) (hs : Same F H) : Made K F H (.d x) v H := ⟨F, fun _ _ e => e, hs, fun _ _ e => e, fun a h => .inl h, h⟩
theorem made_lst {p : Addr} (hs : Same F H) (hp : H p = none) (h : DDs K F vs xs) : Made K F H (.o xs) (.ref p) (upd H p (.lst vs)) :=
  have hF : F p = none := by
    cases q : F p with
    | none => rfl
    | some o => rw [hs _ _ q] at hp; cases hp
  ⟨F, fun _ _ e => e, fun b u e => by rw [upd_ne (ne_of_none (hs _ _ e) hp)]; exact hs _ _ e, same_upd0 hp, fun a h => .inl h, p, vs, rfl, hp, hF, upd_same, h⟩
theorem made_dct {p : Addr} {o : Obj} (hs : Same F H) (hp : H p = none) : Made K F H (.t []) (.ref p) (upd H p (DctO p o [])) :=
  have hF : F p = none := by
    cases q : F p with
    | none => rfl
    | some o => rw [hs _ _ q] at hp; cases hp
  ⟨F, fun _ _ e => e, fun b u e => by rw [upd_ne (ne_of_none (hs _ _ e) hp)]; exact hs _ _ e, same_upd0 hp, fun a h => .inl h, p, rfl, hp, hF, o, [], upd_same, fun x hx => (List.not_mem_nil hx).elim, rfl⟩
theorem same_both {o : HO} {p : Addr} (hs : Same F H) : Same (upd F p o) (upd H p o) := fun b u e => by
  by_cases e1 : b = p
  · subst e1
    rw [upd_same] at e ⊢
    exact e
  · rw [upd_ne e1] at e ⊢
    exact hs _ _ e
theorem made_tup {p : Addr} (hs : Same F H) (hp : H p = none) (h : DDs K F vs xs) : Made K F H (.d (.tuple xs)) (.ref p) (upd H p (.tup vs)) := by
  have hF : F p = none := by
    cases q : F p with
    | none => rfl
    | some o => rw [hs _ _ q] at hp; cases hp
  refine ⟨upd F p (.tup vs), same_upd0 hF, same_both hs, same_upd0 hp, fun a h => ?_, .tup (.inl (.inl upd_same)) (dps_mono (same_upd0 hF) _ _ h)⟩
  by_cases e : a = p
  · exact .inr (by rw [e]; exact hp)
  · rw [upd_ne e] at h
    exact .inl h
/-- a value as it is read: a list may be one that still changes -/
def DV (K : PySem.W.Frag) (F H : Hp) (v : V) : PyData → Prop
  | .list xs => ∃ a vs, v = .ref a ∧ H a = some (.lst vs) ∧ DDs K F vs xs
  | .dict kvs => DD K F v (.dict kvs) ∨ ∃ a, v = .ref a ∧ DctA K F H a kvs
  | d => DD K F v d
theorem dv_of (hs : Same F H) : ∀ {d : PyData}, DD K F v d → DV K F H v d
  | .list xs, h => by
    cases h with
    | lst h1 h2 => exact ⟨_, _, rfl, hs _ _ h1, h2⟩
  | .none, h => h
  | .bool _, h => h
  | .int _, h => h
  | .str _, h => h
  | .tuple _, h => h
  | .dict _, h => .inl h
theorem dv_dct (hs : Same F H) {kvs : List (PyData × PyData)} (hd : dkd kvs = true) (h : DV K F H v (.dict kvs)) : ∃ a, v = .ref a ∧ DctA K F H a kvs := by
  rcases (show DD K F v (.dict kvs) ∨ ∃ a, v = .ref a ∧ DctA K F H a kvs from h) with h | h
  · cases h with
    | scr ns h1 h2 => subst h2; cases hd
    | ins c h1 h2 h3 h4 => subst h4; cases hd
    | lit k n h1 h2 => subst h2; cases k <;> cases hd
    | dct h1 h2 h3 => exact ⟨_, rfl, _, _, hs _ _ h1, h2, h3⟩
  · exact h
mutual
theorem dd_dp : ∀ (d : PyData) (v : V), DD K F v d → d.hasDict = false → Dp K F v d
  | .none, _, h, _ => by cases h; exact .non
  | .bool b, _, h, _ => by cases h; exact .bl b
  | .int i, _, h, _ => by cases h; exact .int i
  | .str s, _, h, _ => by cases h; exact .str s
  | .list xs, _, h, e => by
    cases h with
    | lst h1 h2 => exact .lst (.inl (.inl h1)) (dds_dp xs _ h2 (by simpa [PyData.hasDict] using e))
  | .tuple xs, _, h, e => by
    cases h with
    | tup h1 h2 => exact .tup h1 (dds_dp xs _ h2 (by simpa [PyData.hasDict] using e))
  | .dict _, _, _, e => by simp [PyData.hasDict] at e
theorem dds_dp : ∀ (ds : List PyData) (vs : List V), DDs K F vs ds → PyData.hasDictAll ds = false → DpAll K F vs ds
  | [], _, h, _ => by cases h; exact .nil
  | d :: ds, _, h, e => by
    cases h with
    | cons h1 h2 =>
      simp only [PyData.hasDictAll, Bool.or_eq_false_iff] at e
      exact .cons (dd_dp d _ h1 e.1) (dds_dp ds _ h2 e.2)
end
theorem DV.dp (hs : Same F H) : ∀ {d : PyData}, DV K F H v d → d.hasDict = false → Dp K H v d
  | .list xs, h, e => by
    obtain ⟨a, vs, rfl, h1, h2⟩ := h
    exact .lst (.inl (.inl h1)) (dds_dp _ _ (dps_mono hs _ _ h2) (by simpa [PyData.hasDict] using e))
  | .none, h, e => dd_dp _ _ (dp_mono hs _ _ h) e
  | .bool _, h, e => dd_dp _ _ (dp_mono hs _ _ h) e
  | .int _, h, e => dd_dp _ _ (dp_mono hs _ _ h) e
  | .str _, h, e => dd_dp _ _ (dp_mono hs _ _ h) e
  | .tuple _, h, e => dd_dp _ _ (dp_mono hs _ _ h) e
  | .dict _, h, e => by simp [PyData.hasDict] at e
def DVs (K : PySem.W.Frag) (F H : Hp) : List V → List PyData → Prop
  | [], [] => True
  | v :: vs, d :: ds => DV K F H v d ∧ DVs K F H vs ds
  | _, _ => False
end
end FX
set_option maxHeartbeats 2000000
namespace FX
variable [Wc]
open PySem PySem.Spec PyProof.Rows L2

/-- a primitive's reading by values -/
def rP (K : PySem.W.Frag) (f : PF) (vs : List V) (H : Hp) (Q : VK) : Prop := ∃ F ds, Same F H ∧ DVs K F H vs ds ∧ psem f ds fun r => ∀ z H', Made K F H r z H' → Q z H'
section
variable {X : Cx} {K : PySem.W.Frag} {F H : Hp} {v : V} {vs : List V} {ds : List PyData}
theorem dvs0 (h : DVs K F H [] ds) : ds = [] := by
  cases ds with
  | nil => rfl
  | cons _ _ => exact False.elim h
theorem dvs_cons (h : DVs K F H (v :: vs) ds) : ∃ d es, ds = d :: es ∧ DV K F H v d ∧ DVs K F H vs es := by
  cases ds with
  | nil => exact False.elim h
  | cons d es => exact ⟨d, es, rfl, h.1, h.2⟩
theorem dvs1 {x : V} (h : DVs K F H [x] ds) : ∃ p, ds = [p] ∧ DV K F H x p := by
  obtain ⟨p, es, rfl, h1, h2⟩ := dvs_cons h
  obtain rfl := dvs0 h2
  exact ⟨p, rfl, h1⟩
theorem dvs2 {x y : V} (h : DVs K F H [x, y] ds) : ∃ p q, ds = [p, q] ∧ DV K F H x p ∧ DV K F H y q := by
  obtain ⟨p, es, rfl, h1, h2⟩ := dvs_cons h
  obtain ⟨q, rfl, h3⟩ := dvs1 h2
  exact ⟨p, q, rfl, h1, h3⟩
theorem dvs3 {x y z : V} (h : DVs K F H [x, y, z] ds) : ∃ p q r, ds = [p, q, r] ∧ DV K F H x p ∧ DV K F H y q ∧ DV K F H z r := by
  obtain ⟨p, es, rfl, h1, h2⟩ := dvs_cons h
  obtain ⟨q, r, rfl, h3, h4⟩ := dvs2 h2
  exact ⟨p, q, r, rfl, h1, h3, h4⟩
theorem dv_int {i : Int} (h : DV K F H v (.int i)) : v = .int i := by
  cases (show DD K F v (.int i) from h)
  rfl
theorem dv_str {i : Str} (h : DV K F H v (.str i)) : v = .str i := by
  cases (show DD K F v (.str i) from h)
  rfl
theorem dv_bl {i : Bool} (h : DV K F H v (.bool i)) : v = .bl i := by
  cases (show DD K F v (.bool i) from h)
  rfl
theorem dv_non (h : DV K F H v .none) : v = .non := by
  cases (show DD K F v .none from h)
  rfl
theorem dv_tup {xs : List PyData} (h : DV K F H v (.tuple xs)) : ∃ a vs, v = .ref a ∧ SqT K F a vs ∧ DDs K F vs xs := by
  cases (show DD K F v (.tuple xs) from h) with
  | tup h1 h2 => exact ⟨_, _, rfl, h1, h2⟩
theorem mk_int {i : Int} (hs : Same F H) : Made K F H (.d (.int i)) (.int i) H := made_now (.int i) hs
theorem mk_bl {i : Bool} (hs : Same F H) : Made K F H (.d (.bool i)) (.bl i) H := made_now (.bl i) hs
theorem mk_str {i : Str} (hs : Same F H) : Made K F H (.d (.str i)) (.str i) H := made_now (.str i) hs

/-! ### binary operators -/
theorem b_add : OpR X (binaryOp .Add) (fun x y => rP X.K .add [x, y]) := by
  intro pins s σ H x y v u Q I rx ry h
  obtain ⟨F, ds, hs, hd, h⟩ := h
  obtain ⟨p, q, rfl, hp, hq⟩ := dvs2 hd
  cases p <;> cases q <;> try exact False.elim h
  case int.int i j =>
    obtain rfl := dv_int hp
    obtain rfl := dv_int hq
    exact op_add pins s σ H _ _ v u Q I rx ry ⟨i, j, rfl, rfl, h _ _ (mk_int hs)⟩
  case str.str i j =>
    obtain rfl := dv_str hp
    obtain rfl := dv_str hq
    exact op_add_str pins s σ H _ _ v u Q I rx ry ⟨i, j, rfl, rfl, h.1, h.2 _ _ (mk_str hs)⟩
  case list.list xs ys =>
    obtain ⟨a, vs, rfl, h1, h2⟩ := hp
    obtain ⟨b, ws, rfl, h3, h4⟩ := hq
    refine op_cat pins s σ H _ _ v u Q I rx ry ⟨a, b, vs, ws, rfl, rfl, h1, h3, ?_, fun p hp => h.2 _ _ (made_lst hs hp (dps_app h2 h4))⟩
    rw [dps_len h2, dps_len h4]
    exact h.1
  case tuple.tuple xs ys =>
    obtain ⟨a, vs, rfl, h1, h2⟩ := dv_tup hp
    obtain ⟨b, ws, rfl, h3, h4⟩ := dv_tup hq
    refine op_catT pins s σ H _ _ v u Q I rx ry ⟨a, b, vs, ws, rfl, rfl, sqT_mono hs h1, sqT_mono hs h3, fun e => ?_, ?_, fun e => ?_, fun _ p hp => h.2.2 _ _ (made_tup hs hp (dps_app h2 h4))⟩
    · subst e
      cases h2
      exact h.1 rfl
    · rw [dps_len h2, dps_len h4]
      exact h.2.1
    · subst e
      cases h4
      refine h.2.2 _ _ (made_now ?_ hs)
      rw [List.append_nil]
      exact .tup h1 h2
theorem b_sub : OpR X (binaryOp .Sub) (fun x y => rP X.K .sub [x, y]) := by
  intro pins s σ H x y v u Q I rx ry h
  obtain ⟨F, ds, hs, hd, h⟩ := h
  obtain ⟨p, q, rfl, hp, hq⟩ := dvs2 hd
  cases p <;> cases q <;> try exact False.elim h
  case int.int i j =>
    obtain rfl := dv_int hp
    obtain rfl := dv_int hq
    exact op_sub pins s σ H _ _ v u Q I rx ry ⟨i, j, rfl, rfl, h _ _ (mk_int hs)⟩
theorem b_mul : OpR X (binaryOp .Mult) (fun x y => rP X.K .mul [x, y]) := by
  intro pins s σ H x y v u Q I rx ry h
  obtain ⟨F, ds, hs, hd, h⟩ := h
  obtain ⟨p, q, rfl, hp, hq⟩ := dvs2 hd
  cases p <;> cases q <;> try exact False.elim h
  case int.int i j =>
    obtain rfl := dv_int hp
    obtain rfl := dv_int hq
    obtain ⟨t, rfl⟩ := rx
    obtain ⟨t', rfl⟩ := ry
    exact mul_int ⟨.int _, H, I.tok _, ⟨_, rfl⟩, h.2 _ _ (mk_int hs)⟩ h.1
  case list.int xs j =>
    obtain ⟨a, vs, rfl, h1, h2⟩ := hp
    obtain rfl := dv_int hq
    obtain ⟨g1, g2, g3, g4⟩ := h
    exact op_rep pins s σ H _ _ v u Q I rx ry ⟨a, j, vs, rfl, rfl, h1, g1, g2, by rw [dps_len h2]; exact g3, fun p hp => g4 _ _ (made_lst hs hp (dps_rep h2 _))⟩
theorem b_fdiv : OpR X (binaryOp .FloorDiv) (fun x y => rP X.K .fdiv [x, y]) := by
  intro pins s σ H x y v u Q I rx ry h
  obtain ⟨F, ds, hs, hd, h⟩ := h
  obtain ⟨p, q, rfl, hp, hq⟩ := dvs2 hd
  cases p <;> cases q <;> try exact False.elim h
  case int.int i j =>
    obtain rfl := dv_int hp
    obtain rfl := dv_int hq
    exact op_fdivW pins s σ H _ _ v u Q I rx ry ⟨i, j, rfl, rfl, ⟨h.1, h.2.1⟩, h.2.2 _ _ (mk_int hs)⟩
theorem b_mod : OpR X (binaryOp .Mod) (fun x y => rP X.K .mod [x, y]) := by
  intro pins s σ H x y v u Q I rx ry h
  obtain ⟨F, ds, hs, hd, h⟩ := h
  obtain ⟨p, q, rfl, hp, hq⟩ := dvs2 hd
  cases p <;> cases q <;> try exact False.elim h
  case int.int i j =>
    obtain rfl := dv_int hp
    obtain rfl := dv_int hq
    exact op_mod pins s σ H _ _ v u Q I rx ry ⟨i, j, rfl, rfl, h.1, h.2 _ _ (mk_int hs)⟩
theorem b_pow : OpR X (binaryOp .Pow) (fun x y => rP X.K .pow [x, y]) := by
  intro pins s σ H x y v u Q I rx ry h
  obtain ⟨F, ds, hs, hd, h⟩ := h
  obtain ⟨p, q, rfl, hp, hq⟩ := dvs2 hd
  cases p <;> cases q <;> try exact False.elim h
  case int.int i j =>
    obtain rfl := dv_int hp
    obtain rfl := dv_int hq
    obtain ⟨t, rfl⟩ := rx
    obtain ⟨t', rfl⟩ := ry
    exact pow_int h.1 h.2.1 ⟨.int _, H, I.tok _, ⟨_, rfl⟩, h.2.2 _ _ (mk_int hs)⟩
theorem b_shl : OpR X (binaryOp .LShift) (fun x y => rP X.K .shl [x, y]) := by
  intro pins s σ H x y v u Q I rx ry h
  obtain ⟨F, ds, hs, hd, h⟩ := h
  obtain ⟨p, q, rfl, hp, hq⟩ := dvs2 hd
  cases p <;> cases q <;> try exact False.elim h
  case int.int i j =>
    obtain rfl := dv_int hp
    obtain rfl := dv_int hq
    exact op_shlW pins s σ H _ _ v u Q I rx ry ⟨i, j, rfl, rfl, ⟨h.1, h.2.1⟩, h.2.2 _ _ (mk_int hs)⟩
theorem b_shr : OpR X (binaryOp .RShift) (fun x y => rP X.K .shr [x, y]) := by
  intro pins s σ H x y v u Q I rx ry h
  obtain ⟨F, ds, hs, hd, h⟩ := h
  obtain ⟨p, q, rfl, hp, hq⟩ := dvs2 hd
  cases p <;> cases q <;> try exact False.elim h
  case int.int i j =>
    obtain rfl := dv_int hp
    obtain rfl := dv_int hq
    exact op_shr pins s σ H _ _ v u Q I rx ry ⟨i, j, rfl, rfl, h.1, h.2 _ _ (mk_int hs)⟩
theorem b_band : OpR X (binaryOp .BitAnd) (fun x y => rP X.K .band [x, y]) := by
  intro pins s σ H x y v u Q I rx ry h
  obtain ⟨F, ds, hs, hd, h⟩ := h
  obtain ⟨p, q, rfl, hp, hq⟩ := dvs2 hd
  cases p <;> cases q <;> try exact False.elim h
  case int.int i j =>
    obtain rfl := dv_int hp
    obtain rfl := dv_int hq
    exact op_and pins s σ H _ _ v u Q I rx ry ⟨i, j, rfl, rfl, h _ _ (mk_int hs)⟩
theorem u_neg : UnR X (unaryOp .USub) (fun x => rP X.K .neg [x]) := by
  intro pins s σ H x v Q I rx h
  obtain ⟨F, ds, hs, hd, h⟩ := h
  obtain ⟨p, rfl, hp⟩ := dvs1 hd
  cases p <;> try exact False.elim h
  case int i =>
    obtain rfl := dv_int hp
    exact un_neg pins s σ H _ v Q I rx ⟨i, rfl, h _ _ (mk_int hs)⟩

/-! ### comparisons -/
theorem shaped_noDict {p : PyData} (h : SeqAt.shaped p = true) : p.hasDict = false := by
  unfold SeqAt.shaped at h
  rw [Bool.and_eq_true] at h
  exact PyData.hasDict_of_canLay p h.1
theorem shp_of {p q : PyData} (h : shp p q = true) : (∃ a b, p = .str a ∧ q = .str b) ∨ SeqAt.shaped p = true := by
  unfold shp at h
  split at h
  · exact .inl ⟨_, _, rfl, rfl⟩
  · exact .inr h
theorem c_eq (hu : X.A.units + 64 < cLine) : OpR X (compareOp .Eq) (fun x y => rP X.K .eq [x, y]) := by
  intro pins s σ H x y v u Q I rx ry h
  obtain ⟨F, ds, hs, hd, h⟩ := h
  obtain ⟨p, q, rfl, hp, hq⟩ := dvs2 hd
  obtain ⟨h1, h2, h3⟩ := h
  rcases shp_of h1 with ⟨a, b, rfl, rfl⟩ | h1
  · obtain rfl := dv_str hp
    obtain rfl := dv_str hq
    exact op_eq pins s σ H _ _ v u Q I rx ry ⟨rfl, by rw [dec_str]; exact h3 _ _ (mk_bl hs)⟩
  · rcases shp_of h2 with ⟨a, b, rfl, rfl⟩ | h2
    · obtain rfl := dv_str hp
      obtain rfl := dv_str hq
      exact op_eq pins s σ H _ _ v u Q I rx ry ⟨rfl, by rw [dec_str]; exact h3 _ _ (mk_bl hs)⟩
    · exact op_eqD hu pins s σ H _ _ v u Q I rx ry ⟨p, q, hp.dp hs (shaped_noDict h1), hq.dp hs (shaped_noDict h2), h1, h2, h3 _ _ (mk_bl hs)⟩
theorem c_ne (hu : X.A.units + 64 < cLine) : OpR X (compareOp .NotEq) (fun x y => rP X.K .ne [x, y]) := by
  intro pins s σ H x y v u Q I rx ry h
  obtain ⟨F, ds, hs, hd, h⟩ := h
  obtain ⟨p, q, rfl, hp, hq⟩ := dvs2 hd
  obtain ⟨h1, h2, h3⟩ := h
  have dne : ∀ a b : Str, (!decide (V.str a = V.str b)) = !(a == b) := fun a b => by rw [dec_str]
  rcases shp_of h1 with ⟨a, b, rfl, rfl⟩ | h1
  · obtain rfl := dv_str hp
    obtain rfl := dv_str hq
    exact op_ne pins s σ H _ _ v u Q I rx ry ⟨rfl, by first | (rw [dne]; exact h3 _ _ (mk_bl hs)) | (simp; exact h3 _ _ (mk_bl hs))⟩
  · rcases shp_of h2 with ⟨a, b, rfl, rfl⟩ | h2
    · obtain rfl := dv_str hp
      obtain rfl := dv_str hq
      exact op_ne pins s σ H _ _ v u Q I rx ry ⟨rfl, by first | (rw [dne]; exact h3 _ _ (mk_bl hs)) | (simp; exact h3 _ _ (mk_bl hs))⟩
    · exact op_neD hu pins s σ H _ _ v u Q I rx ry ⟨p, q, hp.dp hs (shaped_noDict h1), hq.dp hs (shaped_noDict h2), h1, h2, h3 _ _ (mk_bl hs)⟩
theorem rel_ints {f : Int → Int → Bool} {ds : List PyData} {k : Rs → Prop} (h : rel f ds k) : ∃ i j, ds = [.int i, .int j] ∧ k (.d (.bool (f i j))) := by
  unfold rel at h
  split at h
  · exact ⟨_, _, rfl, h⟩
  · exact h.elim
theorem c_lt : OpR X (compareOp .Lt) (fun x y => rP X.K .lt [x, y]) := by
  intro pins s σ H x y v u Q I rx ry h
  obtain ⟨F, ds, hs, hd, h⟩ := h
  obtain ⟨p, q, rfl, hp, hq⟩ := dvs2 hd
  cases p <;> cases q <;> try exact False.elim h
  case int.int i j =>
    obtain rfl := dv_int hp
    obtain rfl := dv_int hq
    exact op_lt pins s σ H _ _ v u Q I rx ry ⟨i, j, rfl, rfl, h _ _ (mk_bl hs)⟩
  case str.str i j =>
    obtain rfl := dv_str hp
    obtain rfl := dv_str hq
    exact op_lt_str pins s σ H _ _ v u Q I rx ry ⟨i, j, rfl, rfl, h _ _ (mk_bl hs)⟩
theorem c_le : OpR X (compareOp .LtE) (fun x y => rP X.K .le [x, y]) := by
  intro pins s σ H x y v u Q I rx ry h
  obtain ⟨F, ds, hs, hd, h⟩ := h
  obtain ⟨p, q, rfl, hp, hq⟩ := dvs2 hd
  cases p <;> cases q <;> try exact False.elim h
  case int.int i j =>
    obtain rfl := dv_int hp
    obtain rfl := dv_int hq
    exact op_le pins s σ H _ _ v u Q I rx ry ⟨i, j, rfl, rfl, h _ _ (mk_bl hs)⟩
theorem c_gt : OpR X (compareOp .Gt) (fun x y => rP X.K .gt [x, y]) := by
  intro pins s σ H x y v u Q I rx ry h
  obtain ⟨F, ds, hs, hd, h⟩ := h
  obtain ⟨p, q, rfl, hp, hq⟩ := dvs2 hd
  cases p <;> cases q <;> try exact False.elim h
  case int.int i j =>
    obtain rfl := dv_int hp
    obtain rfl := dv_int hq
    exact op_gt pins s σ H _ _ v u Q I rx ry ⟨i, j, rfl, rfl, h _ _ (mk_bl hs)⟩
theorem c_ge : OpR X (compareOp .GtE) (fun x y => rP X.K .ge [x, y]) := by
  intro pins s σ H x y v u Q I rx ry h
  obtain ⟨F, ds, hs, hd, h⟩ := h
  obtain ⟨p, q, rfl, hp, hq⟩ := dvs2 hd
  cases p <;> cases q <;> try exact False.elim h
  case int.int i j =>
    obtain rfl := dv_int hp
    obtain rfl := dv_int hq
    exact op_ge pins s σ H _ _ v u Q I rx ry ⟨i, j, rfl, rfl, h _ _ (mk_bl hs)⟩
theorem c_isB : OpR X (compareOp .Is) (fun x y => rP X.K .isB [x, y]) := by
  intro pins s σ H x y v u Q I rx ry h
  obtain ⟨F, ds, hs, hd, h⟩ := h
  obtain ⟨p, q, rfl, hp, hq⟩ := dvs2 hd
  cases p <;> cases q <;> try exact False.elim h
  case bool.bool a b =>
    obtain rfl := dv_bl hp
    obtain rfl := dv_bl hq
    have e : decide (a = b) = (a == b) := by cases a <;> cases b <;> rfl
    exact op_is_bl pins s σ H _ _ v u Q I rx ry ⟨a, b, rfl, rfl, by rw [e]; exact h _ _ (mk_bl hs)⟩
theorem c_notB : OpR X (compareOp .IsNot) (fun x y => rP X.K .notB [x, y]) := by
  intro pins s σ H x y v u Q I rx ry h
  obtain ⟨F, ds, hs, hd, h⟩ := h
  obtain ⟨p, q, rfl, hp, hq⟩ := dvs2 hd
  cases p <;> cases q <;> try exact False.elim h
  case bool.bool a b =>
    obtain rfl := dv_bl hp
    obtain rfl := dv_bl hq
    have e : decide (a = b) = (a == b) := by cases a <;> cases b <;> rfl
    exact op_isnot_bl pins s σ H _ _ v u Q I rx ry ⟨a, b, rfl, rfl, by rw [e]; exact h _ _ (mk_bl hs)⟩
theorem c_isN : OpR X (compareOp .Is) (fun x y H Q => y = .non ∧ rP X.K .isN [x] H Q) := by
  intro pins s σ H x y v u Q I rx ry h
  obtain ⟨e, F, ds, hs, hd, h⟩ := h
  obtain ⟨p, rfl, hp⟩ := dvs1 hd
  refine op_isN pins s σ H _ _ v u Q I rx ry ⟨e, ?_⟩
  cases p with
  | none => obtain rfl := dv_non hp; exact h _ _ (mk_bl hs)
  | bool b => obtain rfl := dv_bl hp; exact h _ _ (mk_bl hs)
  | int b => obtain rfl := dv_int hp; exact h _ _ (mk_bl hs)
  | str b => obtain rfl := dv_str hp; exact h _ _ (mk_bl hs)
  | list b => obtain ⟨a, vs, rfl, _⟩ := hp; exact h _ _ (mk_bl hs)
  | tuple b => obtain ⟨a, vs, rfl, _⟩ := dv_tup hp; exact h _ _ (mk_bl hs)
  | dict b =>
    rcases (show DD X.K F x (.dict b) ∨ ∃ a, x = .ref a ∧ DctA X.K F H a b from hp) with hp | ⟨a, rfl, _⟩
    · cases hp <;> exact h _ _ (mk_bl hs)
    · exact h _ _ (mk_bl hs)
theorem c_notN : OpR X (compareOp .IsNot) (fun x y H Q => y = .non ∧ rP X.K .notN [x] H Q) := by
  intro pins s σ H x y v u Q I rx ry h
  obtain ⟨e, F, ds, hs, hd, h⟩ := h
  obtain ⟨p, rfl, hp⟩ := dvs1 hd
  refine op_notN pins s σ H _ _ v u Q I rx ry ⟨e, ?_⟩
  cases p with
  | none => obtain rfl := dv_non hp; exact h _ _ (mk_bl hs)
  | bool b => obtain rfl := dv_bl hp; exact h _ _ (mk_bl hs)
  | int b => obtain rfl := dv_int hp; exact h _ _ (mk_bl hs)
  | str b => obtain rfl := dv_str hp; exact h _ _ (mk_bl hs)
  | list b => obtain ⟨a, vs, rfl, _⟩ := hp; exact h _ _ (mk_bl hs)
  | tuple b => obtain ⟨a, vs, rfl, _⟩ := dv_tup hp; exact h _ _ (mk_bl hs)
  | dict b =>
    rcases (show DD X.K F x (.dict b) ∨ ∃ a, x = .ref a ∧ DctA X.K F H a b from hp) with hp | ⟨a, rfl, _⟩
    · cases hp <;> exact h _ _ (mk_bl hs)
    · exact h _ _ (mk_bl hs)
end
end FX
set_option maxHeartbeats 2000000
namespace FX
variable [Wc]
open PySem PySem.Spec PyProof.Rows L2
section
variable {X : Cx} {K : PySem.W.Frag} {F H : Hp} {v : V} {vs : List V} {ds : List PyData}
/-! ### in -/
theorem dd_sc {d : PyData} (h : DD K F v d) (e : scalar d = true) : v = scV d ∧ flatV v = true := by
  cases h with
  | non => exact ⟨rfl, rfl⟩
  | bl b => exact ⟨rfl, rfl⟩
  | int i => exact ⟨rfl, rfl⟩
  | str s => exact ⟨rfl, rfl⟩
  | lst _ _ => cases e
  | tup _ _ => cases e
  | scr _ _ _ => cases e
  | ins _ _ _ _ _ => cases e
  | lit _ _ _ _ => cases e
  | dct _ _ _ => cases e
theorem sc_dd : ∀ {d : PyData}, scalar d = true → DD K F (scV d) d
  | .none, _ => .non
  | .bool b, _ => .bl b
  | .int i, _ => .int i
  | .str s, _ => .str s
  | .list _, h => by cases h
  | .tuple _, h => by cases h
  | .dict _, h => by cases h
theorem dds_sc : ∀ {ds : List PyData} {vs : List V}, DDs K F vs ds → ds.all scalar = true → vs = ds.map scV ∧ vs.all flatV = true
  | [], _, .nil, _ => ⟨rfl, rfl⟩
  | d :: ds, _, .cons h1 h2, e => by
    rw [List.all_cons, Bool.and_eq_true] at e
    obtain ⟨a1, a2⟩ := dd_sc h1 e.1
    obtain ⟨b1, b2⟩ := dds_sc h2 e.2
    refine ⟨by rw [List.map_cons, ← a1, ← b1], ?_⟩
    rw [List.all_cons, a2, b2]
    rfl
theorem eqV_eqv : ∀ {y x : PyData}, scalar y = true → scalar x = true → eqV (scV y) (scV x) = PyData.eqv y x := by
  intro y x hy hx
  cases y <;> cases x <;> first
    | rfl
    | (simp [scV, eqV, PyData.eqv]; done)
    | (revert hx hy; simp [scalar]; done)
theorem inV_inD {x : PyData} (hx : scalar x = true) : ∀ {ys : List PyData}, ys.all scalar = true → inV (scV x) (ys.map scV) = inD x ys
  | [], _ => rfl
  | y :: ys, e => by
    rw [List.all_cons, Bool.and_eq_true] at e
    have h := inV_inD hx e.2
    unfold inV inD at h ⊢
    rw [List.map_cons, List.any_cons, List.any_cons, h, eqV_eqv e.1 hx]
theorem c_in (hu : X.A.units + 65 < cLine) : OpR X (compareOp .In) (fun x y => rP X.K .inn [x, y]) := by
  intro pins s σ H x y v u Q I rx ry h
  obtain ⟨F, ds, hs, hd, h⟩ := h
  obtain ⟨p, q, rfl, hp, hq⟩ := dvs2 hd
  replace h : inAny false p q (fun r => ∀ z H', Made X.K F H r z H' → Q z H') := h
  cases q with
  | list ys =>
    replace h : inLst false p ys (fun r => ∀ z H', Made X.K F H r z H' → Q z H') := by cases p <;> exact h
    obtain ⟨h1, h2, h3⟩ := h
    refine op_inD hu pins s σ H _ _ v u Q I rx ry ⟨p, ys, hp.dp hs (shaped_noDict h1), hq.dp hs (shaped_noDict h2), h1, h2, ?_⟩
    have := h3 _ _ (mk_bl hs)
    rw [Bool.false_xor] at this
    exact this
  | tuple ys =>
    replace h : inSeq false p ys (fun r => ∀ z H', Made X.K F H r z H' → Q z H') := by cases p <;> exact h
    obtain ⟨h1, h2, h3⟩ := h
    obtain ⟨a, ws, rfl, g1, g2⟩ := dv_tup hq
    obtain ⟨e1, e2⟩ := dds_sc g2 h2
    have hx : DD X.K F x p := by cases p <;> first | exact hp | cases h1
    obtain ⟨e3, e4⟩ := dd_sc hx h1
    refine op_in_seq pins s σ H _ _ v u Q I rx ry ⟨a, ws, rfl, .inr (sqT_mono hs g1), e4, e2, ?_⟩
    have := h3 _ _ (mk_bl hs)
    rw [Bool.false_xor] at this
    subst e1 e3
    show Q (.bl (inV (scV p) (ys.map scV))) H
    rw [inV_inD h1 h2]
    exact this
  | str b =>
    cases p <;> try exact False.elim h
    case str a =>
      obtain rfl := dv_str hp
      obtain rfl := dv_str hq
      rcases h with ⟨c, rfl, h⟩ | h
      · refine op_in_sign pins s σ H _ _ v u Q I rx ry ⟨c, b, rfl, rfl, ?_⟩
        have := h _ _ (mk_bl hs)
        rw [Bool.false_xor] at this
        exact this
      · refine op_in_str pins s σ H _ _ v u Q I rx ry ⟨a, b, rfl, rfl, ?_⟩
        have := h _ _ (mk_bl hs)
        rw [Bool.false_xor] at this
        exact this
  | none => cases p <;> exact False.elim h
  | bool _ => cases p <;> exact False.elim h
  | int _ => cases p <;> exact False.elim h
  | dict kvs =>
    replace h : dkd kvs = true ∧ keyOk p = true ∧ (∀ z H', Made X.K F H (.d (.bool (xor false (dgetK kvs p).isSome))) z H' → Q z H') := by cases p <;> exact h
    obtain ⟨h1, h2, h3⟩ := h
    obtain ⟨a, rfl, o, xs, g1, g2, rfl⟩ := dv_dct hs h1 hq
    obtain ⟨k1, _, ds, rfl⟩ := keyOk_kd h2
    have hx : KD X.K F x (.tuple ds) := dd_kd _ _ hp k1
    have hx' := hx
    cases hx' with
    | tup _ _ =>
      cases rx
      cases ry
      exact n_in hu I g1 (fun y hy => kd_mono hs _ _ (g2 y hy)) (kd_mono hs _ _ hx) h2 fun s' I' => ⟨.bl _, H, I', rfl, by
        have := h3 _ _ (mk_bl hs)
        rw [Bool.false_xor] at this
        exact this⟩
theorem c_nin (hu : X.A.units + 65 < cLine) : OpR X (compareOp .NotIn) (fun x y => rP X.K .nin [x, y]) := by
  intro pins s σ H x y v u Q I rx ry h
  obtain ⟨F, ds, hs, hd, h⟩ := h
  obtain ⟨p, q, rfl, hp, hq⟩ := dvs2 hd
  replace h : inAny true p q (fun r => ∀ z H', Made X.K F H r z H' → Q z H') := h
  cases q with
  | list ys =>
    replace h : inLst true p ys (fun r => ∀ z H', Made X.K F H r z H' → Q z H') := by cases p <;> exact h
    obtain ⟨h1, h2, h3⟩ := h
    refine op_notInD hu pins s σ H _ _ v u Q I rx ry ⟨p, ys, hp.dp hs (shaped_noDict h1), hq.dp hs (shaped_noDict h2), h1, h2, ?_⟩
    have := h3 _ _ (mk_bl hs)
    rw [Bool.true_xor] at this
    exact this
  | tuple ys =>
    replace h : inSeq true p ys (fun r => ∀ z H', Made X.K F H r z H' → Q z H') := by cases p <;> exact h
    obtain ⟨h1, h2, h3⟩ := h
    obtain ⟨a, ws, rfl, g1, g2⟩ := dv_tup hq
    obtain ⟨e1, e2⟩ := dds_sc g2 h2
    have hx : DD X.K F x p := by cases p <;> first | exact hp | cases h1
    obtain ⟨e3, e4⟩ := dd_sc hx h1
    refine op_notIn_seq pins s σ H _ _ v u Q I rx ry ⟨a, ws, rfl, .inr (sqT_mono hs g1), e4, e2, ?_⟩
    have := h3 _ _ (mk_bl hs)
    rw [Bool.true_xor] at this
    subst e1 e3
    show Q (.bl (!inV (scV p) (ys.map scV))) H
    rw [inV_inD h1 h2]
    exact this
  | str b =>
    cases p <;> try exact False.elim h
    case str a =>
      obtain rfl := dv_str hp
      obtain rfl := dv_str hq
      rcases h with ⟨c, rfl, h⟩ | h
      · refine op_notIn_sign pins s σ H _ _ v u Q I rx ry ⟨c, b, rfl, rfl, ?_⟩
        have := h _ _ (mk_bl hs)
        rw [Bool.true_xor] at this
        exact this
      · refine op_notin_str pins s σ H _ _ v u Q I rx ry ⟨a, b, rfl, rfl, ?_⟩
        have := h _ _ (mk_bl hs)
        rw [Bool.true_xor] at this
        exact this
  | none => cases p <;> exact False.elim h
  | bool _ => cases p <;> exact False.elim h
  | int _ => cases p <;> exact False.elim h
  | dict kvs =>
    replace h : dkd kvs = true ∧ keyOk p = true ∧ (∀ z H', Made X.K F H (.d (.bool (xor true (dgetK kvs p).isSome))) z H' → Q z H') := by cases p <;> exact h
    obtain ⟨h1, h2, h3⟩ := h
    obtain ⟨a, rfl, o, xs, g1, g2, rfl⟩ := dv_dct hs h1 hq
    obtain ⟨k1, _, ds, rfl⟩ := keyOk_kd h2
    have hx : KD X.K F x (.tuple ds) := dd_kd _ _ hp k1
    have hx' := hx
    cases hx' with
    | tup _ _ =>
      cases rx
      cases ry
      exact n_notIn hu I g1 (fun y hy => kd_mono hs _ _ (g2 y hy)) (kd_mono hs _ _ hx) h2 fun s' I' => ⟨.bl _, H, I', rfl, by
        have := h3 _ _ (mk_bl hs)
        rw [Bool.true_xor] at this
        exact this⟩

/-! ### subscripts -/
theorem scr_no {ns : List Int} {ks : List PyData} {w : PyData} (h : dgetK (scrK ns) (.tuple ks) = some w) : False := by
  unfold dgetK at h
  obtain ⟨p, hp, _⟩ := Option.map_eq_some_iff.mp h
  have h1 := List.find?_some hp
  have h2 := List.mem_of_find?_eq_some hp
  unfold scrK at h2
  rcases List.mem_cons.mp h2 with rfl | h2
  · simp [nk] at h1
  · obtain ⟨n, _, rfl⟩ := List.mem_map.mp h2
    simp [nk] at h1
theorem atI_dds {K : PySem.W.Frag} {F : Hp} {vs : List V} {ds : List PyData} {i : Int} {d : PyData} (h : DDs K F vs ds) (e : atI ds i = some d) : ∃ v, atI vs i = some v ∧ DD K F v d := by
  unfold atI at e ⊢
  rw [dps_len h]
  cases q : ixN ds.length i with
  | none => rw [q] at e; cases e
  | some j =>
    rw [q] at e
    exact dps_get h e
theorem dget_sc {K : PySem.W.Frag} {F : Hp} {kvs : List (PyData × PyData)} {k v : PyData} (h : dgetK kvs k = some v) (ho : ∀ p ∈ kvs, scalar p.2 = true) : DD K F (scV v) v := by
  unfold dgetK at h
  obtain ⟨p, hp, rfl⟩ := Option.map_eq_some_iff.mp h
  exact sc_dd (ho p (List.mem_of_find?_eq_some hp))
theorem i_ix (hu : X.A.units + 65 < cLine) : IxR X (fun x y => rP X.K .index [x, y]) := by
  intro value slice pins s σ H x y v u Q I rx ry h hb
  obtain ⟨F, ds, hs, hd, h⟩ := h
  obtain ⟨p, q, rfl, hp, hq⟩ := dvs2 hd
  have hdict : ∀ kvs, p = .dict kvs → wpAny (model X.prog X.w) X.A (subscriptTail value slice v u) (EP X pins σ Q) X.xe s := by
    rintro kvs rfl
    have fromT : (∃ a, x = .ref a ∧ DctA X.K F H a kvs) → wpAny (model X.prog X.w) X.A (subscriptTail value slice v u) (EP X pins σ Q) X.xe s := by
      rintro ⟨a, rfl, o, xs, g1, g2, rfl⟩
      have hbad : ∀ z, q = z → (∀ ks, z ≠ .tuple ks) → psem .index [.dict (kvsOf xs), z] (fun r => ∀ z H', Made X.K F H r z H' → Q z H') → (∃ ns : List Int, ∃ i, kvsOf xs = scrK ns ∧ z = .int i) := by
        intro z _ hz hp
        cases xs with
        | nil => cases z <;> first | exact False.elim hp | exact (hz _ rfl).elim
        | cons y ys =>
          obtain ⟨k, b, w⟩ := y
          have hE := (dct_rd I g1 (fun y hy => kd_mono hs _ _ (g2 y hy))).2.1
          obtain ⟨ks, rfl⟩ := (keyOk_kd (hE.2.2.2.2.2 (k, b, w) List.mem_cons_self).1).2.2
          cases z <;> first | exact False.elim hp | exact (hz _ rfl).elim
      by_cases hq2 : ∃ ks, q = .tuple ks
      · obtain ⟨ks, rfl⟩ := hq2
        obtain ⟨h2, w, h3, h4⟩ := (show keyOk (.tuple ks) = true ∧ ∃ w, dgetK (kvsOf xs) (.tuple ks) = some w ∧ (∀ z H', Made X.K F H (.d w) z H' → Q z H') from h)
        obtain ⟨k1, _, _⟩ := keyOk_kd h2
        have hy : KD X.K F y (.tuple ks) := dd_kd _ _ hq k1
        have hy' := hy
        cases hy' with
        | tup _ _ =>
          cases rx
          cases ry
          obtain ⟨_, hE, ys, hpd, dd⟩ := dct_rd I g1 (fun y hy => kd_mono hs _ _ (g2 y hy))
          refine tail_any dd.typeIs PySem.F.slot_dict_getitem.lookup ?_ hb
          refine n_get hu I g1 (fun y hy => kd_mono hs _ _ (g2 y hy)) (kd_mono hs _ _ hy) h2 h3 fun u' s' I' r' => ⟨scV w, H, I', r', h4 _ _ (made_now (dget_sc h3 fun p hp => ?_) hs)⟩
          obtain ⟨e, he, rfl⟩ := List.mem_map.mp hp
          exact (hE.2.2.2.2.2 e he).2
      · obtain ⟨ns, i, e1, rfl⟩ := hbad q rfl (fun ks e => hq2 ⟨ks, e⟩) h
        have hE := (dct_rd I g1 (fun y hy => kd_mono hs _ _ (g2 y hy))).2.1
        cases xs with
        | nil => cases e1
        | cons y ys =>
          obtain ⟨k, b, w⟩ := y
          obtain ⟨ks, rfl⟩ := (keyOk_kd (hE.2.2.2.2.2 (k, b, w) List.mem_cons_self).1).2.2
          cases e1
    rcases (show DD X.K F x (.dict kvs) ∨ ∃ a, x = .ref a ∧ DctA X.K F H a kvs from hp) with hp | hp
    case inr => exact fromT hp
    cases hp with
    | dct k1 k2 k3 => exact fromT ⟨_, rfl, _, _, hs _ _ k1, k2, k3⟩
    | ins c g1 g2 g3 g4 =>
      subst g4
      cases q <;> first | exact False.elim h | (obtain ⟨_, w, h3, _⟩ := h; simp [dgetK, nk] at h3; done)
    | lit k n g1 g2 =>
      subst g2
      cases k <;> cases q <;> first | exact False.elim h | (obtain ⟨_, w, h3, _⟩ := h; simp [dgetK, nk, kDk] at h3; done)
    | scr ns h1 h2 =>
      rename_i a
      subst h2
      cases q <;> try first | exact False.elim h | (obtain ⟨_, w, h3, _⟩ := h; exact (scr_no h3).elim)
      case int i =>
        obtain rfl := dv_int hq
        obtain ⟨d, e, k⟩ := h
        have e' : atI (ns.map PyData.int) i = some d := by
          rw [← e]
          congr 1
          rw [List.map_map]
          rfl
        obtain ⟨w, e1, e2⟩ := atI_dds (K := X.K) (F := F) (dps_ints ns) e'
        exact ix_list value slice pins s σ H _ _ v u Q I rx ry ⟨a, ns.map V.int, i, w, rfl, rfl, hs.seq h1, e1, k _ _ (made_now e2 hs)⟩ hb
  cases p <;> try exact hdict _ rfl
  all_goals cases q <;> try exact False.elim h
  case list.int xs i =>
    obtain ⟨a, vs, rfl, h1, h2⟩ := hp
    obtain rfl := dv_int hq
    obtain ⟨d, e, k⟩ := h
    obtain ⟨w, e1, e2⟩ := atI_dds h2 e
    exact ix_list value slice pins s σ H _ _ v u Q I rx ry ⟨a, vs, i, w, rfl, rfl, .inl (.inl h1), e1, k _ _ (made_now e2 hs)⟩ hb
  case tuple.int xs i =>
    obtain ⟨a, vs, rfl, h1, h2⟩ := dv_tup hp
    obtain rfl := dv_int hq
    obtain ⟨d, e, k⟩ := h
    obtain ⟨w, e1, e2⟩ := atI_dds h2 e
    exact ix_tup value slice pins s σ H _ _ v u Q I rx ry ⟨a, vs, i, w, rfl, rfl, sqT_mono hs h1, e1, k _ _ (made_now e2 hs)⟩ hb
  case str.int z i =>
    obtain rfl := dv_str hp
    obtain rfl := dv_int hq
    obtain ⟨hz, c, e, k⟩ := h
    exact ix_str value slice pins s σ H _ _ v u Q I rx ry ⟨z, i, c, rfl, rfl, hz, e, k _ _ (mk_str hs)⟩ hb
theorem cut_dds {xs : List PyData} (h : DDs K F vs xs) (lo hi : Option Int) : DDs K F (cutV vs lo hi) (cutD xs lo hi) := by
  unfold cutV cutD
  rw [dps_len h]
  exact dps_take _ (dps_drop _ h)
theorem s_slice : SlR X (fun x lo hi H Q => ∃ F p, Same F H ∧ DV X.K F H x p ∧ sliceD p lo hi fun r => ∀ z H', Made X.K F H r z H' → Q z H') := by
  intro pins s σ H x v vl vu lo hi sl Q I rx hsl pl pu h
  obtain ⟨F, p, hs, hp, h⟩ := h
  cases p <;> try exact False.elim h
  case list xs =>
    obtain ⟨a, vs, rfl, h1, h2⟩ := hp
    exact sl_list pins s σ H _ v vl vu lo hi sl Q I rx hsl pl pu ⟨a, vs, rfl, .inl (.inl h1), fun q hq => h _ _ (made_lst hs hq (cut_dds h2 lo hi))⟩
  case tuple xs =>
    obtain ⟨a, vs, rfl, h1, h2⟩ := dv_tup hp
    refine sl_tupA pins s σ H _ v vl vu lo hi sl Q I rx hsl pl pu ⟨a, vs, rfl, sqT_mono hs h1, fun e => ?_, fun _ q hq => h _ _ (made_tup hs hq (cut_dds h2 lo hi))⟩
    refine h _ _ (made_now ?_ hs)
    have e2 : cutV vs lo hi = vs := by
      unfold cutV
      rw [e.1, e.2]
      simp
    have := cut_dds h2 lo hi
    rw [e2] at this
    exact .tup h1 this
  case str z =>
    obtain rfl := dv_str hp
    exact sl_str pins s σ H _ v vl vu lo hi sl Q I rx hsl pl pu ⟨z, rfl, h.1, h.2 _ _ (mk_str hs)⟩

/-! ### builtin functions -/
theorem k_len : CallR X (.builtin "len") (rP X.K .len) := by
  intro pins s σ H xs us Q I r h
  obtain ⟨F, ds, hs, hd, h⟩ := h
  cases ds with
  | nil => exact False.elim h
  | cons p ds =>
    cases ds with
    | cons q ds => cases p <;> first | exact False.elim h | (simp [psem] at h; done)
    | nil =>
      cases xs with
      | nil => exact False.elim hd
      | cons x xs =>
        cases xs with
        | cons _ _ => exact False.elim hd.2
        | nil =>
          have hp : DV X.K F H x p := hd.1
          cases p <;> try exact False.elim h
          case list ys =>
            obtain ⟨a, vs, rfl, h1, h2⟩ := hp
            refine call_len_seq pins s σ H _ us Q I r ⟨a, vs, rfl, .inl (.inl (.inl h1)), ?_⟩
            rw [dps_len h2]
            exact h _ _ (mk_int hs)
          case tuple ys =>
            obtain ⟨a, vs, rfl, h1, h2⟩ := dv_tup hp
            refine call_len_seq pins s σ H _ us Q I r ⟨a, vs, rfl, .inr (sqT_mono hs h1), ?_⟩
            rw [dps_len h2]
            exact h _ _ (mk_int hs)
          case str z =>
            obtain rfl := dv_str hp
            exact call_len_str pins s σ H _ us Q I r ⟨z, rfl, h.1, h.2 _ _ (mk_int hs)⟩
          case dict kvs =>
            have hno : ∀ xs : List Ent3, (∀ y ∈ xs, keyOk y.1 = true) → kvs = kvsOf xs → False := by
              rintro xs ho rfl
              cases xs with
              | nil => exact False.elim h
              | cons y ys =>
                obtain ⟨k, b, w⟩ := y
                obtain ⟨ks, rfl⟩ := (keyOk_kd (ho (k, b, w) List.mem_cons_self)).2.2
                exact False.elim h
            rcases (show DD X.K F x (.dict kvs) ∨ ∃ a, x = .ref a ∧ DctA X.K F H a kvs from hp) with hp | ⟨a, rfl, o, xs, g1, g2, g3⟩
            case inr => exact (hno xs (fun y hy => ((dct_rd I g1 (fun y hy => kd_mono hs _ _ (g2 y hy))).2.1.2.2.2.2.2 y hy).1) g3).elim
            cases hp with
            | dct k1 k2 k3 => exact (hno _ (fun y hy => ((dct_rd I (hs _ _ k1) (fun y hy => kd_mono hs _ _ (k2 y hy))).2.1.2.2.2.2.2 y hy).1) k3).elim
            | ins c g1 g2 g3 g4 =>
              subst g4
              exact False.elim h
            | lit k n g1 g2 =>
              subst g2
              cases k <;> exact False.elim h
            | scr ns h1 h2 =>
              rename_i a
              subst h2
              refine call_len_seq pins s σ H _ us Q I r ⟨a, _, rfl, .inl (hs.seq h1), ?_⟩
              rw [List.length_map]
              have := h (.int (ns.length : Nat)) H (by
                have e : ((ns.map fun n => ((PyData.list [], PyData.int n) : PyData × PyData)).length : Int) = (ns.length : Nat) := by rw [List.length_map]
                rw [e]
                exact mk_int hs)
              exact this
theorem one_of {xs : List V} {f : PF} {k : Rs → Prop} (hd : DVs K F H xs ds) (h : psem f ds k) (hf : psem f [] k → False) (hf2 : ∀ p q es, psem f (p :: q :: es) k → False) : ∃ x p, xs = [x] ∧ ds = [p] ∧ DV K F H x p := by
  cases ds with
  | nil => exact (hf h).elim
  | cons p ds =>
    cases ds with
    | cons q ds => exact (hf2 _ _ _ h).elim
    | nil =>
      cases xs with
      | nil => exact False.elim hd
      | cons x xs =>
        cases xs with
        | cons _ _ => exact False.elim hd.2
        | nil => exact ⟨x, p, rfl, rfl, hd.1⟩
theorem two_of {xs : List V} {f : PF} {k : Rs → Prop} (hd : DVs K F H xs ds) (h : psem f ds k) (hf : psem f [] k → False) (hf1 : ∀ p, psem f [p] k → False) (hf2 : ∀ p q r es, psem f (p :: q :: r :: es) k → False) :
    ∃ x y p q, xs = [x, y] ∧ ds = [p, q] ∧ DV K F H x p ∧ DV K F H y q := by
  cases ds with
  | nil => exact (hf h).elim
  | cons p ds =>
    cases ds with
    | nil => exact (hf1 _ h).elim
    | cons q ds =>
      cases ds with
      | cons r ds => exact (hf2 _ _ _ _ h).elim
      | nil =>
        cases xs with
        | nil => exact False.elim hd
        | cons x xs =>
          cases xs with
          | nil => exact False.elim hd.2
          | cons y xs =>
            cases xs with
            | cons _ _ => exact False.elim hd.2.2
            | nil => exact ⟨x, y, p, q, rfl, rfl, hd.1, hd.2.1⟩
theorem k_abs : CallR X (.builtin "abs") (rP X.K .abs) := by
  intro pins s σ H xs us Q I r h
  obtain ⟨F, ds, hs, hd, h⟩ := h
  obtain ⟨x, p, rfl, rfl, hp⟩ := one_of hd h (fun h => h) (fun p q es h => by cases p <;> exact h)
  cases p <;> try exact False.elim h
  case int i =>
    obtain rfl := dv_int hp
    exact call_abs pins s σ H _ us Q I r ⟨i, rfl, h _ _ (mk_int hs)⟩
theorem k_max2 (hc : X.calm = true) : CallR X (.builtin "max") (rP X.K .max2) := by
  intro pins s σ H xs us Q I r h
  obtain ⟨F, ds, hs, hd, h⟩ := h
  obtain ⟨x, y, p, q, rfl, rfl, hp, hq⟩ := two_of hd h (fun h => h) (fun p h => by cases p <;> exact h) (fun p q r es h => by cases p <;> cases q <;> exact h)
  cases p <;> cases q <;> try exact False.elim h
  case int.int i j =>
    obtain rfl := dv_int hp
    obtain rfl := dv_int hq
    exact call_max2 hc pins s σ H _ us Q I r ⟨i, j, rfl, h _ _ (mk_int hs)⟩
section
variable {prog : Program} {w : World} {A : Around} {E : Value → Shared → Prop} {s : Shared}
def twoS (a b : Str) (i : Nat) : List Nat := if i = 0 then a.cps.toList else b.cps.toList
theorem min_two_strs {a b : Str} {t u : Tok} {Q : Value → Shared → Prop} (hh : A.handled = none)
    (h : ∀ h' tk, (∀ c o, s.heap.get? c = some o → h'.get? c = some o) → Q (if b.cps.toList < a.cps.toList then .str b u else .str a t) { s with heap := h', toks := tk }) :
    wpAny (model prog w) A (call (.builtin "min") [.str a t, .str b u]) Q E s := by
  have hT : (s.heap.push { cls := .type "tuple", data := .seq #[.str a t, .str b u] }).IsTuple s.heap.objs.size #[.str a t, .str b u] := ⟨_, Heap.get?_push_size _ rfl, rfl, 0, by simp⟩
  refine call_min_two (wpAny_pyIter_tuple hT ?_)
  have hsz : (s.heap.push { cls := .type "tuple", data := .seq #[.str a t, .str b u] }).objs.size = s.heap.objs.size + 1 := Heap.size_push ..
  have hcmp : CmpOf prog w A.in1 .Lt (fun i v => (#[Value.str a t, Value.str b u] : Array Value)[i]? = some v) (fun i j => decide (twoS a b i < twoS a b j)) := by
    intro i j vi vj s Q E hi hj hQ
    have key : ∀ i v, (#[Value.str a t, Value.str b u] : Array Value)[i]? = some v → ∃ x tk, v = .str x tk ∧ twoS a b i = x.cps.toList := by
      intro i v hv
      match i, hv with
      | 0, hv => cases hv; exact ⟨a, t, rfl, rfl⟩
      | 1, hv => cases hv; exact ⟨b, u, rfl, rfl⟩
      | i + 2, hv => cases hv
    obtain ⟨x, tx, rfl, ex⟩ := key i vi hi
    obtain ⟨y, ty, rfl, ey⟩ := key j vj hj
    dsimp only at hQ
    rw [ex, ey] at hQ
    exact (show wpAny _ _ (compareOp .Lt (.str x tx) (.str y ty)) _ _ s from lt_str hQ)
  refine ⟨_, [_, s.heap.objs.size], [_], _, _, _, _, rfl, Walks.tuple (A := A.in1) hh _ s.heap.objs.size (by rw [hsz]; exact Nat.ne_of_lt (Nat.lt_succ_self _)) #[.str a t, .str b u],
    ⟨⟨_, Heap.get?_push_size _ rfl, rfl, rfl⟩, hT.push _⟩, fun c hc => ?_, by simp, hcmp, fun v h' tk hP hk => ?_⟩
  · show c < ((s.heap.push _).push _).objs.size
    rw [Heap.size_push, hsz]
    rcases List.mem_cons.mp hc with rfl | hc
    · rw [hsz]; exact Nat.lt_succ_self _
    · rcases List.mem_cons.mp hc with rfl | hc
      · exact Nat.lt_succ_of_lt (Nat.lt_succ_self _)
      · cases hc
  · have hold : ∀ c o, s.heap.get? c = some o → h'.get? c = some o := fun c o e => by
      refine hk c o (fun hm => ?_) (Heap.get?_push_of_some _ (Heap.get?_push_of_some _ e))
      rcases List.mem_cons.mp hm with e1 | hm
      · have := Heap.lt_size e; rw [e1, hsz] at this; exact Nat.lt_irrefl _ (Nat.lt_of_succ_lt this)
      · cases hm
    have := h h' tk hold
    have hv : v = if b.cps.toList < a.cps.toList then Value.str b u else Value.str a t := by
      have hP' : (#[Value.str a t, Value.str b u] : Array Value)[argBest (fun i j => decide (twoS a b i < twoS a b j)) 1]? = some v := hP
      by_cases hba : b.cps.toList < a.cps.toList
      · have e : argBest (fun i j => decide (twoS a b i < twoS a b j)) 1 = 1 := by simp [argBest, twoS, hba]
        rw [e] at hP'
        rw [if_pos hba]
        cases hP'
        rfl
      · have e : argBest (fun i j => decide (twoS a b i < twoS a b j)) 1 = 0 := by simp only [argBest, twoS]; simp [hba]
        rw [e] at hP'
        rw [if_neg hba]
        cases hP'
        rfl
    rw [hv]; exact this
end
theorem k_min2 (hc : X.calm = true) : CallR X (.builtin "min") (rP X.K .min2) := by
  intro pins s σ H xs us Q I r h
  obtain ⟨F, ds, hs, hd, h⟩ := h
  obtain ⟨x, y, p, q, rfl, rfl, hp, hq⟩ := two_of hd h (fun h => h) (fun p h => by cases p <;> exact h) (fun p q r es h => by cases p <;> cases q <;> exact h)
  cases p <;> cases q <;> try exact False.elim h
  case int.int i j =>
    obtain rfl := dv_int hp
    obtain rfl := dv_int hq
    exact call_min2 hc pins s σ H _ us Q I r ⟨i, j, rfl, h _ _ (mk_int hs)⟩
  case str.str i j =>
    obtain rfl := dv_str hp
    obtain rfl := dv_str hq
    obtain ⟨u, w', rfl, ⟨t, rfl⟩, ⟨t', rfl⟩⟩ := vals2 r
    refine min_two_strs (I.ok.hd hc) fun h' tk k => ⟨.str (if j.cps.toList < i.cps.toList then j else i), H, I.kept k, ?_, h _ _ (mk_str hs)⟩
    by_cases hj : j.cps.toList < i.cps.toList
    · rw [if_pos hj, if_pos hj]; exact ⟨_, rfl⟩
    · rw [if_neg hj, if_neg hj]; exact ⟨_, rfl⟩
theorem k_maxL (hc : X.calm = true) : CallR X (.builtin "max") (rP X.K .maxL) := by
  intro pins s σ H xs us Q I r h
  obtain ⟨F, ds, hs, hd, h⟩ := h
  obtain ⟨x, p, rfl, rfl, hp⟩ := one_of hd h (fun h => h) (fun p q es h => by cases p <;> exact h)
  cases p <;> try exact False.elim h
  case list ys =>
    obtain ⟨a, vs, rfl, h1, h2⟩ := hp
    obtain ⟨ns, rfl, h3, h4⟩ := h
    obtain rfl := of_ints h2
    exact cr_max hc pins s σ H _ us Q I r ⟨a, ns, rfl, .inl (.inl h1), h3, fun m g1 g2 => h4 m g1 g2 _ _ (mk_int hs)⟩
theorem k_minL (hc : X.calm = true) : CallR X (.builtin "min") (rP X.K .minL) := by
  intro pins s σ H xs us Q I r h
  obtain ⟨F, ds, hs, hd, h⟩ := h
  obtain ⟨x, p, rfl, rfl, hp⟩ := one_of hd h (fun h => h) (fun p q es h => by cases p <;> exact h)
  cases p <;> try exact False.elim h
  case list ys =>
    obtain ⟨a, vs, rfl, h1, h2⟩ := hp
    obtain ⟨ns, rfl, h3, h4⟩ := h
    obtain rfl := of_ints h2
    exact cr_min hc pins s σ H _ us Q I r ⟨a, ns, rfl, .inl (.inl h1), h3, fun m g1 g2 => h4 m g1 g2 _ _ (mk_int hs)⟩
theorem k_sum (hc : X.calm = true) : CallR X (.builtin "sum") (rP X.K .sum) := by
  intro pins s σ H xs us Q I r h
  obtain ⟨F, ds, hs, hd, h⟩ := h
  obtain ⟨x, p, rfl, rfl, hp⟩ := one_of hd h (fun h => h) (fun p q es h => by cases p <;> exact h)
  cases p <;> try exact False.elim h
  case list ys =>
    obtain ⟨a, vs, rfl, h1, h2⟩ := hp
    obtain ⟨ns, rfl, h3⟩ := h
    obtain rfl := of_ints h2
    exact cr_sum hc pins s σ H _ us Q I r ⟨a, ns, rfl, .inl (.inl h1), h3 _ _ (mk_int hs)⟩
theorem k_all (hc : X.calm = true) : CallR X (.builtin "all") (rP X.K .all) := by
  intro pins s σ H xs us Q I r h
  obtain ⟨F, ds, hs, hd, h⟩ := h
  obtain ⟨x, p, rfl, rfl, hp⟩ := one_of hd h (fun h => h) (fun p q es h => by cases p <;> exact h)
  cases p <;> try exact False.elim h
  case list ys =>
    obtain ⟨a, vs, rfl, h1, h2⟩ := hp
    obtain ⟨ns, rfl, h3⟩ := h
    obtain rfl := of_bools h2
    exact cr_all hc pins s σ H _ us Q I r ⟨a, ns, rfl, .inl (.inl h1), h3 _ _ (mk_bl hs)⟩
theorem k_any (hc : X.calm = true) : CallR X (.builtin "any") (rP X.K .any) := by
  intro pins s σ H xs us Q I r h
  obtain ⟨F, ds, hs, hd, h⟩ := h
  obtain ⟨x, p, rfl, rfl, hp⟩ := one_of hd h (fun h => h) (fun p q es h => by cases p <;> exact h)
  cases p <;> try exact False.elim h
  case list ys =>
    obtain ⟨a, vs, rfl, h1, h2⟩ := hp
    obtain ⟨ns, rfl, h3⟩ := h
    obtain rfl := of_bools h2
    exact cr_any hc pins s σ H _ us Q I r ⟨a, ns, rfl, .inl (.inl h1), h3 _ _ (mk_bl hs)⟩
theorem k_sorted : CallR X (.builtin "sorted") (rP X.K .sorted) := by
  intro pins s σ H xs us Q I r h
  obtain ⟨F, ds, hs, hd, h⟩ := h
  obtain ⟨x, p, rfl, rfl, hp⟩ := one_of hd h (fun h => h) (fun p q es h => by cases p <;> exact h)
  cases p <;> try exact False.elim h
  case list ys =>
    obtain ⟨a, vs, rfl, h1, h2⟩ := hp
    obtain ⟨ns, rfl, h3⟩ := h
    obtain rfl := of_ints h2
    exact cr_sortedI pins s σ H _ us Q I r ⟨a, ns, rfl, .inl (.inl h1), fun ns' q g1 g2 hq => h3 ns' g1 g2 _ _ (made_lst hs hq (dps_ints ns'))⟩
theorem signs_vals {z : Str} {acc : Array Value} (h : ItemsOf (SignAt z) acc z.cps.size) : Vals (z.cps.toList.map fun c => V.str ⟨#[c]⟩) acc.toList := by
  obtain ⟨h1, h2⟩ := h
  have key : ∀ (cs : List Nat) (us : List Value), cs.length = us.length → (∀ (j : Nat) (v : Value), us[j]? = some v → ∃ c u, cs[j]? = some c ∧ v = .str ⟨#[c]⟩ u) → Vals (cs.map fun c => V.str ⟨#[c]⟩) us := by
    intro cs
    induction cs with
    | nil =>
      intro us hl _
      cases us with
      | nil => exact .nil
      | cons _ _ => cases hl
    | cons c cs ih =>
      intro us hl hj
      cases us with
      | nil => cases hl
      | cons u us =>
        obtain ⟨c', t, e1, e2⟩ := hj 0 u rfl
        cases e1
        exact .cons ⟨t, e2⟩ (ih us (by simpa using hl) fun j v e => hj (j + 1) v e)
  refine key _ _ (by simp [h1]) fun j v e => ?_
  obtain ⟨c, u, e1, e2⟩ := h2 j v (by simpa using e)
  exact ⟨c, u, by simpa using e1, e2⟩
theorem dds_signs {K : PySem.W.Frag} {F : Hp} : ∀ cs : List Nat, DDs K F (cs.map fun c => V.str ⟨#[c]⟩) (cs.map fun c => PyData.str ⟨#[c]⟩)
  | [] => .nil
  | c :: cs => .cons (.str _) (dds_signs cs)
theorem k_list (hcalm : X.calm = true) : CallR X (.type "list") (rP X.K .list) := by
  intro pins s σ H xs us Q I r h
  obtain ⟨F, ds, hs, hd, h⟩ := h
  obtain ⟨x, p, rfl, rfl, hp⟩ := one_of hd h (fun h => h) (fun p q es h => by cases p <;> exact h)
  cases p <;> try exact False.elim h
  case list ys =>
    obtain ⟨a, vs, rfl, h1, h2⟩ := hp
    exact call_list_of pins s σ H _ us Q I r ⟨a, vs, rfl, .inl (.inl (.inl h1)), fun q hq => h _ _ (made_lst hs hq h2)⟩
  case tuple ys =>
    obtain ⟨a, vs, rfl, h1, h2⟩ := dv_tup hp
    exact call_list_of pins s σ H _ us Q I r ⟨a, vs, rfl, .inr (sqT_mono hs h1), fun q hq => h _ _ (made_lst hs hq h2)⟩
  case str z =>
    obtain rfl := dv_str hp
    obtain ⟨u, rfl, rx⟩ := vals1 r
    obtain ⟨t, rfl⟩ := rx
    obtain ⟨hz, h⟩ := h
    refine call_list_str (I.ok.hd hcalm) z t (fun h' tk acc' c' kp e it => ?_) (hn := hz)
    have rv := signs_vals it
    have hl : (z.cps.toList.map fun c => V.str ⟨#[c]⟩).length ≤ sizeLine := by
      rw [List.length_map, Array.length_toList]
      exact hz
    refine ⟨.ref s.heap.objs.size, _, I.laid (t' := tk) kp (Nat.le_refl _) (show ObjOk X.prog X.w _ h' _ (.lst _) from ⟨hl, acc'.toList, c', rv, e⟩), rfl, h _ _ (made_lst hs (I.hok.fresh (Nat.le_refl _)) (dds_signs _))⟩
theorem k_tuple : CallR X (.type "tuple") (rP X.K .tuple) := by
  intro pins s σ H xs us Q I r h
  obtain ⟨F, ds, hs, hd, h⟩ := h
  obtain ⟨x, p, rfl, rfl, hp⟩ := one_of hd h (fun h => h) (fun p q es h => by cases p <;> exact h)
  cases p <;> try exact False.elim h
  case list ys =>
    obtain ⟨a, vs, rfl, h1, h2⟩ := hp
    exact call_tuple_of pins s σ H _ us Q I r ⟨a, vs, rfl, .inl ⟨.inl (.inl h1), fun q hq => h _ _ (made_tup hs hq h2)⟩⟩
  case tuple ys =>
    obtain ⟨a, vs, rfl, h1, h2⟩ := dv_tup hp
    exact call_tuple_of pins s σ H _ us Q I r ⟨a, vs, rfl, .inr ⟨sqT_mono hs h1, h _ _ (made_now (.tup h1 h2) hs)⟩⟩
theorem k_int : CallR X (.type "int") (rP X.K .int) := by
  intro pins s σ H xs us Q I r h
  obtain ⟨F, ds, hs, hd, h⟩ := h
  obtain ⟨x, p, rfl, rfl, hp⟩ := one_of hd h (fun h => h) (fun p q es h => by cases p <;> exact h)
  cases p <;> try exact False.elim h
  case int i =>
    obtain rfl := dv_int hp
    exact call_int1 pins s σ H _ us Q I r (.inl ⟨i, rfl, h _ _ (mk_int hs)⟩)
  case bool b =>
    obtain rfl := dv_bl hp
    exact call_int1 pins s σ H _ us Q I r (.inr ⟨b, rfl, h _ _ (mk_int hs)⟩)
  case str z =>
    obtain rfl := dv_str hp
    obtain ⟨n, h1, h2, h3⟩ := h
    exact call_int_str pins s σ H _ us Q I r ⟨z, n, rfl, h1, h2, h3 _ _ (mk_int hs)⟩
theorem k_str : CallR X (.type "str") (rP X.K .str) := by
  intro pins s σ H xs us Q I r h
  obtain ⟨F, ds, hs, hd, h⟩ := h
  obtain ⟨x, p, rfl, rfl, hp⟩ := one_of hd h (fun h => h) (fun p q es h => by cases p <;> exact h)
  cases p <;> try exact False.elim h
  case int i =>
    obtain rfl := dv_int hp
    exact call_str_int pins s σ H _ us Q I r ⟨i, rfl, h.1, h.2 _ _ (mk_str hs)⟩
/-! ### repr, plain dicts among it -/
theorem lit_rd {X : Cx} {pins : List (Addr × Obj)} {σ : L2.St} {H : Hp} {s : Shared} (I : Inv X pins σ H s) {a : Addr} {k : L2.Key} {n : Int} (h : H a = some (.dK [(k, .int n)])) :
    ∃ o, s.heap.get? a = some o ∧ o.cls = .type "dict" ∧ a ≠ sysModules ∧ Reads s.heap (.ref a) (.dict [(kDk k, .int n)]) [a] := by
  obtain ⟨_, hs, vs, kv, o, es, ep, h1, h2, h3, _, hp, _⟩ := (show ObjOk X.prog X.w H s.heap a (.dK [(k, .int n)]) from I.hok a _ h)
  match vs, kv, hp with
  | [(k', u)], .cons r .nil, hp =>
    obtain ⟨r1, r2⟩ := r
    dsimp only at r1 r2
    subst r1
    obtain ⟨t, rfl⟩ := (show ∃ t, u = Value.int n t from r2)
    generalize hes : es.toList = el at hp
    cases hp with
    | cons e1 e2 e3 =>
      cases e3
      rename_i e
      refine ⟨o, h1, h2.1, by simpa using hs, ?_⟩
      have hk : Reads s.heap e.key (kDk k) [] := by
        rcases keyIs_shape e1 with ⟨i, t, e4, e5⟩ | ⟨x, t, e4, e5⟩
        · dsimp only at e4
          rw [e5, e4]
          exact Reads.int i t
        · dsimp only at e4
          rw [e5, e4]
          exact Reads.str x t
      have := Reads.dict (kvs := [(kDk k, .int n)]) (as := []) (bs := []) h1 h2.1 h3 (by rw [hes]; exact ReadsAll.cons (as := []) (bs := []) hk ReadsAll.nil) (by
        rw [hes]
        refine ReadsAll.cons (as := []) (bs := []) ?_ ReadsAll.nil
        show Reads s.heap e.val (PyData.int n) []
        rw [e2]
        exact Reads.int n t)
      exact this
theorem emp_rd {X : Cx} {pins : List (Addr × Obj)} {σ : L2.St} {H : Hp} {s : Shared} (I : Inv X pins σ H s) {a : Addr} {o : Obj} (h : H a = some (DctO a o [])) :
    s.heap.get? a = some o ∧ o.cls = .type "dict" ∧ a ≠ sysModules ∧ Reads s.heap (.ref a) (.dict []) [a] := by
  obtain ⟨h1, hE, _⟩ := dct_rd I h (fun x hx => by cases hx)
  obtain ⟨hs, _, hx, ⟨es, ep, hd, ys, hp, hw⟩, _⟩ := hE
  cases hp
  have he : es.toList = [] := by rw [hw X.w]; rfl
  refine ⟨h1, hx.1, by simpa using hs, ?_⟩
  exact Reads.dict (kvs := []) (as := []) (bs := []) h1 hx.1 hd (by rw [he]; exact ReadsAll.nil) (by rw [he]; exact ReadsAll.nil)
/-- a thing that repr shows, in a heap -/
def TopR (X : Cx) (h : Heap) (u : Value) (d : PyData) : Prop := ∀ (A : Around) (E : Value → Shared → Prop) (s : Shared) (Q : Value → Shared → Prop), A.guards = some [] → A.units + 64 < cLine → d.depth ≤ 60 → (∀ b o, h.get? b = some o → s.heap.get? b = some o) →
  (∀ (h' : Heap) (t : Tok) (tk : Nat), (∀ b o, s.heap.get? b = some o → h'.get? b = some o) → Q (.str d.shown t) { s with heap := h', toks := tk }) → wpAny (model X.prog X.w) A (call (.builtin "repr") [u]) Q E s
def RkD (X : Cx) (h : Heap) (u : Value) (d : PyData) : Prop := ∃ as bs, Reads h u d as ∧ ReadAtMost h d.depth bs ∧ ReprK X.prog X.w bs h d.depth u d.shown ∧ TopR X h u d
def RkA (X : Cx) (h : Heap) (us : List Value) (ds : List PyData) : Prop := ∃ as bs, ReadsAll h us ds as ∧ ReadAtMost h (PyData.depthAll ds) bs ∧ ReprAllK X.prog X.w bs h (PyData.depthAll ds) us (PyData.shownAll ds)
theorem rk_one {X : Cx} {h : Heap} {u : Value} {d : PyData} {as : List Addr} (r : Reads h u d as) (hs : d.showable = true) (hn : d.hasDict = true → sysModules ∉ as) (hz : d.shown.length ≤ sizeLine) : RkD X h u d := by
  obtain ⟨bs, h1, h2⟩ := ReprK.of_reads (prog := X.prog) (w := X.w) r hs hn hz
  refine ⟨as, bs, r, h1, h2, fun A E s Q hg hu h4 hk fin => ?_⟩
  cases r with
  | none => exact PySem.P.repr_of_none (fin s.heap _ _ fun _ _ e => e)
  | bool b =>
    refine PySem.P.repr_of_bool ?_
    have := fin s.heap s.toks (s.toks + 1) fun _ _ e => e
    cases b <;> exact this
  | int i t => exact PySem.P.repr_of_int (by simpa [PyData.showable] using hs) (fin s.heap _ _ fun _ _ e => e)
  | str z t => exact PySem.P.repr_of_str (fin s.heap _ _ fun _ _ e => e) hz
  | list g1 g2 g3 g4 => exact repr_of_reads' (.list g1 g2 g3 g4) hs hn hg (by omega) hk (fun h' t tk kp => fin h' t tk kp) hz
  | tuple g1 g2 g3 g4 => exact repr_of_reads' (.tuple g1 g2 g3 g4) hs hn hg (by omega) hk (fun h' t tk kp => fin h' t tk kp) hz
  | dict g1 g2 g3 g4 g5 => exact repr_of_reads' (.dict g1 g2 g3 g4 g5) hs hn hg (by omega) hk (fun h' t tk kp => fin h' t tk kp) hz
theorem rk_nil {X : Cx} {h : Heap} : RkA X h [] [] := ⟨[], [], .nil, (fun _ m => by cases m), by rw [PyData.shownAll]; exact .nil⟩
theorem rk_cons {X : Cx} {h : Heap} {u : Value} {us : List Value} {d : PyData} {ds : List PyData} (a : RkD X h u d) (b : RkA X h us ds) : RkA X h (u :: us) (d :: ds) := by
  obtain ⟨a1, b1, r1, m1, k1, _⟩ := a
  obtain ⟨a2, b2, r2, m2, k2⟩ := b
  have e1 : d.depth ≤ PyData.depthAll (d :: ds) := by simp only [PyData.depthAll]; exact Nat.le_max_left _ _
  have e2 : PyData.depthAll ds ≤ PyData.depthAll (d :: ds) := by simp only [PyData.depthAll]; exact Nat.le_max_right _ _
  refine ⟨_, b1 ++ b2, .cons r1 r2, (m1.mono e1).append (m2.mono e2), ?_⟩
  have k1' := (k1.more (as' := b1 ++ b2) fun x hx => List.mem_append_left _ hx).level_le e1
  have k2' := k2.more_le (as' := b1 ++ b2) (fun x hx => List.mem_append_right _ hx) e2
  rw [PyData.shownAll]
  exact .cons k1' k2'
theorem rk_list {X : Cx} {h : Heap} {a : Addr} {o : Obj} {n : Nat} {l : List Value} {ds : List PyData} (h1 : h.get? a = some o) (h2 : o.cls = .type "list") (h3 : o.data = .seq l.toArray n) (hz : (PyData.list ds).shown.length ≤ sizeLine) (b : RkA X h l ds) : RkD X h (.ref a) (.list ds) := by
  obtain ⟨as, bs, r, m, k⟩ := b
  have rd : Reads h (.ref a) (.list ds) (a :: as) := .list h1 h2 h3 r
  have dp : PyData.depthAll ds < (PyData.list ds).depth := by rw [PyData.depth]; exact Nat.lt_succ_self _
  have out := not_mem_of_deeper rd dp m
  have e1 : (PyData.list ds).depth = PyData.depthAll ds + 1 := by rw [PyData.depth]
  have e2 : (PyData.list ds).shown = listText (PyData.shownAll ds) := by rw [PyData.shown]
  refine ⟨_, a :: bs, rd, .cons rd (Nat.le_of_lt dp) m, ?_, fun A E s Q hg hu h4 hk fin => ?_⟩
  case refine_2 =>
    have ty : s.TypeIs (.ref a) "list" := ⟨o, hk _ _ h1, h2⟩
    refine call_repr_slot (by omega) ty F.slot_list_repr.toG ?_
    rw [e2] at fin hz
    rw [e1] at h4
    cases l with
    | nil =>
      cases r
      exact call_list_repr_empty ty (hk _ _ h1) h3 ⟨_, _, rfl, fin s.heap _ _ fun _ _ e => e⟩
    | cons x l =>
      have hu' : A.in1.units + (PyData.depthAll ds + 1) < cLine := by
        show A.units + 1 + (PyData.depthAll ds + 1) < cLine
        omega
      exact call_list_reprK h1 h2 h3 out (by rw [k.length_eq]; simp) (fun i y e => k.item i y (by simpa using e)) hg (fun b _ => Clear.nil b) hu' hk (fun h' t tk kp => ⟨_, _, rfl, fin h' t tk kp⟩) hz
  rw [e1, e2]
  cases l with
  | nil =>
    cases r
    exact ReprK.listEmpty h1 h2 h3
  | cons x l => exact ReprK.list h1 h2 h3 out (by rw [k.length_eq]; simp) fun i y e => k.item i y (by simpa using e)
theorem rk_tuple {X : Cx} {h : Heap} {a : Addr} {o : Obj} {n : Nat} {l : List Value} {ds : List PyData} (h1 : h.get? a = some o) (h2 : o.cls = .type "tuple") (h3 : o.data = .seq l.toArray n) (hz : (PyData.tuple ds).shown.length ≤ sizeLine) (b : RkA X h l ds) : RkD X h (.ref a) (.tuple ds) := by
  obtain ⟨as, bs, r, m, k⟩ := b
  have rd : Reads h (.ref a) (.tuple ds) as := .tuple h1 h2 h3 r
  have dp : PyData.depthAll ds < (PyData.tuple ds).depth := by rw [PyData.depth]; exact Nat.lt_succ_self _
  have out := not_mem_of_deeper rd dp m
  have e1 : (PyData.tuple ds).depth = PyData.depthAll ds + 1 := by rw [PyData.depth]
  have e2 : (PyData.tuple ds).shown = tupleText (PyData.shownAll ds) := by rw [PyData.shown]
  refine ⟨_, a :: bs, rd, .cons rd (Nat.le_of_lt dp) m, ?_, fun A E s Q hg hu h4 hk fin => ?_⟩
  case refine_2 =>
    refine call_repr_slot (by omega) ⟨o, hk _ _ h1, h2⟩ F.slot_tuple_repr ?_
    rw [e2] at fin hz
    rw [e1] at h4
    have hu' : A.in1.units + (PyData.depthAll ds + 1) < cLine := by
      show A.units + 1 + (PyData.depthAll ds + 1) < cLine
      omega
    exact call_tuple_reprK h1 h2 h3 out k hg (fun b _ => Clear.nil b) hu' hk (fun h' t tk kp => ⟨_, _, rfl, fin h' t tk kp⟩) hz
  rw [e1, e2]
  exact ReprK.tuple h1 h2 h3 out k
theorem shown_in {ds : List PyData} {n : Nat} (h : ∀ t ∈ PyData.shownAll ds, t.length ≤ n) : ∀ d ∈ ds, d.shown.length ≤ n := by
  induction ds with
  | nil => intro d hd; cases hd
  | cons x xs ih =>
    rw [PyData.shownAll] at h
    intro d hd
    rcases List.mem_cons.mp hd with rfl | hd
    · exact h _ List.mem_cons_self
    · exact ih (fun t ht => h t (List.mem_cons_of_mem _ ht)) d hd
theorem shown_list {ds : List PyData} {n : Nat} (h : (PyData.list ds).shown.length ≤ n) : ∀ d ∈ ds, d.shown.length ≤ n := by
  rw [PyData.shown] at h
  exact shown_in fun t ht => Nat.le_trans (listText_mem_le ht) h
theorem shown_tuple {ds : List PyData} {n : Nat} (h : (PyData.tuple ds).shown.length ≤ n) : ∀ d ∈ ds, d.shown.length ≤ n := by
  rw [PyData.shown] at h
  exact shown_in fun t ht => Nat.le_trans (tupleText_mem_le ht) h
mutual
theorem dd_rk {X : Cx} {pins : List (Addr × Obj)} {σ : L2.St} {F H : Hp} {s : Shared} (I : Inv X pins σ H s) (hs : Same F H) : ∀ (d : PyData) (v : V) (u : Value), DD X.K F v d → badD d = false → RelV v u → d.showable = true → d.shown.length ≤ sizeLine → RkD X s.heap u d
  | .none, _, _, h, _, r, sh, hz => by
    cases h
    cases r
    exact rk_one Reads.none sh (fun e => by cases e) hz
  | .bool b, _, _, h, _, r, sh, hz => by
    cases h
    cases r
    exact rk_one (Reads.bool b) sh (fun e => by cases e) hz
  | .int i, _, _, h, _, r, sh, hz => by
    cases h
    obtain ⟨t, rfl⟩ := r
    exact rk_one (Reads.int i t) sh (fun e => by cases e) hz
  | .str x, _, _, h, _, r, sh, hz => by
    cases h
    obtain ⟨t, rfl⟩ := r
    exact rk_one (Reads.str x t) sh (fun e => by cases e) hz
  | .list ds, _, _, h, e, r, sh, hz => by
    cases h with
    | lst h1 ha =>
      cases r
      obtain ⟨its, rv, ⟨o, n, ho, hc, _, hd⟩, _⟩ := I.list (.inl (.inl (hs _ _ h1)))
      exact rk_list ho hc hd hz (dds_rk I hs ds _ its ha (by simpa [badD] using e) rv (by simpa [PyData.showable] using sh) (shown_list hz))
  | .tuple ds, _, _, h, e, r, sh, hz => by
    cases h with
    | tup h1 ha =>
      cases r
      obtain ⟨its, rv, ⟨o, ho, hc, n, hd⟩, _⟩ := I.tuple (sqT_mono hs h1)
      exact rk_tuple ho hc hd hz (dds_rk I hs ds _ its ha (by simpa [badD] using e) rv (by simpa [PyData.showable] using sh) (shown_tuple hz))
  | .dict kvs, _, _, h, e, r, sh, hz => by
    rw [badD, Bool.not_eq_false', Bool.or_eq_true] at e
    cases h with
    | scr ns h1 h2 => subst h2; rcases e with e | e <;> cases e
    | ins c h1 h2 h3 h4 => subst h4; rcases e with e | e <;> cases e
    | lit k n h1 h2 =>
      subst h2
      cases r
      obtain ⟨o, g1, g2, g3, g4⟩ := lit_rd I (hs _ _ h1)
      exact rk_one g4 sh (fun _ => by simpa using Ne.symm g3) hz
    | dct h1 h2 h3 =>
      subst h3
      rename_i a o xs
      cases xs with
      | nil =>
        cases r
        obtain ⟨g1, g2, g3, g4⟩ := emp_rd I (hs _ _ h1)
        exact rk_one g4 sh (fun _ => by simpa using Ne.symm g3) hz
      | cons x xs =>
        rcases e with e | e
        · obtain ⟨k, b, w⟩ := x
          have h2' := (dct_rd I (hs _ _ h1) (fun y hy => kd_mono hs _ _ (h2 y hy))).2.1.2.2.2.2.2 (k, b, w) List.mem_cons_self
          obtain ⟨ks, rfl⟩ := (keyOk_kd h2'.1).2.2
          cases xs <;> cases e
        · cases e
theorem dds_rk {X : Cx} {pins : List (Addr × Obj)} {σ : L2.St} {F H : Hp} {s : Shared} (I : Inv X pins σ H s) (hs : Same F H) : ∀ (ds : List PyData) (vs : List V) (us : List Value), DDs X.K F vs ds → badDs ds = false → Vals vs us → PyData.showableAll ds = true → (∀ d ∈ ds, d.shown.length ≤ sizeLine) → RkA X s.heap us ds
  | [], _, _, h, _, r, _, _ => by
    cases h
    cases r
    exact rk_nil
  | d :: ds, _, _, h, e, r, sh, hz => by
    rw [badDs, Bool.or_eq_false_iff] at e
    rw [PyData.showableAll, Bool.and_eq_true] at sh
    cases h with
    | cons h1 h2 =>
      cases r with
      | cons r1 r2 => exact rk_cons (dd_rk I hs d _ _ h1 e.1 r1 sh.1 (hz d List.mem_cons_self)) (dds_rk I hs ds _ _ h2 e.2 r2 sh.2 fun x hx => hz x (List.mem_cons_of_mem _ hx))
end
theorem dv_rk {X : Cx} {pins : List (Addr × Obj)} {σ : L2.St} {F H : Hp} {s : Shared} (I : Inv X pins σ H s) (hs : Same F H) {d : PyData} {v : V} {u : Value} (h : DV X.K F H v d) (e : badD d = false) (r : RelV v u) (sh : d.showable = true) (hz : d.shown.length ≤ sizeLine) : RkD X s.heap u d := by
  cases d with
  | none => exact dd_rk I hs _ v u h e r sh hz
  | bool _ => exact dd_rk I hs _ v u h e r sh hz
  | int _ => exact dd_rk I hs _ v u h e r sh hz
  | str _ => exact dd_rk I hs _ v u h e r sh hz
  | tuple _ => exact dd_rk I hs _ v u h e r sh hz
  | list ds =>
    obtain ⟨a, vs, rfl, h1, h2⟩ := h
    cases (show u = Value.ref a from r)
    obtain ⟨its, rv, ⟨o, n, ho, hc, _, hd⟩, _⟩ := I.list (.inl (.inl h1))
    exact rk_list ho hc hd hz (dds_rk I hs ds _ its h2 (by simpa [badD] using e) rv (by simpa [PyData.showable] using sh) (shown_list hz))
  | dict kvs =>
    rcases (show DD X.K F v (.dict kvs) ∨ ∃ a, v = .ref a ∧ DctA X.K F H a kvs from h) with h | ⟨a, rfl, o, xs, g1, g2, g3⟩
    · exact dd_rk I hs _ v u h e r sh hz
    · subst g3
      rw [badD, Bool.not_eq_false', Bool.or_eq_true] at e
      cases xs with
      | nil =>
        cases (show u = Value.ref a from r)
        obtain ⟨_, _, k3, k4⟩ := emp_rd I g1
        exact rk_one k4 sh (fun _ => by simpa using Ne.symm k3) hz
      | cons x xs =>
        rcases e with e | e
        · obtain ⟨k, b, w⟩ := x
          have h2' := (dct_rd I g1 (fun y hy => kd_mono hs _ _ (g2 y hy))).2.1.2.2.2.2.2 (k, b, w) List.mem_cons_self
          obtain ⟨ks, rfl⟩ := (keyOk_kd h2'.1).2.2
          cases xs <;> cases e
        · cases e
theorem k_repr (hg : X.A.guards = some []) (hu : X.A.units + 64 < cLine) : CallR X (.builtin "repr") (rP X.K .repr) := by
  intro pins s σ H xs us Q I r h
  obtain ⟨F, ds, hs, hd, h⟩ := h
  obtain ⟨x, p, rfl, rfl, hp⟩ := one_of hd h (fun h => h) (fun p q es h => by cases p <;> exact h)
  obtain ⟨h1, h2, h3, h4, h5⟩ := h
  obtain ⟨u, rfl, rx⟩ := vals1 r
  obtain ⟨_, _, _, _, _, top⟩ := dv_rk I hs hp h2 rx h1 h3
  exact top _ _ _ _ hg hu h4 (fun _ _ e => e) fun h' t tk kp => ⟨.str p.shown, H, I.kept kp, ⟨t, rfl⟩, h5 _ _ (mk_str hs)⟩
def tyName : Ty → String
  | .int => "int"
  | .bool => "bool"
  | .str => "str"
  | .list => "list"
  | .tuple => "tuple"
  | .none => "NoneType"
  | .dict => "dict"
def isTT : Ty → Ty → Bool
  | .int, .int => true
  | .int, .bool => true
  | .bool, .bool => true
  | .str, .str => true
  | .list, .list => true
  | .tuple, .tuple => true
  | .none, .none => true
  | .dict, .dict => true
  | _, _ => false
theorem isTy_eq (t : Ty) (x : PyData) : isTy t x = isTT t (tyOf x) := by
  unfold isTy
  generalize tyOf x = u
  cases t <;> cases u <;> rfl
theorem kits : ∀ t u : Ty, kitB (tyName u) (tyName t) = some (isTT t u) := by
  intro t u
  cases t <;> cases u <;> decide +kernel
theorem tyX_of {x : V} {p : PyData} (hs : Same F H) (hp : DV K F H x p) (hn : isDct p = false) : TyX K H x (.type (tyName (tyOf p))) := by
  cases p with
  | none => obtain rfl := dv_non hp; exact .base .non
  | bool b => obtain rfl := dv_bl hp; exact .base (.bl b)
  | int b => obtain rfl := dv_int hp; exact .base (.int b)
  | str b => obtain rfl := dv_str hp; exact .base (.str b)
  | list b => obtain ⟨a, vs, rfl, h1, _⟩ := hp; exact .base (.lst h1)
  | tuple b =>
    obtain ⟨a, vs, rfl, h1, _⟩ := dv_tup hp
    rcases sqT_mono hs h1 with (h1 | ⟨o, h1⟩) | ⟨o, its, n, h1, h2, _⟩
    · exact .base (.tup h1)
    · exact .fTuple h1
    · exact .kTuple h1 h2
  | dict b => cases hn
theorem kit_d {X : Cx} {pins : List (Addr × Obj)} {σ : L2.St} {F H : Hp} {s : Shared} (I : Inv X pins σ H s) {x : V} {u : Value} {p : PyData} (hs : Same F H) (hp : DV X.K F H x p) (hn : isDict p = false) (rx : RelV x u) :
    ∃ P : Heap → Prop, PySem.W.KitX X.K u (.type (tyName (tyOf p))) P ∧ P s.heap ∧ u ≠ .builtin "__main__.__loader__#opaque" := by
  by_cases hd : ∃ kvs, p = .dict kvs
  · obtain ⟨kvs, rfl⟩ := hd
    have e := hn
    rw [isDict, Bool.not_eq_false', Bool.or_eq_true] at e
    have fin : ∀ {a : Addr} {o : Obj} {xs : List Ent3}, H a = some (DctO a o xs) → (∀ y ∈ xs, KD X.K H (.ref y.2.1) y.1) → kvs = kvsOf xs → u = .ref a → ∃ P : Heap → Prop, PySem.W.KitX X.K u (.type (tyName (tyOf (.dict kvs)))) P ∧ P s.heap ∧ u ≠ .builtin "__main__.__loader__#opaque" := by
      rintro a o xs g1 g2 g3 rfl
      obtain ⟨k1, hE, _⟩ := dct_rd I g1 g2
      exact ⟨_, PySem.W.kitx_dict, ⟨o, k1, hE.2.2.1.1⟩, fun z => nomatch z⟩
    rcases (show DD X.K F x (.dict kvs) ∨ ∃ a, x = .ref a ∧ DctA X.K F H a kvs from hp) with h | ⟨a, rfl, o, xs, g1, g2, g3⟩
    · cases h with
      | scr ns h1 h2 => subst h2; rcases e with e | e <;> cases e
      | ins c h1 h2 h3 h4 => subst h4; rcases e with e | e <;> cases e
      | lit k n h1 h2 =>
        cases (show u = Value.ref _ from rx)
        obtain ⟨o, g1, g2, _⟩ := lit_rd I (hs _ _ h1)
        exact ⟨_, PySem.W.kitx_dict, ⟨o, g1, g2⟩, fun z => nomatch z⟩
      | dct h1 h2 h3 => exact fin (hs _ _ h1) (fun y hy => kd_mono hs _ _ (h2 y hy)) h3 rx
    · exact fin g1 (fun y hy => kd_mono hs _ _ (g2 y hy)) g3 rx
  · have hn2 : isDct p = false := by
      cases p <;> first | rfl | exact absurd ⟨_, rfl⟩ hd
    exact kit_of I rx (tyX_of hs hp hn2)
theorem k_isi (t : Ty) : CallR X (.builtin "isinstance") (fun xs H Q => ∃ x, xs = [x, .ty (tyName t)] ∧ rP X.K (.isi t) [x] H Q) := by
  intro pins s σ H xs us Q I r h
  obtain ⟨x, rfl, F, ds, hs, hd, h⟩ := h
  obtain ⟨p, rfl, hp⟩ := dvs1 hd
  obtain ⟨h1, h2⟩ := h
  obtain ⟨u1, u2, rfl, r1, r2⟩ := vals2 r
  cases (show u2 = Value.type (tyName t) from r2)
  obtain ⟨P, Z, q, hx⟩ := kit_d I hs hp h1 r1
  refine PySem.W.kia_one Z I.kIn q (kit_ty (kits t _)) hx fun tk => ⟨.bl _, H, I.tok tk, rfl, ?_⟩
  rw [← isTy_eq]
  exact h2 _ _ (mk_bl hs)

/-! ### methods -/
theorem m_join : MtR X "str.join" (fun x xs => rP X.K .join (x :: xs)) := by
  intro pins s σ H x xs v us Q I rx rs h
  obtain ⟨F, ds, hs, hd, h⟩ := h
  obtain ⟨x', y, p, q, e, rfl, hp, hq⟩ := two_of hd h (fun h => h) (fun p h => by cases p <;> exact h) (fun p q r es h => by cases p <;> cases q <;> exact h)
  cases e
  cases p <;> cases q <;> try exact False.elim h
  case str.list a ys =>
    obtain rfl := dv_str hp
    obtain ⟨b, vs, rfl, h1, h2⟩ := hq
    obtain ⟨zs, rfl, h3, h4⟩ := h
    obtain rfl := of_strs h2
    exact mt_join pins s σ H _ _ v us Q I rx rs ⟨a, b, zs, rfl, rfl, .inl (.inl (.inl h1)), h3, h4 _ _ (mk_str hs)⟩
theorem m_split : MtR X "str.split" (fun x xs => rP X.K .split (x :: xs)) := by
  intro pins s σ H x xs v us Q I rx rs h
  obtain ⟨F, ds, hs, hd, h⟩ := h
  obtain ⟨x', y, p, q, e, rfl, hp, hq⟩ := two_of hd h (fun h => h) (fun p h => by cases p <;> exact h) (fun p q r es h => by cases p <;> cases q <;> exact h)
  cases e
  cases p <;> cases q <;> try exact False.elim h
  case str.str a b =>
    obtain rfl := dv_str hp
    obtain rfl := dv_str hq
    exact mt_split pins s σ H _ _ v us Q I rx rs ⟨a, b, rfl, rfl, h.1, h.2.1, fun q hq => h.2.2 _ _ (made_lst hs hq (dps_strs _))⟩
theorem m_index (hu : X.A.units + 65 < cLine) : MtR X "list.index" (fun x xs => rP X.K .lindex (x :: xs)) := by
  intro pins s σ H x xs v us Q I rx rs h
  obtain ⟨F, ds, hs, hd, h⟩ := h
  obtain ⟨x', y, p, q, e, rfl, hp, hq⟩ := two_of hd h (fun h => h) (fun p h => by cases p <;> exact h) (fun p q r es h => by cases p <;> exact h)
  cases e
  cases p <;> try exact False.elim h
  case list ys =>
    obtain ⟨h1, h2, j, z, h3, h4, h5, h6⟩ := h
    have hL := hp.dp hs (shaped_noDict h2)
    obtain ⟨a, vs, rfl, g1, g2⟩ := hp
    exact mt_indexD hu pins s σ H _ _ v us Q I rx rs ⟨a, y, q, ys, j, z, rfl, rfl, hL, hq.dp hs (shaped_noDict h1), h2, h1, h3, h4, h5, h6 _ _ (mk_int hs)⟩
theorem m_count : MtR X "list.count" (fun x xs H Q => rP X.K .lcount (x :: xs) H Q ∧ ∃ i, xs = [.int i]) := by
  intro pins s σ H x xs v us Q I rx rs h
  obtain ⟨⟨F, ds, hs, hd, h⟩, j, hj⟩ := h
  obtain ⟨x', y, p, q, e, rfl, hp, hq⟩ := two_of hd h (fun h => h) (fun p h => by cases p <;> exact h) (fun p q r es h => by cases p <;> cases q <;> exact h)
  cases e
  cases p <;> cases q <;> try exact False.elim h
  case list.list ys zs =>
    exfalso
    cases hj
    obtain ⟨_, _, e, _⟩ := hq
    cases e
  case list.int ys i =>
    obtain ⟨a, vs, rfl, g1, g2⟩ := hp
    obtain rfl := dv_int hq
    obtain ⟨ns, rfl, h1⟩ := h
    obtain rfl := of_ints g2
    exact mt_lcount pins s σ H _ _ v us Q I rx rs ⟨a, ns, i, rfl, rfl, .inl (.inl g1), h1 _ _ (mk_int hs)⟩
end
end FX
set_option maxHeartbeats 2000000
namespace FX
variable [Wc]
open PySem PySem.Spec PyProof.Rows L2

section
variable {X : Cx} {pins : List (Addr × Obj)} {σ : L2.St} {H : Hp} {s : Shared} {K : PySem.W.Frag} {F : Hp}
theorem DctA.keys {a : Addr} {kvs : List (PyData × PyData)} (h : DctA K F H a kvs) (hs : Same F H) : DctA K H H a kvs := by
  obtain ⟨o, xs, h1, h2, h3⟩ := h
  exact ⟨o, xs, h1, fun x hx => kd_mono hs _ _ (h2 x hx), h3⟩
theorem dct_at (I : Inv X pins σ H s) {a : Addr} {kvs : List (PyData × PyData)} (h : DctA X.K H H a kvs) : s.TypeIs (.ref a) "dict" ∧ (∀ b, Value.ref a = .ref b → ∃ ob, s.heap.get? b = some ob ∧ ob.dict = none) := by
  obtain ⟨o, xs, h1, h2, h3⟩ := h
  obtain ⟨g1, g2, _⟩ := dct_rd I h1 h2
  refine ⟨⟨o, g1, g2.2.2.1.1⟩, fun b e => ?_⟩
  cases e
  exact ⟨o, g1, g2.2.2.1.2.1⟩
theorem m_dget (hu : X.A.units + 65 < cLine) : MtR X "dict.get" (fun x xs => rP X.K .dget (x :: xs)) := by
  intro pins s σ H x xs v us Q I rx rs h
  obtain ⟨F, ds, hs, hd, h⟩ := h
  obtain ⟨p, ds, rfl, hp, hd⟩ := dvs_cons hd
  cases xs with
  | nil =>
    obtain rfl := dvs0 hd
    cases p <;> exact False.elim h
  | cons y xs =>
    obtain ⟨q, ds, rfl, hq, hd⟩ := dvs_cons hd
    cases xs with
    | nil =>
      obtain rfl := dvs0 hd
      cases p <;> try exact False.elim h
      case dict kvs =>
        obtain ⟨h1, h2, h3⟩ := (show dkd kvs = true ∧ keyOk q = true ∧ (∀ z H', Made X.K F H (.d ((dgetK kvs q).getD .none)) z H' → Q z H') from h)
        obtain ⟨a, rfl, o, es, g1, g2, rfl⟩ := dv_dct hs h1 hp
        obtain ⟨k1, _, ks, rfl⟩ := keyOk_kd h2
        have hx : KD X.K F y (.tuple ks) := dd_kd _ _ hq k1
        have hE := (dct_rd I g1 (fun y hy => kd_mono hs _ _ (g2 y hy))).2.1
        have hx' := hx
        cases hx' with
        | tup _ _ =>
          obtain ⟨u, rfl, ru⟩ := vals1 rs
          cases rx
          cases ru
          refine n_get1 hu I g1 (fun y hy => kd_mono hs _ _ (g2 y hy)) (kd_mono hs _ _ hx) h2 fun u' s' I' r' => ⟨_, H, I', r', h3 _ _ (made_now ?_ hs)⟩
          cases e : dgetK (kvsOf es) (.tuple ks) with
          | none => exact .non
          | some w =>
            refine dget_sc e fun p hp => ?_
            obtain ⟨e, he, rfl⟩ := List.mem_map.mp hp
            exact (hE.2.2.2.2.2 e he).2
    | cons z xs =>
      obtain ⟨r, ds, rfl, hr, hd⟩ := dvs_cons hd
      cases xs with
      | cons _ _ =>
        obtain ⟨r', ds, rfl, _, _⟩ := dvs_cons hd
        cases p <;> exact False.elim h
      | nil =>
        obtain rfl := dvs0 hd
        cases p <;> try exact False.elim h
        case dict kvs =>
          obtain ⟨h1, h2, h0, h3⟩ := (show dkd kvs = true ∧ keyOk q = true ∧ scalar r = true ∧ (∀ z H', Made X.K F H (.d ((dgetK kvs q).getD r)) z H' → Q z H') from h)
          obtain ⟨a, rfl, o, es, g1, g2, rfl⟩ := dv_dct hs h1 hp
          obtain ⟨k1, _, ks, rfl⟩ := keyOk_kd h2
          have hx : KD X.K F y (.tuple ks) := dd_kd _ _ hq k1
          have hE := (dct_rd I g1 (fun y hy => kd_mono hs _ _ (g2 y hy))).2.1
          have hr' : DD X.K F z r := by cases r <;> first | exact hr | cases h0
          obtain ⟨rfl, _⟩ := dd_sc hr' h0
          have hx' := hx
          cases hx' with
          | tup _ _ =>
            cases rs with
            | cons ru rs =>
              cases rs with
              | cons rz rs =>
                cases rs
                cases rx
                cases ru
                refine n_get2 (y := scV r) hu I g1 (fun y hy => kd_mono hs _ _ (g2 y hy)) (kd_mono hs _ _ hx) h2 rz fun u' s' I' r' => ⟨_, H, I', r', h3 _ _ (made_now ?_ hs)⟩
                cases e : dgetK (kvsOf es) (.tuple ks) with
                | none => exact sc_dd h0
                | some w =>
                    refine dget_sc e fun p hp => ?_
                    obtain ⟨e, he, rfl⟩ := List.mem_map.mp hp
                    exact (hE.2.2.2.2.2 e he).2
/-! ### == {} and != {} -/
theorem n_same {prog : Program} {w : World} {A : Around} {E : Value → Shared → Prop} {nm : String} {a b : Addr} {ya : List (NestedKey × Addr × Value)} {Q : Bool → Shared → Prop} (ha : (a == sysModules) = false) (hb : (b == sysModules) = false)
    (da : s.heap.DictOfH (nestedKind prog w) a ya) (db : s.heap.DictOfH (nestedKind prog w) b []) (h : Q ya.isEmpty s) : wpAny (model prog w) A (Builtin.Dict.samePairs nm a b) Q E s := by
  obtain ⟨oa, es, ep, hoa, _, hda, hka, _, _⟩ := da
  obtain ⟨ob, es', ep', hob, _, hdb, hkb, _, _⟩ := db
  have hla : es.size = ya.length := by rw [← Array.length_toList, hka, List.length_map]
  have hlb : es'.size = 0 := by rw [← Array.length_toList, hkb]; rfl
  unfold Builtin.Dict.samePairs Builtin.Dict.showsAll
  rw [if_neg (show ¬ (a == sysModules) = true by rw [ha]; exact Bool.false_ne_true), if_neg (show ¬ (b == sysModules) = true by rw [hb]; exact Bool.false_ne_true)]
  refine wpAny_bind (wpAny_pure (wpAny_bind (wpAny_pure ?_)))
  refine wpAny_bind (wpAny_dictEntries hoa hda ?_)
  dsimp only
  refine wpAny_bind (wpAny_dictEntries hob hdb ?_)
  cases ya with
  | cons y ys =>
    have hsz : ¬ es.size = es'.size := by rw [hla, hlb]; simp
    rw [if_pos (by simpa using hsz)]
    exact wpAny_bind (wpAny_rule (wpAny_pure h))
  | nil =>
    have hsz : es.size = es'.size := by rw [hla, hlb]; rfl
    have h0 : es.size = 0 := hla
    rw [if_neg (by rw [hsz]; simp)]
    refine wpAny_bind (wpAny_dictEpoch hoa hda ?_)
    refine wpAny_bind ?_
    rw [Std.Legacy.Range.forIn_eq_forIn_range']
    simp only [Std.Legacy.Range.size, Nat.sub_zero, Nat.add_sub_cancel, Nat.div_one, h0]
    exact wpAny_pure (wpAny_pure h)
theorem n_eq {prog : Program} {w : World} {A : Around} {E : Value → Shared → Prop} {a b : Addr} {ya : List (NestedKey × Addr × Value)} {Q : Value → Shared → Prop} (hu : A.units < cLine) (ha : (a == sysModules) = false) (hb : (b == sysModules) = false)
    (da : s.heap.DictOfH (nestedKind prog w) a ya) (db : s.heap.DictOfH (nestedKind prog w) b []) (h : Q (.bool ya.isEmpty) s) : wpAny (model prog w) A (compareOp .Eq (.ref a) (.ref b)) Q E s := by
  refine wpAny_richCompare_same_room (op := .Eq) da.typeIs db.typeIs PySem.F.slot_dict_eq (wpAny_call_entry PySem.F.slot_dict_eq da.typeIs PySem.F.entry_dict_eq ?_ (PySem.F.args_dict_eq_2 _ _)) hu
  show wpAny _ _ (Builtin.Dict.dictSlotArgs "__eq__" ⟨[.ref a, .ref b], []⟩ >>= _) _ _ s
  refine wpAny_bind ?_
  unfold Builtin.Dict.dictSlotArgs
  refine wpAny_bind (wpAny_notOrdered_dict da.typeIs ?_)
  show wpAny _ _ (pure (Value.ref a, Value.ref b)) _ _ s
  refine wpAny_pure ?_
  refine wpAny_bind (wpAny_isInstance (T := "dict") db.typeIs PySem.F.sub_dict_dict ?_)
  simp only [Bool.not_true, Bool.false_eq_true, if_false]
  refine wpAny_bind (wpAny_pure (wpAny_bind (wpAny_pure ?_)))
  refine wpAny_bind (n_same ha hb da db ?_)
  refine wpAny_pure ⟨_, rfl, ?_, ?_⟩
  · exact fun x => nomatch x
  · simpa using h
theorem n_ne {prog : Program} {w : World} {A : Around} {E : Value → Shared → Prop} {a b : Addr} {ya : List (NestedKey × Addr × Value)} {Q : Value → Shared → Prop} (hu : A.units < cLine) (ha : (a == sysModules) = false) (hb : (b == sysModules) = false)
    (da : s.heap.DictOfH (nestedKind prog w) a ya) (db : s.heap.DictOfH (nestedKind prog w) b []) (h : Q (.bool (!ya.isEmpty)) s) : wpAny (model prog w) A (compareOp .NotEq (.ref a) (.ref b)) Q E s := by
  refine wpAny_richCompare_same_room (op := .NotEq) da.typeIs db.typeIs PySem.F.slot_dict_ne (wpAny_call_entry PySem.F.slot_dict_ne da.typeIs PySem.F.entry_dict_ne ?_ (PySem.F.args_dict_ne_2 _ _)) hu
  show wpAny _ _ (Builtin.Dict.dictSlotArgs "__ne__" ⟨[.ref a, .ref b], []⟩ >>= _) _ _ s
  refine wpAny_bind ?_
  unfold Builtin.Dict.dictSlotArgs
  refine wpAny_bind (wpAny_notOrdered_dict da.typeIs ?_)
  show wpAny _ _ (pure (Value.ref a, Value.ref b)) _ _ s
  refine wpAny_pure ?_
  refine wpAny_bind (wpAny_isInstance (T := "dict") db.typeIs PySem.F.sub_dict_dict ?_)
  simp only [Bool.not_true, Bool.false_eq_true, if_false]
  refine wpAny_bind (wpAny_pure (wpAny_bind (wpAny_pure ?_)))
  refine wpAny_bind (n_same ha hb da db ?_)
  refine wpAny_pure ⟨_, rfl, ?_, ?_⟩
  · exact fun x => nomatch x
  · simpa using h
theorem paired_empty {α β : Type} {G : α → β → Prop} {l₁ : List α} {l₂ : List β} (h : Paired G l₁ l₂) : l₂.isEmpty = l₁.isEmpty := by
  cases h <;> rfl
/-- the right operand: an empty dict just made -/
def rE (K : PySem.W.Frag) (f : PF) (x y : V) (H : Hp) (Q : VK) : Prop := ∃ p o, y = .ref p ∧ H p = some (DctO p o []) ∧ rP K f [x] H Q
theorem c_eqE (hu : X.A.units + 65 < cLine) : OpR X (compareOp .Eq) (rE X.K .eqE) := by
  intro pins s σ H x y v u Q I rx ry h
  obtain ⟨p, o, rfl, hp, F, ds, hs, hd, h⟩ := h
  obtain ⟨d, rfl, hx⟩ := dvs1 hd
  cases d <;> try exact False.elim h
  case dict kvs =>
    obtain ⟨h1, h2⟩ := (show dkd kvs = true ∧ (∀ z H', Made X.K F H (.d (.bool kvs.isEmpty)) z H' → Q z H') from h)
    obtain ⟨a, rfl, oa, xs, g1, g2, rfl⟩ := dv_dct hs h1 hx
    cases rx
    cases ry
    obtain ⟨_, hE, ys, hpd, dd⟩ := dct_rd I g1 (fun y hy => kd_mono hs _ _ (g2 y hy))
    obtain ⟨_, hE2, zs, hpz, dz⟩ := dct_rd I hp (fun y hy => by cases hy)
    cases hpz
    refine n_eq (by omega) hE.1 hE2.1 dd dz ⟨.bl _, H, I, rfl, ?_⟩
    rw [paired_empty hpd]
    have := h2 _ _ (mk_bl hs)
    simpa [kvsOf] using this
theorem c_neE (hu : X.A.units + 65 < cLine) : OpR X (compareOp .NotEq) (rE X.K .neE) := by
  intro pins s σ H x y v u Q I rx ry h
  obtain ⟨p, o, rfl, hp, F, ds, hs, hd, h⟩ := h
  obtain ⟨d, rfl, hx⟩ := dvs1 hd
  cases d <;> try exact False.elim h
  case dict kvs =>
    obtain ⟨h1, h2⟩ := (show dkd kvs = true ∧ (∀ z H', Made X.K F H (.d (.bool (!kvs.isEmpty))) z H' → Q z H') from h)
    obtain ⟨a, rfl, oa, xs, g1, g2, rfl⟩ := dv_dct hs h1 hx
    cases rx
    cases ry
    obtain ⟨_, hE, ys, hpd, dd⟩ := dct_rd I g1 (fun y hy => kd_mono hs _ _ (g2 y hy))
    obtain ⟨_, hE2, zs, hpz, dz⟩ := dct_rd I hp (fun y hy => by cases hy)
    cases hpz
    refine n_ne (by omega) hE.1 hE2.1 dd dz ⟨.bl _, H, I, rfl, ?_⟩
    rw [paired_empty hpd]
    have := h2 _ _ (mk_bl hs)
    simpa [kvsOf] using this
/-! ### displays -/
def tDct0 : TE := fun _ H Q => ∀ p o, H p = none → Q (.ref p) (upd H p (DctO p o []))
theorem pe_dct0 {pos : Pos} : PE X (.Dict [] [] pos) tDct0 := ⟨fun pins s σ H Q I h =>
  wpAny_Dict_empty ⟨.ref s.heap.objs.size, _, I.laid (a := s.heap.objs.size) (o := DctO s.heap.objs.size _ []) (t' := s.toks) (fun _ _ q => Heap.get?_push_of_some _ q) (Nat.le_refl _) (dct_new (Heap.get?_push_size _ rfl) (empty_ent I.big)), rfl, h _ _ (I.hok.fresh (Nat.le_refl _))⟩⟩
def tDct1 (K : PySem.W.Frag) (tk tv : TE) : TE := fun σ H Q => ∀ p o, H p = none → tk σ (upd H p (DctO p o [])) fun x H1 => tv σ H1 fun y H2 => ∃ o2 b k d, H2 p = some (DctO p o2 []) ∧ x = .ref b ∧ KD K H2 x k ∧ keyOk k = true ∧ scalar d = true ∧ y = scV d ∧
  ∀ o', Q (.ref p) (upd H2 p (DctO p o' [(k, b, d)]))
theorem pe_dct1 {k v : Expr} {pos : Pos} {tk tv : TE} (hu : X.A.units + 65 < cLine) (hk : PE X k tk) (hv : PE X v tv) : PE X (.Dict [some k] [v] pos) (tDct1 X.K tk tv) := by
  refine ⟨fun pins s σ H Q I q => ?_⟩
  have hn := I.hok.fresh (Nat.le_refl s.heap.objs.size)
  have I1 := I.laid (a := s.heap.objs.size) (o := DctO s.heap.objs.size _ []) (h' := s.heap.push { cls := .type "dict", data := .dict #[] }) (t' := s.toks) (fun _ _ q => Heap.get?_push_of_some _ q) (Nat.le_refl _) (dct_new (Heap.get?_push_size _ rfl) (empty_ent I.big))
  rw [arm_eval_Dict, zip_pairTrees [some k] [v] X.env pos rfl rfl, dictDisplay_pairs (pairTrees [some k] [v] X.env pos) (by simp [pairTrees]) (by simp [pairTrees])]
  refine wpAny_bind (wpAny_standAt (wpAny_bind (wpAny_subDictH (knd := nestedKind X.prog X.w) (by show X.A.units + 8 < cLine; omega) (by simp [pairTrees]) ?_)))
  refine pairTrees_cons_walk (thn (hk.run pins _ σ _ _ I1 (q _ _ hn)) fun u s1 ⟨x, H1, I2, rx, q1⟩ => thn (hv.run pins s1 σ H1 _ I2 q1) fun w2 s2 ⟨y, H2, I3, ry, o2, b, kk, d, e, ex, k1, k2, k3, ey, q2⟩ => pairTrees_nil_walk ?_)
  subst ex
  subst ey
  cases rx
  obtain ⟨_, hE, zs, hpz, dz⟩ := dct_rd I3 e (fun y hy => by cases hy)
  cases hpz
  refine ⟨[(nk kk, b, w2)], ⟨rfl, rfl, key_is I3 k1 k2, trivial⟩, dz, fun h' tk dk sb => wpAny_pure ?_⟩
  obtain ⟨o', g1, g2⟩ := ent_of (xs := [(kk, b, d)]) (ys := [(nk kk, b, w2)]) hE.1 (by show 1 ≤ sizeLine; decide) (.cons ⟨rfl, rfl, ry⟩ .nil) (by simp) (by simp [k2, k3]) dk
  exact ⟨.ref s.heap.objs.size, _, d_write I3 (by rw [e]; exact True.intro) sb ⟨o', g1⟩ (dct_new g1 g2), rfl, q2 o'⟩
/-! ### d[k] = v, d.update(e) -/
def rSetN (K : PySem.W.Frag) : V → V → V → Hp → (Hp → Prop) → Prop := fun x i v H Q => ∃ a o xs b k d, x = .ref a ∧ H a = some (DctO a o xs) ∧ (∀ y ∈ xs, KD K H (.ref y.2.1) y.1) ∧ i = .ref b ∧ KD K H i k ∧ keyOk k = true ∧ scalar d = true ∧ v = scV d ∧
  xs.length < sizeLine ∧ ∀ o', Q (upd H a (DctO a o' (xput xs k b d)))
theorem set_dct (hu : X.A.units + 65 < cLine) : PSet X (rSetN X.K) := by
  intro pins s σ H x i v ov iv u Q I ro ri rv h
  obtain ⟨a, o, xs, b, k, d, rfl, e, hk, rfl, kk, ko, vo, rfl, hz, q⟩ := h
  cases ro
  cases ri
  exact n_set hu I e hk kk ko vo rv hz fun o' s' I' => ⟨_, I', q o'⟩
def xmerge (xs ys : List Ent3) : List Ent3 := ys.foldl (fun acc y => xput acc y.1 y.2.1 y.2.2) xs
theorem xmerge_kvs : ∀ (ys xs : List Ent3), kvsOf (xmerge xs ys) = mergeD (kvsOf xs) (kvsOf ys)
  | [], _ => rfl
  | y :: ys, xs => by
    show kvsOf (xmerge (xput xs y.1 y.2.1 y.2.2) ys) = mergeD (dputK (kvsOf xs) y.1 y.2.2) (kvsOf ys)
    rw [xmerge_kvs ys, xput_kvs]
theorem xmerge_len : ∀ (ys xs : List Ent3), (xmerge xs ys).length ≤ xs.length + ys.length
  | [], _ => Nat.le_refl _
  | y :: ys, xs => by
    have h1 := xmerge_len ys (xput xs y.1 y.2.1 y.2.2)
    have h2 := xput_len (xs := xs) y.1 y.2.1 y.2.2
    show (xmerge (xput xs y.1 y.2.1 y.2.2) ys).length ≤ _
    rw [List.length_cons]
    omega
theorem xmerge_ok : ∀ (ys : List Ent3) (zs : List (NestedKey × Addr × Value)) (xs : List Ent3) (ws : List (NestedKey × Addr × Value)), Paired EP3 ys zs → Paired EP3 xs ws → (xs.map fun x => nk x.1).Nodup →
    Paired EP3 (xmerge xs ys) (storedAllH ws zs) ∧ ((xmerge xs ys).map fun x => nk x.1).Nodup := by
  intro ys zs xs ws h
  induction h generalizing xs ws with
  | nil => exact fun h2 h3 => ⟨h2, h3⟩
  | @cons p q ps qs r t ih =>
    intro h2 h3
    have h4 : Paired EP3 (xput xs p.1 p.2.1 p.2.2) (storedH ws q.1 q.2.1 q.2.2) := by
      rw [r.1, r.2.1]
      exact xput_paired h2 r.2.2
    exact ih _ _ h4 (xput_nodup h3)
theorem xput_all {P : Ent3 → Prop} {xs : List Ent3} {k : PyData} {a : Addr} {v : PyData} (h1 : ∀ x ∈ xs, P x) (h2 : P (k, a, v)) (h3 : ∀ x, P x → P (x.1, x.2.1, v)) : ∀ y ∈ xput xs k a v, P y := by
  intro y hy
  unfold xput at hy
  split at hy
  · obtain ⟨x, hx, rfl⟩ := List.mem_map.mp hy
    split
    · exact h3 x (h1 x hx)
    · exact h1 x hx
  · rcases List.mem_append.mp hy with hy | hy
    · exact h1 y hy
    · rw [List.mem_singleton.mp hy]
      exact h2
theorem xmerge_all {P : Ent3 → Prop} (h3 : ∀ x y : Ent3, P x → P y → P (x.1, x.2.1, y.2.2)) : ∀ (ys xs : List Ent3), (∀ x ∈ xs, P x) → (∀ y ∈ ys, P y) → ∀ z ∈ xmerge xs ys, P z
  | [], _, h1, _ => h1
  | y :: ys, xs, h1, h2 => xmerge_all h3 ys _ (xput_all h1 (h2 y List.mem_cons_self) fun x hx => h3 x y hx (h2 y List.mem_cons_self)) fun z hz => h2 z (List.mem_cons_of_mem _ hz)
def rUpd (K : PySem.W.Frag) (x : V) (vs : List V) (H : Hp) (Q : VK) : Prop := ∃ a o xs b p ys, x = .ref a ∧ vs = [.ref b] ∧ H a = some (DctO a o xs) ∧ (∀ y ∈ xs, KD K H (.ref y.2.1) y.1) ∧ H b = some (DctO b p ys) ∧ (∀ y ∈ ys, KD K H (.ref y.2.1) y.1) ∧
  a ≠ b ∧ xs ≠ [] ∧ xs.length + ys.length ≤ sizeLine ∧ ∀ o', Q .non (upd H a (DctO a o' (xmerge xs ys)))
theorem m_upd (hu : X.A.units + 65 < cLine) : MtR X "dict.update" (rUpd X.K) := by
  intro pins s σ H x vs v us Q I rx rs h
  obtain ⟨a, o, xs, b, p, ys, rfl, rfl, e1, k1, e2, k2, hne, hnil, hz, q⟩ := h
  obtain ⟨u, rfl, ru⟩ := vals1 rs
  cases rx
  cases ru
  obtain ⟨_, hE, ws, hp, dd⟩ := dct_rd I e1 k1
  obtain ⟨_, hE2, zs, hp2, dz⟩ := dct_rd I e2 k2
  have hl1 := Paired.length hp
  have hl2 := Paired.length hp2
  refine call_update_dictH (room_n hu) hne hE2.1 dd dz (.inl fun e => ?_) (by omega) fun h' hd' ho' hs => ?_
  · subst e
    cases hp
    exact hnil rfl
  · obtain ⟨g1, g2⟩ := xmerge_ok ys zs xs ws hp2 hp hE.2.2.2.2.1
    obtain ⟨o', f1, f2⟩ := ent_of (xs := xmerge xs ys) hE.1 (Nat.le_trans (xmerge_len ys xs) hz) g1 g2 (xmerge_all (P := fun x => keyOk x.1 = true ∧ scalar x.2.2 = true) (fun x y hx hy => ⟨hx.1, hy.2⟩) ys xs hE.2.2.2.2.2 hE2.2.2.2.2.2) hd'
    exact ⟨.non, _, d_write (t' := s.toks) I (by rw [e1]; exact True.intro) hs ⟨o', f1⟩ (dct_new f1 f2), rfl, q o'⟩
/-- a dict's method -/
def tBMN (K : PySem.W.Frag) (r : V → List V → Hp → VK → Prop) (to : TE) (t : TA) : TE := fun σ H Q => to σ H fun x H1 => (∃ a F kvs, x = .ref a ∧ Same F H1 ∧ DctA K F H1 a kvs) ∧ t σ H1 fun xs H2 => r x xs H2 Q
theorem pe_bmN {o e : Expr} {es : List Expr} {to : TE} {t : TA} {name : Str} {apos cpos : Pos} {id : String} {r : V → List V → Hp → VK → Prop} (slot : Slot "dict" name id) (hty : typeOf (.builtin id) = pure (.type "method_descriptor")) (hm : MtR X id r) (ho : PE X o to) (ha : PA X (e :: es) t)
    (hbase : attributeBase o name X.env (eval o X.env) = eval o X.env)
    (hfew : ((backTo cpos (starEach (e :: es) X.env)).all (fun x => !x.1) && (backToKw cpos (keywordEach [] X.env)).all (fun x => x.1.isSome)
      && decide ((e :: es).length + ([] : List Keyword).length + (if ([] : List Keyword).isEmpty then 0 else 1) < 30)) = true)
    (hline : (apos.endLine == cpos.line) = true) (hs : starEach (e :: es) X.env = (false, eval e X.env) :: starEach es X.env) (hplain : (backTo cpos (starEach es X.env)).any (·.1) = false) :
    PE X (.Call (.Attribute o name apos) (e :: es) [] cpos) (tBMN X.K r to t) := by
  refine ⟨fun pins s σ H Q I h => ?_⟩
  refine wpAny_Call_method_late hbase hfew hline rfl (thn (ho.run pins s σ H _ I h) fun v s1 ⟨x, H1, I1, r1, ⟨a, F, kvs, hx, hs1, hd⟩, q1⟩ => ?_)
  subst hx
  cases r1
  obtain ⟨h1, h2⟩ := dct_at I1 (hd.keys hs1)
  refine ⟨"dict", id, PySem.F.plainAttrs_dict, slot, hty, h1, h2, ?_⟩
  have hA := ha.run cpos pins s1 σ H1 _ I1 q1
  rw [hs] at hA ⊢
  refine Calls.callWith_builtin (by show (false || (backTo cpos (starEach es X.env)).any (·.1)) = false; rw [hplain] <;> rfl) (Calls.evalArgs_plain ?_)
  exact thn hA fun us s2 ⟨vs, H2, I2, r2, q2⟩ => hm pins s2 σ H2 (.ref a) vs (.ref a) us Q I2 rfl r2 q2
/-! ### walks -/
theorem ent_get (w : World) {o : Obj} {d : Addr} {xs : List Ent3} {es : Array DictEntry} {ep i : Nat} {x : Ent3} (hE : EntO d o xs) (hd : o.data = .dict es ep) (hx : xs[i]? = some x) : ∃ en, es[i]? = some en ∧ en.key = .ref x.2.1 ∧ RelV (scV x.2.2) en.val := by
  obtain ⟨_, _, _, ⟨es', ep', hd', ys, hp, hw⟩, _, _⟩ := hE
  rw [hd] at hd'
  cases hd'
  obtain ⟨y, hy, q1, q2, q3⟩ := paired_get hp hx
  refine ⟨entW w y, ?_, by rw [← q2]; rfl, q3⟩
  rw [← Array.getElem?_toList, hw w, List.getElem?_map, hy]
  rfl
theorem ent_size (w : World) {o : Obj} {d : Addr} {xs : List Ent3} {es : Array DictEntry} {ep : Nat} (hE : EntO d o xs) (hd : o.data = .dict es ep) : es.size = xs.length := by
  obtain ⟨_, _, _, ⟨es', ep', hd', ys, hp, hw⟩, _, _⟩ := hE
  rw [hd] at hd'
  cases hd'
  rw [← Array.length_toList, hw w, List.length_map]
  exact (Paired.length hp).symm
theorem dct_ob (I : Inv X pins σ H s) {d : Addr} {o : Obj} {xs : List Ent3} (e : H d = some (DctO d o xs)) : s.heap.get? d = some o ∧ EntO d o xs := by
  obtain ⟨h, _, _⟩ := (show ObjOk X.prog X.w H s.heap d (DctO d o xs) from I.hok d _ e)
  exact h
def ItkN (d : Addr) (o : Obj) (xs : List Ent3) : It :=
  ⟨fun i H => H d = some (DctO d o xs) ∧ i < xs.length, fun i H x H' => H' = H ∧ ∃ y, xs[i]? = some y ∧ x = .ref y.2.1, fun i H => H d = some (DctO d o xs) ∧ xs.length ≤ i⟩
def ItiN (d : Addr) (o : Obj) (xs : List Ent3) : It :=
  ⟨fun i H => H d = some (DctO d o xs) ∧ i < xs.length, fun i H x H' => ∃ T y, xs[i]? = some y ∧ x = .ref T ∧ H T = none ∧ H' = upd H T (.tup [.ref y.2.1, scV y.2.2]), fun i H => H d = some (DctO d o xs) ∧ xs.length ≤ i⟩
theorem turn_keysN {P : Program} {w : World} {K : PySem.W.Frag} {tg : Expr} {d : Addr} {o : Obj} {es : Array DictEntry} {ep : Nat} {xs : List Ent3} (it : Addr) (hod : o.data = .dict es ep) : Turn P w K tg (ItkN d o xs) [it] it (fun i h => h.IsKeyIter it d i xs.length ep) where
  mem := by simp
  obj := fun i h st b hb => by
    have e : b = it := by simpa using hb
    subst e
    obtain ⟨oi, e, c, dd⟩ := st
    exact ⟨oi, e, fun v z => by rw [dd] at z; cases z⟩
  keep := fun i h h' st k => st.at fun oi e => k it (by simp) oi e
  item := by
    intro X hP hw hK hc i pins s σ H E I hf st hg
    subst hP hw hK
    obtain ⟨hd, hi⟩ := hg
    obtain ⟨f0, f1, f2, f3, f4, f5⟩ := hf it (by simp)
    obtain ⟨hgd, hE⟩ := dct_ob I hd
    have hsz := ent_size X.w hE hod
    obtain ⟨x, hx⟩ : ∃ p, xs[i]? = some p := ⟨xs[i], List.getElem?_eq_getElem hi⟩
    obtain ⟨en, hen, hkey, _⟩ := ent_get X.w hE hod hx
    refine next_key_item st hgd hod hsz hen fun h' st' sb => ?_
    have I1 : Inv X pins σ H { s with heap := h' } := I.turned (t' := s.toks) (fun b ob hb e => (sb.2 b hb).trans e) f0 f1 f3 f4 f5
    obtain ⟨oi, e, c, dd⟩ := id st'
    exact ⟨en.key, rfl, go_of (s := { s with heap := h' }) e c dd (by decide) ⟨.ref x.2.1, H, I1, hkey, ⟨rfl, x, hx, rfl⟩, st', fun b hb => (hf b hb).1⟩⟩
  done := by
    intro X hP hw hK hc i pins s σ H E I hf st hg
    subst hP hw hK
    obtain ⟨hd, hi⟩ := hg
    obtain ⟨f0, f1, f2, f3, f4, f5⟩ := hf it (by simp)
    obtain ⟨hgd, hE⟩ := dct_ob I hd
    exact next_key_end (I.ok.hd hc) st hgd hod (ent_size X.w hE hod) hi fun h' eb => ⟨rfl, I.turned (t' := s.toks) (fun b ob hb e => eb b ob hb e) f0 f1 f3 f4 f5⟩
  self := fun A i s Q E st h => by
    refine wpAny_pyIter_slot st.typeIs PySem.F.slot_dict_keyiterator_iter (wpAny_call_entry PySem.F.slot_dict_keyiterator_iter st.typeIs PySem.F.entry_dict_keyiterator_iter ?_ (PySem.F.args_dict_keyiterator_iter_1 _))
    show wpAny _ _ (ret (.ref it)) _ _ s
    exact wpAny_pure ⟨_, rfl, "dict_keyiterator", _, st.typeIs, PySem.F.slot_dict_keyiterator_next.lookup, h⟩
theorem turn_itemsN {P : Program} {w : World} {K : PySem.W.Frag} {d : Addr} {o : Obj} {es : Array DictEntry} {ep : Nat} {xs : List Ent3} {elts : List Expr} {kk : Nat} {tpos : Pos} (it : Addr) (hod : o.data = .dict es ep) :
    Turn P w K (.Tuple elts kk tpos) (ItiN d o xs) [it] it (fun i h => ∃ ok ov, IsItemIter h it d i xs.length ep ok ov) where
  mem := by simp
  obj := fun i h st b hb => by
    have e : b = it := by simpa using hb
    subst e
    obtain ⟨ok, ov, e⟩ := st
    exact ⟨_, e, fun v z => nomatch z⟩
  keep := fun i h h' st k => let ⟨ok, ov, e⟩ := st; ⟨ok, ov, k it (by simp) _ e⟩
  item := by
    intro X hP hw hK hc i pins s σ H E I hf st hg
    subst hP hw hK
    obtain ⟨hd, hi⟩ := hg
    obtain ⟨hgd, hE⟩ := dct_ob I hd
    have hsz := ent_size X.w hE hod
    obtain ⟨x, hx⟩ : ∃ p, xs[i]? = some p := ⟨xs[i], List.getElem?_eq_getElem hi⟩
    obtain ⟨en, hen, hkey, hval⟩ := ent_get X.w hE hod hx
    obtain ⟨ok, ov, he⟩ := st
    rw [← hsz] at he
    have hlt : it < s.heap.objs.size := Heap.lt_size he
    have hi2 : i < es.size := by omega
    have e1 : es[i] = en := by
      rw [Array.getElem?_eq_getElem hi2] at hen
      exact Option.some.inj hen
    refine wpAny_pyNext_items_item_raw he ⟨o, hgd, hE.2.2.1, hod⟩ hi2 fun h' ho hT hz hk => ?_
    refine ⟨_, rfl, wpAny_letOwnedTupleGo_items (s := { s with heap := h' }) ho fun h'' he' sb => ?_⟩
    rw [e1] at hT
    have hT2 : h''.get? s.heap.objs.size = some { cls := .type "tuple", data := .seq #[en.key, en.val] } := (sb.2 _ (Nat.ne_of_gt hlt)).trans hT
    have new : ObjOk X.prog X.w (upd H s.heap.objs.size (.tup [.ref x.2.1, scV x.2.2])) h'' s.heap.objs.size (.tup [.ref x.2.1, scV x.2.2]) :=
      ⟨by show 2 ≤ sizeLine; decide, [en.key, en.val], .cons hkey (.cons hval .nil), ⟨_, hT2, rfl, _, rfl⟩⟩
    have I1 : Inv X pins σ (upd H s.heap.objs.size (.tup [.ref x.2.1, scV x.2.2])) { s with heap := h'' } :=
      I.turnedNew (t' := s.toks) (ch := [it]) (fun b ob hb e => (sb.2 b (by simpa using hb)).trans (hk b ob (by simpa using hb) e)) hf (Nat.le_refl _) new
    refine ⟨.ref s.heap.objs.size, _, I1, rfl, ⟨_, x, hx, rfl, I.hok.fresh (Nat.le_refl _), rfl⟩, ⟨es[i].key, es[i].val, by rw [← hsz]; exact he'⟩, fun b hb => ?_⟩
    · have e : b = it := by simpa using hb
      rw [e, upd_ne (Nat.ne_of_lt hlt)]
      exact (hf it (by simp)).1
  done := by
    intro X hP hw hK hc i pins s σ H E I hf st hg
    subst hP hw hK
    obtain ⟨hd, hi⟩ := hg
    obtain ⟨f0, f1, f2, f3, f4, f5⟩ := hf it (by simp)
    obtain ⟨hgd, hE⟩ := dct_ob I hd
    have hsz := ent_size X.w hE hod
    obtain ⟨ok, ov, he⟩ := st
    rw [← hsz] at he
    exact wpAny_pyNext_items_end_raw (I.ok.hd hc) he ⟨o, hgd, hE.2.2.1, hod⟩ (by omega) fun h' eb => ⟨rfl, I.turned (t' := s.toks) (fun b ob hb e => eb b ob hb e) f0 f1 f3 f4 f5⟩
  self := fun A i s Q E st h => let ⟨_, _, e⟩ := st; PySem.W.kcp_self e h
/-- an iterator over the dict's keys -/
theorem key_iter (I : Inv X pins σ H s) {d : Addr} {o : Obj} {xs : List Ent3} {tg : Expr} {R : It → Hp → Prop} (e : H d = some (DctO d o xs)) (q : R (ItkN d o xs) H) : wpAny (model X.prog X.w) X.A (pyIter (.ref d)) (PIE X pins σ tg R) X.xe s := by
  obtain ⟨hg, hE⟩ := dct_ob I e
  obtain ⟨es, ep, hd, _⟩ := hE.2.2.2.1
  refine iter_keys hE.1 hg hE.2.2.1 hd (pi_one (tk := s.toks) I _ (turn_keysN _ hd) ⟨_, Heap.get?_push_size _ rfl, rfl, ?_⟩ q)
  rw [ent_size X.w hE hd] <;> rfl
def iItemsN (td : TE) : TI := fun σ H R => td σ H fun x H1 => ∃ d o xs, x = .ref d ∧ H1 d = some (DctO d o xs) ∧ ((∀ x ∈ xs, scalar x.2.2 = true) → R (ItiN d o xs) H1)
theorem pi_itemsN {e : Expr} {td : TE} {apos cpos tpos : Pos} {elts : List Expr} {kk : Nat} (he : PE X e td) (hbase : attributeBase e "items" X.env (eval e X.env) = eval e X.env) (hline : (apos.endLine == cpos.line) = true) :
    PI X (.Tuple elts kk tpos) (.Call (.Attribute e "items" apos) [] [] cpos) (iItemsN td) := by
  refine ⟨fun pins s σ H R I h => ?_⟩
  refine wpAny_Call_method (T := "dict") (id := "dict.items") hbase rfl hline PySem.F.plainAttrs_dict PySem.F.slot_dict_items PySem.F.type_dict_items (thn (he.run pins s σ H _ I h) fun u s1 ⟨x, H1, I1, rx, d, o, xs, ex, hd, q⟩ => ?_)
  subst ex
  obtain rfl : u = Value.ref d := rx
  obtain ⟨hg, hE⟩ := dct_ob I1 hd
  obtain ⟨es, ep, hdt, _⟩ := hE.2.2.2.1
  have hsz := ent_size X.w hE hdt
  refine ⟨⟨o, hg, hE.2.2.1.1⟩, fun b q => ?_, ?_⟩
  · cases q
    exact ⟨o, hg, hE.2.2.1.2.1⟩
  have raw : s1.heap.DictRaw d es ep := ⟨o, hg, hE.2.2.1, hdt⟩
  have I2 : Inv X pins σ H1 { s1 with heap := s1.heap.push { cls := .type "dict_items", data := .fields #[.ref d] } } := I1.kept (t' := s1.toks) fun b ob q => Heap.get?_push_of_some _ q
  have fin : wpAny (model X.prog X.w) X.A (pyIter (.ref s1.heap.objs.size)) (PIE X pins σ (.Tuple elts kk tpos) R) X.xe { s1 with heap := s1.heap.push { cls := .type "dict_items", data := .fields #[.ref d] } } := by
    refine wpAny_pyIter_items_raw (d := d) ⟨_, Heap.get?_push_size _ rfl, rfl, rfl⟩ (raw.at fun o q => Heap.get?_push_of_some _ q) (pi_one (tk := s1.toks) I2 _ (turn_itemsN _ hdt) ⟨.none, .none, ?_⟩ (q fun x hx => (hE.2.2.2.2.2 x hx).2))
    rw [← hsz]
    exact Heap.get?_push_size _ rfl
  show wpAny _ _ (callWith cpos (.builtin "dict.items") [.ref d] [] []) _ X.xe s1
  exact method_meetsIn PySem.F.slot_dict_items PySem.F.entry_dict_items rfl (PySem.evalArgs_none ⟨rfl, ⟨o, hg, hE.2.2.1.1⟩, PySem.F.args_dict_items_1 _, _, meets_dict_items_raw d hE.1, ⟨⟨es, ep, raw⟩, fin⟩⟩)
end
end FX
set_option maxHeartbeats 2000000
namespace FX
variable [Wc]
open PySem PySem.Spec PyProof.Rows L2

/-- a def's promise where no repr runs around the call -/
structure FnG (P : Program) (w : World) (K : PySem.W.Frag) (mg : Str → Option Value) (base : Heap) (k : Nat) (f : Addr) (fd : FuncData) (ps : List Str) (sp : Sp) : Prop where
  len : ∀ vs H Q E, sp vs H Q E → vs.length = ps.length
  run : ∀ (A : Around) (outer : List Env) (s : Shared) (H : Hp) (args : Args) (us : List Value) (vs : List V) (Q : VK) (E : XK),
    Room k A → A.guards = some [] → Env0 P w K mg base A outer s H → BindsTo s fd args (ps.zip us) → Vals vs us → sp vs H Q E →
    codeAny (model P w) A (.call (.ref f) args) (CR (L2.CX P w) outer P w H s Q E) s
theorem deeper_guards (A : Around) (e : Env) : (A.deeper e).guards = A.guards := by
  first
    | rfl
    | simp [Around.deeper]
section
variable {P : Program} {w : World} {K : PySem.W.Frag} {mg : Str → Option Value} {base : Heap}
theorem FnG.imp {k : Nat} {f : Addr} {fd : FuncData} {ps : List Str} {sp sp' : Sp} (F : FnG P w K mg base k f fd ps sp) (h : ∀ vs H Q E, sp' vs H Q E → sp vs H Q E) : FnG P w K mg base k f fd ps sp' where
  len := fun vs H Q E q => F.len vs H Q E (h _ _ _ _ q)
  run := fun A outer s H args us vs Q E hr hg he hb hv hs => F.run A outer s H args us vs Q E hr hg he hb hv (h _ _ _ _ hs)
theorem FnG.mono {j k : Nat} {f : Addr} {fd : FuncData} {ps : List Str} {sp : Sp} (F : FnG P w K mg base j f fd ps sp) (h : j ≤ k) : FnG P w K mg base k f fd ps sp where
  len := F.len
  run := fun A outer s H args us vs Q E hr hg he hb hv hs => F.run A outer s H args us vs Q E (hr.mono h) hg he hb hv hs
/-- a def by its body -/
theorem fnG_of {k : Nat} {x qual : Str} {st : Stmt} {f : Addr} {fd : FuncData} {N ps : List Str} {sp : Sp} (F : Fun K x qual st f fd) (S : FnScope N ps (defScope st))
    (len : ∀ vs H Q E, sp vs H Q E → vs.length = ps.length)
    (hbody : ∀ (cdv : Value) (A : Around) (outer : List Env) (s : Shared) (H : Hp) (vs : List V) (Q : VK) (E : XK),
      Room k (A.deeper (envOfC qual (defScope st) s.heap.objs.size f cdv)) → A.guards = some [] → sp vs H Q E →
      ∃ t, PSs (cxOf (L2.CX P w) P w K mg base N qual (defScope st) f cdv A outer s H E) (defBody st) t ∧ t { nx := fun _ H' => Q .non H', rt := Q } (start N vs) H) :
    FnG P w K mg base (k + 1) f fd ps sp := by
  obtain ⟨oc, od, kV, doc, pm, an, cdv, ct, osl, rfl, lk, hcd⟩ := F.ex
  constructor
  · exact len
  intro A outer s H args us vs Q E hr hg e0 hb r hsp
  have hl := len _ _ _ _ hsp
  have KX : K.In s.heap := e0.mod.kin.keeps fun b o e => (e0.bs b o e).1
  have lim : s.heap.NoLimit := e0.mod.nolimit.keeps fun b o e => (e0.bs b o e).1
  have vis : ∀ y ∈ ps.zip us, (defScope st).names.lookup y.1 = some .local ∨
      ((defScope st).names.lookup y.1 = some .cell ∧ ((cellsFrom (s.heap.objs.size + 1) (defScope st).names []).lookup y.1).isSome = true) := by
    rintro ⟨n, v⟩ hy
    refine (S.par n (List.of_mem_zip hy).1).imp id fun q => ⟨q, ?_⟩
    exact PySem.W.cellsFrom_some _ _ _ (.inl q)
  refine codeAny_call_function hr.depth (KX _ _ lk) rfl S.co S.gen rfl (PySem.W.codeRec_of KX hcd) (hb _ _ _ _ ?_)
  refine wpAny_newFunctionEnv_cells S.kind vis fun env he s1 x => ?_
  subst he
  refine ⟨lim.keeps x.toInCall.keep, codeAny_func ?_⟩
  obtain ⟨t, ht, hq⟩ := hbody cdv A outer s H vs Q E (hr.deeper _) hg hsp
  have I := inv_start (CX := L2.CX P w) (E := E) S hr.hd e0 hl r x
  refine wpAny_mono (ht.run [] s1 (start N vs) H _ I hq) (fun fl s' hs => ?_) fun e s' hs => hs
  cases fl with
  | ret u =>
    obtain ⟨v, σ', H', J, rv, q⟩ := hs
    exact ⟨v, H', J.os, J.bare, J.base, J.hok, rv, q⟩
  | next =>
    obtain ⟨σ', H', J, q⟩ := hs
    exact ⟨.non, H', J.os, J.bare, J.base, J.hok, rfl, q⟩
  | brk =>
    obtain ⟨_, _, _, q⟩ := hs
    exact q.elim
  | cont =>
    obtain ⟨_, _, _, q⟩ := hs
    exact q.elim
end
section
variable {X : Cx} {W : WX} {k : Nat} {f : Addr} {fd : FuncData} {ps : List Str} {sp : Sp} {x : Str} {p pos : Pos} {e : Expr} {es : List Expr} {t : TA}
theorem run_G {pins : List (Addr × Obj)} {σ : L2.St} {H : Hp} {s : Shared} {Q : VK} {us : List Value} {vs : List V} (F : FnG X.prog X.w X.K X.mg X.base k f fd ps sp) (hr : Room k X.A) (hg : X.A.guards = some []) (hb : Binds X.K fd ps [])
    (tk : Takes X W) (I : Inv X pins σ H s) (r : Vals vs us) (h : sp vs H Q (WE W σ)) : wpAny (model X.prog X.w) X.A (call (.ref f) us) (EP X pins σ Q) X.xe s := by
  have hl : us.length = ps.length := r.length.symm.trans (F.len _ _ _ _ h)
  have b := hb s us I.kIn (by simpa using hl)
  rw [List.append_nil] at b
  refine wpAny_call (codeAny_mono (F.run X.A X.stack s H ⟨us, []⟩ us vs Q (WE W σ) hr hg I.env0 b r h) fun res s' hq => ?_)
  rcases res with e | fl
  · exact passAt tk σ pins H s e s' I hq
  · rcases fl with _ | _ | _ | u
    all_goals first
      | exact I.after hq
      | exact False.elim hq
theorem pe_callG (F : FnG X.prog X.w X.K X.mg X.base k f fd ps sp) (hr : Room k X.A) (hgd : X.A.guards = some []) (hg : Gl X x) (hm : X.mg x = some (.ref f)) (hk : PySem.W.keepIn X.K (.ref f) = true) (hb : Binds X.K fd ps []) (tk : Takes X W)
    (ha : PA X (e :: es) t) (hdb : (x == ("__debug__" : Str)) = false) (he : starEach (e :: es) X.env = (false, eval e X.env) :: starEach es X.env) (hpl : (backTo pos (starEach es X.env)).any (·.1) = false) :
    PE X (.Call (.Name x p) (e :: es) [] pos) (tCallS sp (WE W) t) := by
  constructor
  intro pins s σ H Q I h
  refine wpAny_Call_Name_kw (ld_glob I hg hm ?_ hdb)
  refine PySem.W.callWith_K (h₀ := X.base) I.ok.mod.kin hk ?_ he hpl
  refine thn (ha.run pos pins s σ H _ I h) fun us s1 h1 => ?_
  obtain ⟨vs, H1, I1, r, q⟩ := h1
  exact ⟨I1.kIn, run_G F hr hgd hb tk I1 r q⟩
theorem pe_callG0 (F : FnG X.prog X.w X.K X.mg X.base k f fd ps sp) (hr : Room k X.A) (hgd : X.A.guards = some []) (hg : Gl X x) (hm : X.mg x = some (.ref f)) (hk : PySem.W.keepIn X.K (.ref f) = true) (hb : Binds X.K fd ps []) (tk : Takes X W)
    (hdb : (x == ("__debug__" : Str)) = false) : PE X (.Call (.Name x p) [] [] pos) (tCallS sp (WE W) tNil) := by
  constructor
  intro pins s σ H Q I h
  refine wpAny_Call_Name_kw (ld_glob I hg hm ?_ hdb)
  exact PySem.W.callWith_K0 I.kIn hk (run_G (us := []) F hr hgd hb tk I .nil h)
end

/-! ### the law's own call -/
section
variable {P : Program} {w : World} {K : PySem.W.Frag} {mg mb : Str → Option Value}
/-- the heap that a law finds: nothing but the script is tracked -/
structure Found (K : PySem.W.Frag) (H : Hp) (a : Addr) : Prop where
  all : ∀ b, H b ≠ none → b = a
  frz : ∀ u, H a = some u → ∃ o xs, u = .frz o (.lst xs)
  own : H a ≠ none → K.lookup a = none
theorem enter_G {k : Nat} {fa a : Addr} {fd : FuncData} {x : Str} {sp : Sp} {s : Shared} {vs : List Value} {H : Hp} (KX : K.In s.heap) (hns : s.heap.Ns mainGlobals mg) (hb : s.heap.Ns builtinsNs mb)
    (hbb : ∀ x : Str, x ≠ "__name__" → mb x = bootBuiltins x) (hlim : s.heap.NoLimit) (hg : s.gens = #[]) (ha : s.heap.get? a = some { cls := .type "list", data := .seq vs.toArray }) (hr : Room k callerA)
    (hf : Found K H a) (hok : HOk P w H s.heap) (F : ∀ base : Heap, K.In base → base.Ns mainGlobals mg → FnG P w K mg base k fa fd [x] sp) (hbind : ∀ (s : Shared) (u : Value), BindsTo s fd ⟨[u], []⟩ [(x, u)])
    (hsp : sp [.ref a] H (fun v _ => v = .bl true) fun _ _ _ => False) :
    codeAny (model P w) callerA (.call (.ref fa) ⟨[.ref a], []⟩) (fun r s' => r = .ok (.ret (.bool true)) ∧ OldK s.heap s'.heap ∧ s'.os = s.os ∧ AllBare s'.gens) s := by
  have untr : ∀ {b : Addr}, b ≠ a → H b = none := fun {b} h => by
    cases q : H b with
    | none => rfl
    | some u => exact absurd (hf.all b (by rw [q]; simp)) h
  have ns_ : ∀ {b : Addr} {m : Str → Option Value}, s.heap.Ns b m → (hidT s.heap H).Ns b m := fun {b m} hn => by
    obtain ⟨o, es, ep, e, d, r⟩ := hn
    refine ⟨o, es, ep, hidT_get e (untr fun z => ?_), d, r⟩
    rw [z, ha] at e
    obtain rfl := Option.some.inj e
    cases (show Data.seq vs.toArray _ = Data.dict es ep from d)
  have kin : K.In (hidT s.heap H) := fun b o e => hidT_get (KX b o e) (by
    by_cases z : b = a
    · cases q : H b with
      | none => rfl
      | some u =>
        rw [z] at q e
        rw [hf.own (by rw [q]; simp)] at e
        cases e
    · exact untr z)
  have md : Mod K mg (hidT s.heap H) := by
    obtain ⟨mc, c1, c2⟩ := hlim
    exact ⟨kin, ns_ hns, ⟨mb, ns_ hb, hbb⟩, ⟨mc, ns_ c1, c2⟩⟩
  have e0 : Env0 P w K mg (hidT s.heap H) callerA [] s H :=
    { frames := rfl, mod := md, bs := fun b o e => of_hidT e, bsz := Nat.le_of_eq (hidT_size _ _), funs := trivial, frf := (fun b hb => absurd (show b ∈ ([] : List Addr) from hb) (by simp)), hok := hok, bare := .of_eq hg }
  refine codeAny_mono ((F _ kin (ns_ hns)).run callerA [] s H ⟨[.ref a], []⟩ [.ref a] [.ref a] _ _ hr rfl e0 (hbind s (.ref a)) (.cons rfl .nil) hsp) fun r s' h => ?_
  rcases r with e | fl
  · obtain ⟨_, _, _, _, _, _, _, _, _, _, _, _, z⟩ := h
    exact z.elim
  · rcases fl with _ | _ | _ | u
    case ret =>
      obtain ⟨v, H', os, bare, un, hok', r', rfl⟩ := h
      obtain rfl : u = Value.bool true := r'
      refine ⟨rfl, OldK.of_keep fun b o e => ?_, os, bare⟩
      cases q : H b with
      | none => exact un.keep b o e q (by intro z; exact absurd (show b ∈ ([] : List Addr) from z) (by simp)) (by simp)
      | some t =>
        obtain rfl := hf.all b (by rw [q]; simp)
        obtain ⟨ob, xs, rfl⟩ := hf.frz t q
        have e1 := (hok b _ q).1
        have e2 := (hok' b _ (un.frzs b ob _ q)).1
        rw [e] at e1
        obtain rfl := Option.some.inj e1
        exact e2
    all_goals exact False.elim h
theorem law_G {k : Nat} {fa a : Addr} {fd : FuncData} {x : Str} {sp : Sp} {s : Shared} {vs : List Value} {ns : List Int} (KX : K.In s.heap) (hns : s.heap.Ns mainGlobals mg) (hb : s.heap.Ns builtinsNs mb)
    (hbb : ∀ x : Str, x ≠ "__name__" → mb x = bootBuiltins x) (hlim : s.heap.NoLimit) (hg : s.gens = #[]) (ha : s.heap.get? a = some { cls := .type "list", data := .seq vs.toArray }) (hi : IntsAre vs ns) (hl : ns.length ≤ sizeLine) (hr : Room k callerA)
    (F : ∀ base : Heap, K.In base → base.Ns mainGlobals mg → FnG P w K mg base k fa fd [x] sp) (hbind : ∀ (s : Shared) (u : Value), BindsTo s fd ⟨[u], []⟩ [(x, u)])
    (hsp : ∀ H : Hp, SqL K H a (ns.map V.int) → sp [.ref a] H (fun v _ => v = .bl true) fun _ _ _ => False) :
    codeAny (model P w) callerA (.call (.ref fa) ⟨[.ref a], []⟩) (fun r s' => r = .ok (.ret (.bool true)) ∧ OldK s.heap s'.heap ∧ s'.os = s.os ∧ AllBare s'.gens) s := by
  cases hk : K.lookup a with
  | some o =>
    have e := KX a o hk
    rw [ha] at e
    obtain rfl := Option.some.inj e
    refine enter_G (H := fun _ => none) KX hns hb hbb hlim hg ha hr ⟨fun b z => absurd rfl z, fun u z => (nomatch (show (none : Option HO) = some u from z)), fun z => absurd rfl z⟩ (fun b u z => (nomatch (show (none : Option HO) = some u from z))) F hbind (hsp _ (.inr ⟨_, vs.toArray, _, hk, rfl, rfl, rfl, ?_, ?_⟩))
    · rw [List.size_toArray, hi.length]; exact hl
    · simpa using vals_ints hi
  | none =>
    let o : Obj := { cls := .type "list", data := .seq vs.toArray }
    have h1 : ∀ b u, (if b = a then some (HO.frz o (.lst (ns.map V.int))) else none) = some u → b = a ∧ u = .frz o (.lst (ns.map V.int)) := fun b u z => by
      split at z
      · exact ⟨by assumption, (Option.some.inj z).symm⟩
      · cases z
    refine enter_G (H := fun b => if b = a then some (.frz o (.lst (ns.map V.int))) else none) KX hns hb hbb hlim hg ha hr ⟨fun b z => ?_, fun u z => ⟨o, _, (h1 a u z).2⟩, fun _ => hk⟩ (fun b u z => ?_) F hbind (hsp _ (.inl (.inr ⟨o, if_pos rfl⟩)))
    · cases q : (if b = a then some (HO.frz o (.lst (ns.map V.int))) else none) with
      | none => exact absurd q z
      | some u => exact (h1 b u q).1
    · obtain ⟨rfl, rfl⟩ := h1 b u z
      exact ⟨ha, by rw [List.length_map]; exact hl, vs, _, vals_ints hi, ha⟩
end
/-- the end of a law, from its promise; the script's numbers have at most 2^20 bits -/
theorem walk_G {l : PySem.W.OpenLaw} {n k : Nat} {q : Program} {loose : List Str} {XP : (Str → Option Value) → Heap → Prop} {YP : World → Heap → Prop} {d : DefRec} {K : Params → PySem.W.Frag} {sp : World → Sp} {x : Str}
    (hn : l.most = some n) (hn2 : n ≤ sizeLine) (hdf : d.params.defaults = []) (hr : Room k callerA) (hY : ∀ (w : World) (h : Heap), YP w h → (K w.params).In h)
    (F : ∀ (w : World) (mg : Str → Option Value) (fa : Addr) (h : Heap), (K w.params).In h → h.Ns mainGlobals mg → mg d.name = some (.ref fa) →
      ∃ fd : FuncData, (∀ (s : Shared) (u : Value), BindsTo s fd ⟨[u], []⟩ [(x, u)]) ∧
        ∀ base : Heap, (K w.params).In base → base.Ns mainGlobals mg → FnG l.prog w (K w.params) mg base k fa fd [x] (sp w))
    (hsp : ∀ (w : World) (H : Hp) (a : Addr) (ns : List Int), ns.length ≤ n → (∀ z ∈ ns, Builtin.Int.intBits z ≤ 1048576) → SqL (K w.params) H a (ns.map V.int) → sp w [.ref a] H (fun v _ => v = .bl true) fun _ _ _ => False) :
    PySem.W.WalkO q loose XP YP l.row.toRowW d [] (fun f vs => PySem.call f vs) := by
  refine Att.attach_callB hn hdf fun w s₀ s₁ mg mb fa o pm cd doc a vs ns G Y ho hd hcd hmg hobj hints hlen hbits hg => ?_
  obtain ⟨fd, hb, hF⟩ := F w mg fa _ (hY w _ Y) G.T.g hmg
  exact law_G (hY w _ Y) G.T.g G.T.b G.T.builtins G.T.nolimit hg hobj hints (Nat.le_trans hlen hn2) hr hF hb fun H hS => hsp w H a ns hlen hbits hS
end FX
set_option maxHeartbeats 2000000
namespace FX
variable [Wc]
open PySem PySem.Spec PyProof.Rows L2
abbrev SV := List (Option V)

/-! ### slots -/
theorem perm_at {α : Type} : ∀ {l : List α} {i : Nat} {p : α}, l[i]? = some p → l.Perm (p :: l.eraseIdx i)
  | x :: l, 0, p, h => by
    simp only [List.getElem?_cons_zero, Option.some.injEq] at h
    subst h
    exact List.Perm.refl _
  | x :: l, i + 1, p, h => by
    simp only [List.getElem?_cons_succ] at h
    exact ((perm_at h).cons x).trans (List.Perm.swap p x _)
  | [], _, _, h => by simp at h
theorem perm_set {α : Type} : ∀ {l : List α} {i : Nat} (q : α), i < l.length → (l.set i q).Perm (q :: l.eraseIdx i)
  | x :: l, 0, q, _ => List.Perm.refl _
  | x :: l, i + 1, q, h => by
    simp only [List.set_cons_succ, List.eraseIdx_cons_succ]
    exact ((perm_set q (by simpa using h)).cons x).trans (List.Perm.swap q x _)
  | [], _, _, h => by simp at h
theorem zip_set {α β : Type} : ∀ (l : List α) (m : List β) (i : Nat) (a : α) (b : β), (l.set i a).zip (m.set i b) = (l.zip m).set i (a, b)
  | [], m, i, a, b => by simp
  | x :: l, [], i, a, b => by simp
  | x :: l, y :: m, 0, a, b => rfl
  | x :: l, y :: m, i + 1, a, b => by simp [zip_set l m i a b]
abbrev ZE (τ : Zs) (ρ : FE) (σ : SV) : Zs := τ ++ ρ.zip σ
section
variable {K : PySem.W.Frag} {F F' H H' : Hp} {τ ω : Zs} {ρ : FE} {σ : SV} {i : Nat} {v : V} {x : PyData} {xs : List PyData}
theorem at_some {s : Sl} (h : at_ ρ i = s) (hs : s ≠ .no) : i < ρ.length ∧ ρ[i]? = some s := by
  unfold at_ at h
  rw [List.getD_eq_getElem?_getD] at h
  cases e : ρ[i]? with
  | none => rw [e] at h; exact absurd h.symm hs
  | some t =>
    rw [e] at h
    exact ⟨(List.getElem?_eq_some_iff.mp e).1, congrArg some h⟩
/-- a slot apart from the rest -/
theorem ze_at (hl : ρ.length = σ.length) (hi : i < ρ.length) : ∃ (w : Option V) (rest : Zs), σ[i]? = some w ∧ (ZE τ ρ σ).Perm ((at_ ρ i, w) :: rest) ∧ ∀ s u, (ZE τ (ρ.set i s) (σ.set i u)).Perm ((s, u) :: rest) := by
  have h2 : i < σ.length := by omega
  have hz : i < (ρ.zip σ).length := by rw [List.length_zip]; omega
  have e : (ρ.zip σ)[i]? = some (at_ ρ i, σ[i]) := by
    rw [List.getElem?_eq_getElem hz, List.getElem_zip]
    unfold at_
    rw [List.getD_eq_getElem?_getD, List.getElem?_eq_getElem hi]
    rfl
  refine ⟨σ[i], τ ++ (ρ.zip σ).eraseIdx i, List.getElem?_eq_getElem h2, ?_, fun s u => ?_⟩
  · exact ((perm_at e).append_left τ).trans List.perm_middle
  · rw [ZE, zip_set]
    exact ((perm_set (s, u) hz).append_left τ).trans List.perm_middle
theorem set_same {w : Option V} (h : σ[i]? = some w) : σ.set i w = σ := by
  obtain ⟨h1, h2⟩ := List.getElem?_eq_some_iff.mp h
  rw [← h2]
  exact List.set_getElem_self h1
theorem Rp.app (R : Rp K F H (ω ++ τ)) : Rp K F H τ := by
  induction ω with
  | nil => exact R
  | cons p ω ih => exact ih R.tail
theorem Rp.mid {p : Sl × Option V} (R : Rp K F H (p :: (ω ++ τ))) : Rp K F H (p :: τ) := by
  have h : (p :: (ω ++ τ)).Perm (ω ++ (p :: τ)) := List.perm_middle.symm
  exact (R.perm h).app
theorem Rp.mids {ω' : Zs} (R : Rp K F H (ω' ++ (ω ++ τ))) : Rp K F H (ω' ++ τ) := by
  rw [← List.append_assoc] at R
  have h : (ω' ++ ω ++ τ).Perm (ω ++ (ω' ++ τ)) := by
    rw [← List.append_assoc]
    exact List.Perm.append_right τ List.perm_append_comm
  exact (R.perm h).app
/-- a name whose value is data -/
theorem Rp.getD (R : Rp K F H (ZE τ ρ σ)) (hl : ρ.length = σ.length) (h : at_ ρ i = .d x) : ∃ v, σ[i]? = some (some v) ∧ DD K F v x := by
  obtain ⟨hi, _⟩ := at_some h (by simp)
  obtain ⟨w, rest, e1, e2, _⟩ := ze_at (τ := τ) hl hi
  have q := (R.perm e2).head
  rw [h] at q
  cases w with
  | none => exact False.elim q
  | some v => exact ⟨v, e1, q⟩
/-- a name that holds an owned list, apart -/
theorem Rp.getO (R : Rp K F H (ZE τ ρ σ)) (hl : ρ.length = σ.length) (h : at_ ρ i = .o xs) : ∃ a rest, σ[i]? = some (some (.ref a)) ∧ Rp K F H ((.o xs, some (.ref a)) :: rest) ∧ ∀ s, (ZE τ (ρ.set i s) σ).Perm ((s, some (.ref a)) :: rest) := by
  obtain ⟨hi, _⟩ := at_some h (by simp)
  obtain ⟨w, rest, e1, e2, e3⟩ := ze_at (τ := τ) hl hi
  have R' := R.perm e2
  rw [h] at R'
  have q := R'.head
  cases w with
  | none => exact False.elim q
  | some v =>
    cases v with
    | ref a =>
      refine ⟨a, rest, e1, R', fun s => ?_⟩
      have := e3 s (some (.ref a))
      rw [set_same e1] at this
      exact this
    | _ => exact False.elim q
theorem Rp.getO' (R : Rp K F H (ZE τ ρ σ)) (hl : ρ.length = σ.length) (h : at_ ρ i = .o xs) : ∃ a vs, σ[i]? = some (some (.ref a)) ∧ H a = some (.lst vs) ∧ DDs K F vs xs := by
  obtain ⟨a, rest, e, R', _⟩ := R.getO hl h
  obtain ⟨_, vs, h1, h2⟩ := R'.head
  exact ⟨a, vs, e, h1, h2⟩
theorem Rp.frzAt (R : Rp K F H (ZE τ ρ σ)) (hl : ρ.length = σ.length) (h : at_ ρ i = .o xs) : ∃ a F', σ[i]? = some (some (.ref a)) ∧ Same F F' ∧ Rp K F' H (ZE τ (ρ.set i (.d (.list xs))) σ) ∧ DD K F' (.ref a) (.list xs) := by
  obtain ⟨a, rest, e1, R', e3⟩ := R.getO hl h
  obtain ⟨F', hF, R2⟩ := R'.freeze
  exact ⟨a, F', e1, hF, R2.perm (e3 _).symm, R2.head⟩
theorem Rp.moveAt (R : Rp K F H (ZE τ ρ σ)) (hl : ρ.length = σ.length) (h : at_ ρ i = .o xs) : ∃ a, σ[i]? = some (some (.ref a)) ∧ Rp K F H ((.o xs, some (.ref a)) :: ZE τ (ρ.set i .no) σ) := by
  obtain ⟨a, rest, e1, R', e3⟩ := R.getO hl h
  refine ⟨a, e1, ?_⟩
  have p : ((.o xs, some (.ref a)) :: (.no, some (V.ref a)) :: rest : Zs).Perm ((.o xs, some (.ref a)) :: ZE τ (ρ.set i .no) σ) := (e3 .no).symm.cons _
  refine Rp.perm ?_ p
  refine Rp.perm ?_ (List.Perm.swap _ _ _)
  exact R'.consN
theorem Rp.getT {kvs : List (PyData × PyData)} (R : Rp K F H (ZE τ ρ σ)) (hl : ρ.length = σ.length) (h : at_ ρ i = .t kvs) : ∃ a rest, σ[i]? = some (some (.ref a)) ∧ Rp K F H ((.t kvs, some (.ref a)) :: rest) ∧ ∀ s, (ZE τ (ρ.set i s) σ).Perm ((s, some (.ref a)) :: rest) := by
  obtain ⟨hi, _⟩ := at_some h (by simp)
  obtain ⟨w, rest, e1, e2, e3⟩ := ze_at (τ := τ) hl hi
  have R' := R.perm e2
  rw [h] at R'
  have q := R'.head
  cases w with
  | none => exact False.elim q
  | some v =>
    cases v with
    | ref a =>
      refine ⟨a, rest, e1, R', fun s => ?_⟩
      have := e3 s (some (.ref a))
      rw [set_same e1] at this
      exact this
    | _ => exact False.elim q
theorem Rp.getT' {kvs : List (PyData × PyData)} (R : Rp K F H (ZE τ ρ σ)) (hl : ρ.length = σ.length) (h : at_ ρ i = .t kvs) : ∃ a, σ[i]? = some (some (.ref a)) ∧ F a = none ∧ DctA K F H a kvs := by
  obtain ⟨a, rest, e, R', _⟩ := R.getT hl h
  obtain ⟨h0, h1⟩ := R'.head
  exact ⟨a, e, h0, h1⟩
theorem Rp.frzAtT {kvs : List (PyData × PyData)} (R : Rp K F H (ZE τ ρ σ)) (hl : ρ.length = σ.length) (h : at_ ρ i = .t kvs) : ∃ a F', σ[i]? = some (some (.ref a)) ∧ Same F F' ∧ Rp K F' H (ZE τ (ρ.set i (.d (.dict kvs))) σ) ∧ DD K F' (.ref a) (.dict kvs) := by
  obtain ⟨a, rest, e1, R', e3⟩ := R.getT hl h
  obtain ⟨F', hF, R2⟩ := R'.freezeT
  exact ⟨a, F', e1, hF, R2.perm (e3 _).symm, R2.head⟩
theorem Rp.moveAtT {kvs : List (PyData × PyData)} (R : Rp K F H (ZE τ ρ σ)) (hl : ρ.length = σ.length) (h : at_ ρ i = .t kvs) : ∃ a, σ[i]? = some (some (.ref a)) ∧ Rp K F H ((.t kvs, some (.ref a)) :: ZE τ (ρ.set i .no) σ) := by
  obtain ⟨a, rest, e1, R', e3⟩ := R.getT hl h
  refine ⟨a, e1, ?_⟩
  have p : ((.t kvs, some (.ref a)) :: (.no, some (V.ref a)) :: rest : Zs).Perm ((.t kvs, some (.ref a)) :: ZE τ (ρ.set i .no) σ) := (e3 .no).symm.cons _
  refine Rp.perm ?_ p
  refine Rp.perm ?_ (List.Perm.swap _ _ _)
  exact R'.consN
theorem Rp.forget (R : Rp K F H (ZE τ ρ σ)) (hl : ρ.length = σ.length) (w : Option V) : Rp K F H (ZE τ (ρ.set i .no) (σ.set i w)) := by
  by_cases hi : i < ρ.length
  · obtain ⟨_, rest, _, e2, e3⟩ := ze_at (τ := τ) hl hi
    exact ((R.perm e2).tail.consN).perm (e3 .no w).symm
  · rw [List.set_eq_of_length_le (by omega), List.set_eq_of_length_le (by omega)]
    exact R
theorem Rp.forget' (R : Rp K F H (ZE τ ρ σ)) (hl : ρ.length = σ.length) : Rp K F H (ZE τ (ρ.set i .no) σ) := by
  by_cases hi : i < ρ.length
  · obtain ⟨w, rest, e1, e2, e3⟩ := ze_at (τ := τ) hl hi
    have := e3 .no w
    rw [set_same e1] at this
    exact ((R.perm e2).tail.consN).perm this.symm
  · rw [List.set_eq_of_length_le (by omega)]
    exact R
/-- a value stored in a slot -/
theorem Rp.storeAt {s : Sl} {w : Option V} (R : Rp K F H ((s, w) :: ZE τ ρ σ)) (hl : ρ.length = σ.length) (hi : i < ρ.length) : Rp K F H (ZE τ (ρ.set i s) (σ.set i w)) := by
  obtain ⟨_, rest, _, e2, e3⟩ := ze_at (τ := τ) hl hi
  have R2 : Rp K F H ((s, w) :: (at_ ρ i, _) :: rest) := R.perm (e2.cons _)
  exact ((R2.perm (List.Perm.swap _ _ _)).tail).perm (e3 s w).symm
/-- an owned list changed in its slot -/
theorem Rp.mutAt {xs' : List PyData} {vs' : List V} {a : Addr} (R : Rp K F H (ZE τ ρ σ)) (hl : ρ.length = σ.length) (h : at_ ρ i = .o xs) (ha : σ[i]? = some (some (.ref a))) (hd : DDs K F vs' xs') :
    Rp K F (upd H a (.lst vs')) (ZE τ (ρ.set i (.o xs')) σ) := by
  obtain ⟨b, rest, e1, R', e3⟩ := R.getO hl h
  rw [ha] at e1
  cases e1
  exact (R'.write hd).perm (e3 _).symm
end

theorem Rp.mutAtT {K : PySem.W.Frag} {F H : Hp} {τ : Zs} {ρ : FE} {σ : SV} {i : Nat} {kvs : List (PyData × PyData)} {o' : Obj} {xs' : List Ent3} {a : Addr} (R : Rp K F H (ZE τ ρ σ)) (hl : ρ.length = σ.length) (h : at_ ρ i = .t kvs) (ha : σ[i]? = some (some (.ref a))) (hd : ∀ x ∈ xs', KD K F (.ref x.2.1) x.1) :
    Rp K F (upd H a (DctO a o' xs')) (ZE τ (ρ.set i (.t (kvsOf xs'))) σ) := by
  obtain ⟨b, rest, e1, R', e3⟩ := R.getT hl h
  rw [ha] at e1
  cases e1
  exact (R'.writeT hd).perm (e3 _).symm

/-! ### a semantics as a reading -/
/-- an own error: its class by number, its one field -/
structure ExcT where
  cls : Nat → Option Value
  fld : Nat → Option Str
def ExcR (ce : ExcT) (x : Exc) (cls : Value) (d : Option Addr) (H : Hp) : Prop :=
  ce.cls x.cls = some cls ∧ match x.pay with
    | none => d = none
    | some p => ∃ dx f n, d = some dx ∧ p = .int n ∧ ce.fld x.cls = some f ∧ H dx = some (.xd [(f, .int n)])
def XOK (K : PySem.W.Frag) (ce : ExcT) (W : WX) (F : Hp) (τ : Zs) (σ : SV) (E0 : KX) : Prop :=
  ∀ x ρ' F' H' cls d, E0 x ρ' → ρ'.length = σ.length → Same F F' → Rp K F' H' (ZE τ ρ' σ) → ExcR ce x cls d H' → W cls d σ H'
theorem Same.tr {H H1 H2 : Hp} (a : Same H H1) (b : Same H1 H2) : Same H H2 := fun c o h => b c o (a c o h)
theorem XOK.sub {K : PySem.W.Frag} {ce : ExcT} {W : WX} {F F1 : Hp} {τ ω : Zs} {σ : SV} {E0 : KX} (h : XOK K ce W F τ σ E0) (hF : Same F F1) : XOK K ce W F1 (ω ++ τ) σ E0 := fun x ρ' F' H' cls d e hl hs R hx =>
  h x ρ' F' H' cls d e hl (Same.tr hF hs) (by
    unfold ZE at R
    rw [List.append_assoc] at R
    exact R.app) hx
theorem XOK.le {K : PySem.W.Frag} {ce : ExcT} {W : WX} {F F1 : Hp} {τ : Zs} {σ : SV} {E0 : KX} (h : XOK K ce W F τ σ E0) (hF : Same F F1) : XOK K ce W F1 τ σ E0 := XOK.sub (ω := []) h hF

def opZ : Op → V → Zs
  | .v r, v => [(r.sl, some v)]
  | .s _, _ => []
def opAt (σ : SV) : Op → V → Prop
  | .v _, _ => True
  | .s i, v => σ[i]? = some (some v)
def opsZ : List Op → List V → Zs
  | o :: os, v :: vs => opsZ os vs ++ opZ o v
  | _, _ => []
def opsAt (σ : SV) : List Op → List V → Prop
  | [], [] => True
  | o :: os, v :: vs => opAt σ o v ∧ opsAt σ os vs
  | _, _ => False
def rsZ : List Rs → List V → Zs
  | r :: rs, v :: vs => rsZ rs vs ++ [(r.sl, some v)]
  | _, _ => []

section
variable (K : PySem.W.Frag) (ce : ExcT) (W : WX)
def liftV (t : FE → KQ → KX → Prop) : TE := fun σ H Q => ∃ F τ ρ Q0 E0, ρ.length = σ.length ∧ Rp K F H (ZE τ ρ σ) ∧ t ρ Q0 E0 ∧
  (∀ r ρ' F' H' v, Q0 r ρ' → ρ'.length = σ.length → Same F F' → Rp K F' H' ((r.sl, some v) :: ZE τ ρ' σ) → Q v H') ∧ XOK K ce W F τ σ E0
def liftO (t : FE → (Op → FE → Prop) → KX → Prop) : TE := fun σ H Q => ∃ F τ ρ Q0 E0, ρ.length = σ.length ∧ Rp K F H (ZE τ ρ σ) ∧ t ρ Q0 E0 ∧
  (∀ o ρ' F' H' v, Q0 o ρ' → ρ'.length = σ.length → Same F F' → Rp K F' H' (opZ o v ++ ZE τ ρ' σ) → opAt σ o v → Q v H') ∧ XOK K ce W F τ σ E0
def liftT (t : FE → (Bool → FE → Prop) → KX → Prop) : TT := fun σ H Q => ∃ F τ ρ Q0 E0, ρ.length = σ.length ∧ Rp K F H (ZE τ ρ σ) ∧ t ρ Q0 E0 ∧
  (∀ b ρ' F' H', Q0 b ρ' → ρ'.length = σ.length → Same F F' → Rp K F' H' (ZE τ ρ' σ) → Q b H') ∧ XOK K ce W F τ σ E0
def liftOs (t : FE → (List Op → FE → Prop) → KX → Prop) : TA := fun σ H Q => ∃ F τ ρ Q0 E0, ρ.length = σ.length ∧ Rp K F H (ZE τ ρ σ) ∧ t ρ Q0 E0 ∧
  (∀ os ρ' F' H' vs, Q0 os ρ' → ρ'.length = σ.length → Same F F' → Rp K F' H' (opsZ os vs ++ ZE τ ρ' σ) → opsAt σ os vs → Q vs H') ∧ XOK K ce W F τ σ E0
def liftRs (t : FE → (List Rs → FE → Prop) → KX → Prop) : TA := fun σ H Q => ∃ F τ ρ Q0 E0, ρ.length = σ.length ∧ Rp K F H (ZE τ ρ σ) ∧ t ρ Q0 E0 ∧
  (∀ rs ρ' F' H' vs, Q0 rs ρ' → ρ'.length = σ.length → Same F F' → Rp K F' H' (rsZ rs vs ++ ZE τ ρ' σ) → rs.length = vs.length → Q vs H') ∧ XOK K ce W F τ σ E0
end
theorem PE.imp {X : Cx} {e : Expr} {t t' : TE} (p : PE X e t) (h : ∀ σ H Q, t' σ H Q → t σ H Q) : PE X e t' := ⟨fun pins s σ H Q I q => p.run pins s σ H Q I (h σ H Q q)⟩
theorem PT.imp {X : Cx} {e : Expr} {t t' : TT} (p : PT X e t) (h : ∀ σ H Q, t' σ H Q → t σ H Q) : PT X e t' := ⟨fun pins s σ H Q I q => p.run pins s σ H Q I (h σ H Q q)⟩
theorem PA.imp {X : Cx} {e : List Expr} {t t' : TA} (p : PA X e t) (h : ∀ σ H Q, t' σ H Q → t σ H Q) : PA X e t' := ⟨fun pos pins s σ H Q I q => p.run pos pins s σ H Q I (h σ H Q q)⟩
theorem PS.imp {X : Cx} {e : Stmt} {t t' : TS} (p : PS X e t) (h : ∀ D σ H, t' D σ H → t D σ H) : PS X e t' := ⟨fun pins s σ H D I q => p.run pins s σ H D I (h D σ H q)⟩
theorem PSs.imp {X : Cx} {e : List Stmt} {t t' : TS} (p : PSs X e t) (h : ∀ D σ H, t' D σ H → t D σ H) : PSs X e t' := ⟨fun pins s σ H D I q => p.run pins s σ H D I (h D σ H q)⟩
section
variable {K : PySem.W.Frag} {ce : ExcT} {W : WX} {F H : Hp} {τ : Zs} {ρ : FE} {σ : SV}
/-- an operand as it is read -/
theorem op_view {o : Op} {v : V} {d : PyData} {ω : Zs} (R : Rp K F H (ω ++ ZE τ ρ σ)) (hz : ∀ p ∈ opZ o v, p ∈ ω) (hl : ρ.length = σ.length) (ha : opAt σ o v) (h : o.get ρ = some d) : DV K F H v d := by
  cases o with
  | v r =>
    have q := R.ok (r.sl, some v) (List.mem_append_left _ (hz _ (by simp [opZ])))
    have e : r.data = d := Option.some.inj h
    subst e
    cases r with
    | d x => exact dv_of R.sub q
    | o xs =>
      cases v with
      | ref a =>
        obtain ⟨_, vs, h1, h2⟩ := q
        exact ⟨a, vs, rfl, h1, h2⟩
      | _ => exact False.elim q
    | t kvs =>
      cases v with
      | ref a => exact .inr ⟨a, rfl, q.2⟩
      | _ => exact False.elim q
  | s i =>
    have h : (at_ ρ i).data = some d := h
    have ha : σ[i]? = some (some v) := ha
    cases e : at_ ρ i with
    | no => rw [e] at h; cases h
    | h _ => rw [e] at h; cases h
    | d x =>
      rw [e] at h
      cases h
      obtain ⟨u, e1, e2⟩ := (R.app).getD hl e
      rw [ha] at e1
      cases e1
      exact dv_of R.sub e2
    | o xs =>
      rw [e] at h
      cases h
      obtain ⟨a, vs, e1, e2, e3⟩ := (R.app).getO' hl e
      rw [ha] at e1
      cases e1
      exact ⟨a, vs, rfl, e2, e3⟩
    | t kvs =>
      rw [e] at h
      cases h
      obtain ⟨a, e1, _, e2⟩ := (R.app).getT' hl e
      rw [ha] at e1
      cases e1
      exact .inr ⟨a, rfl, e2⟩
theorem ops_view : ∀ {os : List Op} {vs : List V} {ds : List PyData} {ω : Zs}, Rp K F H (ω ++ ZE τ ρ σ) → (∀ p ∈ opsZ os vs, p ∈ ω) → ρ.length = σ.length → opsAt σ os vs → gets ρ os = some ds → DVs K F H vs ds
  | [], [], ds, ω, R, hz, hl, ha, h => by
    cases h
    trivial
  | o :: os, v :: vs, ds, ω, R, hz, hl, ha, h => by
    unfold gets at h
    cases e1 : o.get ρ with
    | none => rw [e1] at h; cases h
    | some x =>
      cases e2 : gets ρ os with
      | none => rw [e1, e2] at h; cases h
      | some ys =>
        rw [e1, e2] at h
        cases h
        exact ⟨op_view R (fun p hp => hz p (List.mem_append_right _ hp)) hl ha.1 e1, ops_view R (fun p hp => hz p (List.mem_append_left _ hp)) hl ha.2 e2⟩
  | [], _ :: _, _, _, _, _, _, ha, _ => False.elim ha
  | _ :: _, [], _, _, _, _, _, ha, _ => False.elim ha
theorem truV_of {v : V} {d : PyData} {b : Bool} (hs : Same F H) (h : DV K F H v d) (hl : lenOk d) (e : truth d = some b) : TruV K v H b := by
  cases d with
  | none => obtain rfl := dv_non h; cases e; rfl
  | bool k => obtain rfl := dv_bl h; cases e; rfl
  | int k => obtain rfl := dv_int h; cases e; rfl
  | str k => obtain rfl := dv_str h; cases e; exact ⟨hl, rfl⟩
  | list xs =>
    obtain ⟨a, vs, rfl, h1, h2⟩ := h
    cases e
    exact .inl ⟨vs, .inl (.inl h1), by
      have := dps_len h2
      cases vs <;> cases xs <;> simp_all⟩
  | tuple xs =>
    obtain ⟨a, vs, rfl, h1, h2⟩ := dv_tup h
    cases e
    exact .inr (.inl ⟨vs, sqT_mono hs h1, by
      have := dps_len h2
      cases vs <;> cases xs <;> simp_all⟩)
  | dict _ => cases e
end
end FX
set_option maxHeartbeats 2000000
namespace FX
open PySem
theorem sliceD_mono {x : PyData} {lo hi : Option Int} {k k' : Rs → Prop} (hk : ∀ r, k r → k' r) (h : sliceD x lo hi k) : sliceD x lo hi k' := by
  cases x with
  | list xs => exact hk _ h
  | tuple xs => exact hk _ h
  | str z => exact ⟨h.1, hk _ h.2⟩
  | none => exact h
  | bool _ => exact h
  | int _ => exact h
  | dict _ => exact h
theorem rel_mono {f : Int → Int → Bool} {xs : List PyData} {k k' : Rs → Prop} (hk : ∀ r, k r → k' r) (h : rel f xs k) : rel f xs k' := by
  unfold rel at h ⊢
  split at h
  · exact hk _ h
  · exact h.elim
theorem relT2_mono {f : Int → Int → Bool} {xs : List PyData} {k k' : Rs → Prop} (hk : ∀ r, k r → k' r) (h : relT2 f xs k) : relT2 f xs k' := by
  unfold relT2 at h ⊢
  split at h
  · exact hk _ h
  · exact hk _ h
  · exact h.elim
theorem inAny_mono {b : Bool} {x y : PyData} {k k' : Rs → Prop} (hk : ∀ r, k r → k' r) (h : inAny b x y k) : inAny b x y k' := by
  cases y with
  | list ys => cases x <;> exact ⟨h.1, h.2.1, hk _ h.2.2⟩
  | tuple ys => cases x <;> exact ⟨h.1, h.2.1, hk _ h.2.2⟩
  | str z =>
    cases x <;> try exact False.elim h
    rcases h with ⟨c, e, h⟩ | h
    · exact .inl ⟨c, e, hk _ h⟩
    · exact .inr (hk _ h)
  | none => cases x <;> exact False.elim h
  | bool _ => cases x <;> exact False.elim h
  | int _ => cases x <;> exact False.elim h
  | dict _ => cases x <;> exact ⟨h.1, h.2.1, hk _ h.2.2⟩
theorem minD_mono {x y : PyData} {k k' : Rs → Prop} (hk : ∀ r, k r → k' r) (h : minD x y k) : minD x y k' := by
  cases x <;> cases y <;> first
    | exact hk _ h
    | exact False.elim h
theorem psem_mono {f : PF} {ds : List PyData} {k k' : Rs → Prop} (hk : ∀ r, k r → k' r) (h : psem f ds k) : psem f ds k' := by
  fun_cases psem f ds k <;> first
    | exact hk _ h
    | exact False.elim h
    | exact ⟨h.1, hk _ h.2⟩
    | exact ⟨h.1, h.2.1, hk _ h.2.2⟩
    | exact ⟨h.1, h.2.1, h.2.2.1, hk _ h.2.2.2⟩
    | exact ⟨h.1, h.2.1, h.2.2.1, h.2.2.2.1, hk _ h.2.2.2.2⟩
    | exact rel_mono hk h
    | exact relT2_mono hk h
    | exact sliceD_mono hk h
    | exact inAny_mono hk h
    | exact minD_mono hk h
    | (obtain ⟨a, h1, h2⟩ := h; exact ⟨a, h1, hk _ h2⟩)
    | (obtain ⟨a, h1, h2, h3⟩ := h; exact ⟨a, h1, h2, hk _ h3⟩)
    | (obtain ⟨a, h1, h2, h3⟩ := h; exact ⟨a, h1, h2, fun m g1 g2 => hk _ (h3 m g1 g2)⟩)
    | (obtain ⟨a, h1, h2⟩ := h; exact ⟨a, h1, fun m g1 g2 => hk _ (h2 m g1 g2)⟩)
    | (obtain ⟨h0, a, h1, h2⟩ := h; exact ⟨h0, a, h1, hk _ h2⟩)
    | (obtain ⟨a, b, h1, h2, h3⟩ := h; exact ⟨a, b, h1, h2, hk _ h3⟩)
    | (obtain ⟨h0, h00, j, z, h1, h2, h3, h4⟩ := h; exact ⟨h0, h00, j, z, h1, h2, h3, hk _ h4⟩)
    | (exfalso; simp_all [psem]; done)
    | skip
def isCmp : PF → Bool
  | .eq => true
  | .ne => true
  | .lt => true
  | .le => true
  | .gt => true
  | .ge => true
  | .inn => true
  | .nin => true
  | .isN => true
  | .notN => true
  | .isB => true
  | .notB => true
  | .eqE => true
  | .neE => true
  | _ => false
theorem rel_bool {f : Int → Int → Bool} {xs : List PyData} {k : Rs → Prop} (h : rel f xs k) : rel f xs fun r => k r ∧ ∃ b, r = .d (.bool b) := by
  unfold rel at h ⊢
  split at h
  · exact ⟨h, _, rfl⟩
  · exact h.elim
theorem relT2_bool {f : Int → Int → Bool} {xs : List PyData} {k : Rs → Prop} (h : relT2 f xs k) : relT2 f xs fun r => k r ∧ ∃ b, r = .d (.bool b) := by
  unfold relT2 at h ⊢
  split at h
  · exact ⟨h, _, rfl⟩
  · exact ⟨h, _, rfl⟩
  · exact h.elim
theorem inAny_bool {b : Bool} {x y : PyData} {k : Rs → Prop} (h : inAny b x y k) : inAny b x y fun r => k r ∧ ∃ b, r = .d (.bool b) := by
  cases y with
  | list ys => cases x <;> exact ⟨h.1, h.2.1, h.2.2, _, rfl⟩
  | tuple ys => cases x <;> exact ⟨h.1, h.2.1, h.2.2, _, rfl⟩
  | str z =>
    cases x <;> try exact False.elim h
    rcases h with ⟨c, e, h⟩ | h
    · exact .inl ⟨c, e, h, _, rfl⟩
    · exact .inr ⟨h, _, rfl⟩
  | none => cases x <;> exact False.elim h
  | bool _ => cases x <;> exact False.elim h
  | int _ => cases x <;> exact False.elim h
  | dict _ => cases x <;> exact ⟨h.1, h.2.1, h.2.2, _, rfl⟩
theorem psem_bool {f : PF} {ds : List PyData} {k : Rs → Prop} (hf : isCmp f = true) (h : psem f ds k) : psem f ds fun r => k r ∧ ∃ b, r = .d (.bool b) := by
  fun_cases psem f ds k <;> first
    | (simp [isCmp] at hf; done)
    | exact rel_bool h
    | exact relT2_bool h
    | exact inAny_bool h
    | exact ⟨h, _, rfl⟩
    | exact ⟨h.1, h.2.1, h.2.2, _, rfl⟩
    | exact ⟨h.1, h.2, _, rfl⟩
    | (exfalso; simp_all [psem]; done)
end FX
set_option maxHeartbeats 2000000
namespace FX
variable [Wc]
open PySem PySem.Spec PyProof.Rows L2

def isStar : Expr → Bool
  | .Starred _ _ => true
  | _ => false
/-- no test of its own kind -/
def plainT : Expr → Bool
  | .UnaryOp .Not _ _ => false
  | .BoolOp _ _ _ => false
  | .IfExp _ _ _ _ => false
  | .Compare _ _ _ _ => false
  | _ => true
def isSet : Expr → Bool
  | .Set _ _ _ => true
  | _ => false
def bareCall : Expr → Bool
  | .Call (.Name _ _) [] [] _ => true
  | _ => false
def isSlice : Expr → Bool
  | .Slice _ _ _ _ => true
  | _ => false
def isComp : Expr → Bool
  | .ListComp _ _ _ _ => true
  | .SetComp _ _ _ _ => true
  | .DictComp _ _ _ _ _ => true
  | _ => false
theorem star_cons {e : Expr} {es : List Expr} {env : Env} (h : isStar e = false) : starEach (e :: es) env = (false, eval e env) :: starEach es env := by
  cases e <;> first | rfl | cases h
theorem isTrue_plainT {e : Expr} {env : Env} {whole : Sem Value} (h : plainT e = true) : isTrue e env whole = (do let v ← whole; standAt e.pos; holding [v] (truthy v)) := by
  cases e <;> first
    | rfl
    | cases h
    | (rename_i op _ _; cases op <;> first | rfl | cases h)
theorem noset {e : Expr} {env : Env} {x : Value} (h : isSet e = false) : foldedSetIterable e env x = pure x := by
  cases e <;> first | rfl | cases h
theorem nobeh {e : Expr} {op : CmpOp} (h : isSet e = false) : behindInMarks op e = false := by
  cases e <;> first | rfl | cases h
theorem plain_ix {e : Expr} (h : isSlice e = false) : PlainIx e := by
  cases e <;> first | (intro o i; rfl) | cases h
theorem attr_base {o : Expr} {a : Str} {env : Env} {whole : Sem Value} (h : bareCall o = false) : attributeBase o a env whole = whole := by
  cases o <;> first
    | rfl
    | (rename_i f args kws p
       cases args with
       | cons _ _ => cases f <;> rfl
       | nil =>
         cases kws with
         | cons _ _ => cases f <;> rfl
         | nil => cases f <;> first | rfl | cases h)
theorem no_swap {e : Expr} {t : Option Expr} {l : Nat} {env : Env} (h : isComp e = false) : swapsWith e t l env = pure false := by
  cases e <;> first | rfl | cases h

section
variable {X : Cx} {ce : ExcT} {Wx : WX}
structure SndE (X : Cx) (ce : ExcT) (Wx : WX) (m : Sm) (e : Expr) : Prop where
  v : PE X e (liftV X.K ce Wx m.v)
  o : PE X e (liftO X.K ce Wx m.o)
  t : PT X e (liftT X.K ce Wx m.t)
  m : PE X e (liftV X.K ce Wx m.m)
  ns : isStar e = false
def SndEs (X : Cx) (ce : ExcT) (Wx : WX) (G : Gm) : Es → List Expr → Prop
  | .nil, [] => True
  | .cons a as, e :: es => SndE X ce Wx (W G a) e ∧ SndEs X ce Wx G as es
  | _, _ => False
variable {G : Gm}

/-! ### the modes of one value -/
theorem o_of_v {v : FE → KQ → KX → Prop} {e : Expr} (h : PE X e (liftV X.K ce Wx v)) : PE X e (liftO X.K ce Wx fun ρ Q E => v ρ (fun r ρ' => Q (.v r) ρ') E) :=
  PE.imp h fun σ H Q ⟨F, τ, ρ, Q0, E0, hl, R, q, hQ, hE⟩ => ⟨F, τ, ρ, _, E0, hl, R, q, fun r ρ' F' H' v h1 h2 h3 h4 => hQ (.v r) ρ' F' H' v h1 h2 h3 h4 trivial, hE⟩
theorem truth_k {F H : Hp} {τ : Zs} {ρ : FE} {σ : SV} {o : Op} {v : V} {Q : Bool → Prop} (R : Rp X.K F H (opZ o v ++ ZE τ ρ σ)) (hl : ρ.length = σ.length) (ha : opAt σ o v) (h : truthK o ρ Q) : ∃ k, TruV X.K v H k ∧ Q k := by
  unfold truthK at h
  cases e : o.get ρ with
  | none => rw [e] at h; exact h.elim
  | some d =>
    rw [e] at h
    obtain ⟨h1, h2⟩ := h
    have dv := op_view R (fun p hp => hp) hl ha e
    cases e2 : truth d with
    | none => rw [e2] at h2; exact h2.elim
    | some b =>
      rw [e2] at h2
      exact ⟨b, truV_of R.sub dv h1 e2, h2⟩
theorem t_of_o {o : FE → (Op → FE → Prop) → KX → Prop} {e : Expr} (hp : plainT e = true) (h : PE X e (liftO X.K ce Wx o)) : PT X e (liftT X.K ce Wx fun ρ Q E => o ρ (fun x ρ' => truthK x ρ' fun b => Q b ρ') E) := by
  refine PT.imp (pt_truth h fun _ => isTrue_plainT hp) ?_
  rintro σ H Q ⟨F, τ, ρ, Q0, E0, hl, R, q, hQ, hE⟩
  refine ⟨F, τ, ρ, _, E0, hl, R, q, fun x ρ' F' H' v h1 h2 h3 h4 h5 => ?_, hE⟩
  obtain ⟨k, g1, g2⟩ := truth_k h4 h2 h5 h1
  exact ⟨k, g1, hQ k ρ' F' H' g2 h2 h3 h4.app⟩
theorem sm_ofV {v : FE → KQ → KX → Prop} {e : Expr} (hn : isStar e = false) (hp : plainT e = true) (h : PE X e (liftV X.K ce Wx v)) : SndE X ce Wx (.ofV v) e :=
  ⟨h, o_of_v h, t_of_o hp (o_of_v h), h, hn⟩

/-! ### constants, names -/
theorem rp_const {F H : Hp} {τ : Zs} {ρ : FE} {σ : SV} {v : V} {c : PyData} (R : Rp X.K F H (ZE τ ρ σ)) (h : DD X.K F v c) : Rp X.K F H (((Rs.d c).sl, some v) :: ZE τ ρ σ) := R.consD h
theorem v_const {e : Expr} {v : V} {c : PyData} (h : PE X e (tC v)) (hd : ∀ F, DD X.K F v c) : PE X e (liftV X.K ce Wx fun ρ Q _ => Q (.d c) ρ) :=
  PE.imp h fun σ H Q ⟨F, τ, ρ, Q0, E0, hl, R, q, hQ, hE⟩ => hQ _ _ F H v q hl (fun _ _ e => e) (rp_const R (hd F))
theorem snd_var {i : Nat} {x : Str} {pos : Pos} (hN : X.N[i]? = some x) (hv : Vis X.env.scope x) (hd : (x == ("__debug__" : Str)) = false) (hcd : (x == ("__classdict__" : Str)) = false) : SndE X ce Wx (W G (.var i)) (.Name x pos) := by
  have p : PE X (.Name x pos) (tVar i) := pe_var hN hv hd hcd
  have ho : PE X (.Name x pos) (liftO X.K ce Wx (W G (.var i)).o) := by
    refine PE.imp p ?_
    rintro σ H Q ⟨F, τ, ρ, Q0, E0, hl, R, q, hQ, hE⟩
    have q : (match at_ ρ i with
        | .no => False
        | .h _ => False
        | _ => Q0 (.s i) ρ : Prop) := q
    cases e : at_ ρ i with
    | no => rw [e] at q; exact q.elim
    | h _ => rw [e] at q; exact q.elim
    | d y =>
      rw [e] at q
      obtain ⟨v, e1, e2⟩ := R.getD hl e
      exact ⟨v, e1, hQ _ _ F H v q hl (fun _ _ e => e) R e1⟩
    | o ys =>
      rw [e] at q
      obtain ⟨a, vs, e1, _⟩ := R.getO' hl e
      exact ⟨.ref a, e1, hQ _ _ F H _ q hl (fun _ _ e => e) R e1⟩
    | t ys =>
      rw [e] at q
      obtain ⟨a, e1, _⟩ := R.getT' hl e
      exact ⟨.ref a, e1, hQ _ _ F H _ q hl (fun _ _ e => e) R e1⟩
  refine ⟨PE.imp p ?_, ho, ?_, PE.imp p ?_, rfl⟩
  · rintro σ H Q ⟨F, τ, ρ, Q0, E0, hl, R, q, hQ, hE⟩
    have q : (match at_ ρ i with
        | .no => False
        | .h _ => False
        | .d x => Q0 (.d x) ρ
        | .o xs => Q0 (.d (.list xs)) (ρ.set i (.d (.list xs)))
        | .t kvs => Q0 (.d (.dict kvs)) (ρ.set i (.d (.dict kvs))) : Prop) := q
    cases e : at_ ρ i with
    | no => rw [e] at q; exact q.elim
    | h _ => rw [e] at q; exact q.elim
    | d y =>
      rw [e] at q
      obtain ⟨v, e1, e2⟩ := R.getD hl e
      exact ⟨v, e1, hQ _ _ F H v q hl (fun _ _ e => e) (R.consD e2)⟩
    | o ys =>
      rw [e] at q
      obtain ⟨a, F', e1, e2, e3, e4⟩ := R.frzAt hl e
      exact ⟨.ref a, e1, hQ _ _ F' H _ q (by rw [List.length_set]; exact hl) e2 (e3.consD e4)⟩
    | t ys =>
      rw [e] at q
      obtain ⟨a, F', e1, e2, e3, e4⟩ := R.frzAtT hl e
      exact ⟨.ref a, e1, hQ _ _ F' H _ q (by rw [List.length_set]; exact hl) e2 (e3.consD e4)⟩
  · refine PT.imp (t_of_o rfl ho) ?_
    rintro σ H Q ⟨F, τ, ρ, Q0, E0, hl, R, q, hQ, hE⟩
    refine ⟨F, τ, ρ, Q0, E0, hl, R, ?_, hQ, hE⟩
    have q : truthK (.s i) ρ (fun b => Q0 b ρ) := q
    show (match at_ ρ i with
      | .no => False
      | .h _ => False
      | _ => truthK (.s i) ρ fun b => Q0 b ρ : Prop)
    cases e : at_ ρ i with
    | no =>
      have e2 : (Op.s i).get ρ = none := by
        show (at_ ρ i).data = none
        rw [e]
        rfl
      unfold truthK at q
      rw [e2] at q
      exact q
    | h _ =>
      have e2 : (Op.s i).get ρ = none := by
        show (at_ ρ i).data = none
        rw [e]
        rfl
      unfold truthK at q
      rw [e2] at q
      exact q
    | d y => exact q
    | o ys => exact q
    | t ys => exact q
  · rintro σ H Q ⟨F, τ, ρ, Q0, E0, hl, R, q, hQ, hE⟩
    have q : (match at_ ρ i with
        | .no => False
        | .h _ => False
        | .d x => Q0 (.d x) ρ
        | .o xs => Q0 (.o xs) (ρ.set i .no)
        | .t kvs => Q0 (.d (.dict kvs)) (ρ.set i (.d (.dict kvs))) : Prop) := q
    cases e : at_ ρ i with
    | no => rw [e] at q; exact q.elim
    | h _ => rw [e] at q; exact q.elim
    | d y =>
      rw [e] at q
      obtain ⟨v, e1, e2⟩ := R.getD hl e
      exact ⟨v, e1, hQ _ _ F H v q hl (fun _ _ e => e) (R.consD e2)⟩
    | o ys =>
      rw [e] at q
      obtain ⟨a, e1, e2⟩ := R.moveAt hl e
      exact ⟨.ref a, e1, hQ _ _ F H _ q (by rw [List.length_set]; exact hl) (fun _ _ e => e) e2⟩
    | t ys =>
      rw [e] at q
      obtain ⟨a, F', e1, e2, e3, e4⟩ := R.frzAtT hl e
      exact ⟨.ref a, e1, hQ _ _ F' H _ q (by rw [List.length_set]; exact hl) e2 (e3.consD e4)⟩

/-! ### lists of arguments -/
theorem pa_os : ∀ {as : Es} {es : List Expr}, SndEs X ce Wx G as es → PA X es (liftOs X.K ce Wx (Ws G as).os)
  | .nil, [], _ => PA.imp pa_nil fun σ H Q ⟨F, τ, ρ, Q0, E0, hl, R, q, hQ, hE⟩ => hQ [] ρ F H [] q hl (fun _ _ e => e) R trivial
  | .cons a as, e :: es, h => by
    refine PA.imp (pa_cons h.1.o (pa_os h.2) (star_cons h.1.ns)) ?_
    rintro σ H Q ⟨F, τ, ρ, Q0, E0, hl, R, q, hQ, hE⟩
    refine ⟨F, τ, ρ, _, E0, hl, R, q, fun x ρ1 F1 H1 v q1 l1 s1 R1 a1 => ?_, hE⟩
    refine ⟨F1, opZ x v ++ τ, ρ1, _, E0, l1, by rw [ZE, List.append_assoc]; exact R1, q1, fun xs ρ2 F2 H2 vs q2 l2 s2 R2 a2 => ?_, hE.sub s1⟩
    refine hQ (x :: xs) ρ2 F2 H2 (v :: vs) q2 l2 (Same.tr s1 s2) ?_ ⟨a1, a2⟩
    have : opsZ (x :: xs) (v :: vs) ++ ZE τ ρ2 σ = opsZ xs vs ++ ZE (opZ x v ++ τ) ρ2 σ := by simp [opsZ, ZE]
    rw [this]
    exact R2
  | .nil, _ :: _, h => False.elim h
  | .cons _ _, [], h => False.elim h
theorem pa_rs : ∀ {as : Es} {es : List Expr}, SndEs X ce Wx G as es → PA X es (liftRs X.K ce Wx (Ws G as).rs)
  | .nil, [], _ => PA.imp pa_nil fun σ H Q ⟨F, τ, ρ, Q0, E0, hl, R, q, hQ, hE⟩ => hQ [] ρ F H [] q hl (fun _ _ e => e) R rfl
  | .cons a as, e :: es, h => by
    refine PA.imp (pa_cons h.1.v (pa_rs h.2) (star_cons h.1.ns)) ?_
    rintro σ H Q ⟨F, τ, ρ, Q0, E0, hl, R, q, hQ, hE⟩
    refine ⟨F, τ, ρ, _, E0, hl, R, q, fun x ρ1 F1 H1 v q1 l1 s1 R1 => ?_, hE⟩
    refine ⟨F1, (x.sl, some v) :: τ, ρ1, _, E0, l1, R1, q1, fun xs ρ2 F2 H2 vs q2 l2 s2 R2 a2 => ?_, XOK.sub (ω := [_]) hE s1⟩
    refine hQ (x :: xs) ρ2 F2 H2 (v :: vs) q2 l2 (Same.tr s1 s2) ?_ (by simp [a2])
    have : rsZ (x :: xs) (v :: vs) ++ ZE τ ρ2 σ = rsZ xs vs ++ ZE ((x.sl, some v) :: τ) ρ2 σ := by simp [rsZ, ZE]
    rw [this]
    exact R2
  | .nil, _ :: _, h => False.elim h
  | .cons _ _, [], h => False.elim h

/-! ### primitives -/
abbrev vPrim (G : Gm) (f : PF) (as : Es) : FE → KQ → KX → Prop := (W G (.prim f as)).v
theorem prim_end {F F1 H1 : Hp} {τ : Zs} {ρ1 : FE} {σ : SV} {vs : List V} {os : List Op} {f : PF} {Q0 : KQ} {Q : VK} (R1 : Rp X.K F1 H1 (opsZ os vs ++ ZE τ ρ1 σ)) (l1 : ρ1.length = σ.length) (s1 : Same F F1) (a1 : opsAt σ os vs)
    (q : (match gets ρ1 os with
      | some ds => psem f ds fun r => Q0 r ρ1
      | none => False : Prop))
    (hQ : ∀ r ρ' F' H' v, Q0 r ρ' → ρ'.length = σ.length → Same F F' → Rp X.K F' H' ((r.sl, some v) :: ZE τ ρ' σ) → Q v H') : rP X.K f vs H1 Q := by
  cases e : gets ρ1 os with
  | none => rw [e] at q; exact q.elim
  | some ds =>
    rw [e] at q
    refine ⟨F1, ds, R1.sub, ops_view R1 (fun p hp => hp) l1 a1 e, psem_mono (fun r hr z H' m => ?_) q⟩
    obtain ⟨F', h1, h2⟩ := R1.made m
    exact hQ r ρ1 F' H' z hr l1 (Same.tr s1 h1) h2.mid
end
end FX
set_option maxHeartbeats 2000000
namespace FX
variable [Wc]
open PySem PySem.Spec PyProof.Rows L2
section
variable {X : Cx} {ce : ExcT} {Wx : WX} {G : Gm}
abbrev SE (X : Cx) (ce : ExcT) (Wx : WX) (G : Gm) (a : E) (e : Expr) : Prop := SndE X ce Wx (W G a) e
abbrev e1 (a : E) : Es := .cons a .nil
abbrev e2 (a b : E) : Es := .cons a (.cons b .nil)
abbrev e3 (a b c : E) : Es := .cons a (.cons b (.cons c .nil))

/-! ### one operand, two operands -/
theorem lift1 {f : PF} {a : E} {σ : SV} {H : Hp} {Q : VK} (h : liftV X.K ce Wx (vPrim G f (e1 a)) σ H Q) : liftO X.K ce Wx (W G a).o σ H fun x H1 => rP X.K f [x] H1 Q := by
  obtain ⟨F, τ, ρ, Q0, E0, hl, R, q, hQ, hE⟩ := h
  refine ⟨F, τ, ρ, _, E0, hl, R, q, fun x ρ1 F1 H1 v q1 l1 s1 R1 a1 => ?_, hE⟩
  exact prim_end (vs := [v]) (os := [x]) (by simpa [opsZ] using R1) l1 s1 ⟨a1, trivial⟩ q1 hQ
theorem lift2 {f : PF} {a b : E} {σ : SV} {H : Hp} {Q : VK} (h : liftV X.K ce Wx (vPrim G f (e2 a b)) σ H Q) :
    liftO X.K ce Wx (W G a).o σ H fun x H1 => liftO X.K ce Wx (W G b).o σ H1 fun y H2 => rP X.K f [x, y] H2 Q := by
  obtain ⟨F, τ, ρ, Q0, E0, hl, R, q, hQ, hE⟩ := h
  refine ⟨F, τ, ρ, _, E0, hl, R, q, fun x ρ1 F1 H1 v q1 l1 s1 R1 a1 => ?_, hE⟩
  refine ⟨F1, opZ x v ++ τ, ρ1, _, E0, l1, by rw [ZE, List.append_assoc]; exact R1, q1, fun y ρ2 F2 H2 w q2 l2 s2 R2 a2 => ?_, hE.sub s1⟩
  refine prim_end (vs := [v, w]) (os := [x, y]) ?_ l2 (Same.tr s1 s2) ⟨a1, a2, trivial⟩ q2 hQ
  simpa [opsZ, ZE] using R2
/-- .. as a test -/
theorem lift2t {f : PF} {a b : E} {σ : SV} {H : Hp} {Q : Bool → Hp → Prop} (hf : isCmp f = true) (h : liftT X.K ce Wx (W G (.prim f (e2 a b))).t σ H Q) :
    liftO X.K ce Wx (W G a).o σ H fun x H1 => liftO X.K ce Wx (W G b).o σ H1 fun y H2 => rP X.K f [x, y] H2 fun z H' => ∃ k, z = .bl k ∧ Q k H' := by
  obtain ⟨F, τ, ρ, Q0, E0, hl, R, q, hQ, hE⟩ := h
  refine ⟨F, τ, ρ, _, E0, hl, R, q, fun x ρ1 F1 H1 v q1 l1 s1 R1 a1 => ?_, hE⟩
  refine ⟨F1, opZ x v ++ τ, ρ1, _, E0, l1, by rw [ZE, List.append_assoc]; exact R1, q1, fun y ρ2 F2 H2 w q2 l2 s2 R2 a2 => ?_, hE.sub s1⟩
  have q3 : (match gets ρ2 [x, y] with
      | some ds => psem f ds fun r => (truthK (.v r) ρ2 fun b => Q0 b ρ2) ∧ ∃ b, r = .d (.bool b)
      | none => False : Prop) := by
    have q2 : (match gets ρ2 [x, y] with
        | some ds => psem f ds fun r => truthK (.v r) ρ2 fun b => Q0 b ρ2
        | none => False : Prop) := q2
    cases e : gets ρ2 [x, y] with
    | none => rw [e] at q2; exact q2
    | some ds => rw [e] at q2; exact psem_bool hf q2
  refine prim_end (F := F) (τ := τ) (Q0 := fun r ρ' => (truthK (.v r) ρ' fun b => Q0 b ρ') ∧ ∃ b, r = .d (.bool b)) (vs := [v, w]) (os := [x, y]) ?_ l2 (Same.tr s1 s2) ⟨a1, a2, trivial⟩ q3 fun r ρ' F' H' z g l s R' => ?_
  · simpa [opsZ, ZE] using R2
  · obtain ⟨g1, b, rfl⟩ := g
    cases (show DD X.K F' z (.bool b) from R'.head)
    exact ⟨b, rfl, hQ b ρ' F' H' g1.2 l s R'.tail⟩
theorem lift1t {f : PF} {a : E} {σ : SV} {H : Hp} {Q : Bool → Hp → Prop} (hf : isCmp f = true) (h : liftT X.K ce Wx (W G (.prim f (e1 a))).t σ H Q) :
    liftO X.K ce Wx (W G a).o σ H fun x H1 => rP X.K f [x] H1 fun z H' => ∃ k, z = .bl k ∧ Q k H' := by
  obtain ⟨F, τ, ρ, Q0, E0, hl, R, q, hQ, hE⟩ := h
  refine ⟨F, τ, ρ, _, E0, hl, R, q, fun x ρ2 F2 H2 w q2 l2 s2 R2 a2 => ?_, hE⟩
  have q3 : (match gets ρ2 [x] with
      | some ds => psem f ds fun r => (truthK (.v r) ρ2 fun b => Q0 b ρ2) ∧ ∃ b, r = .d (.bool b)
      | none => False : Prop) := by
    have q2 : (match gets ρ2 [x] with
        | some ds => psem f ds fun r => truthK (.v r) ρ2 fun b => Q0 b ρ2
        | none => False : Prop) := q2
    cases e : gets ρ2 [x] with
    | none => rw [e] at q2; exact q2
    | some ds => rw [e] at q2; exact psem_bool hf q2
  refine prim_end (F := F) (τ := τ) (Q0 := fun r ρ' => (truthK (.v r) ρ' fun b => Q0 b ρ') ∧ ∃ b, r = .d (.bool b)) (vs := [w]) (os := [x]) (by simpa [opsZ] using R2) l2 s2 ⟨a2, trivial⟩ q3 fun r ρ' F' H' z g l s R' => ?_
  obtain ⟨g1, b, rfl⟩ := g
  cases (show DD X.K F' z (.bool b) from R'.head)
  exact ⟨b, rfl, hQ b ρ' F' H' g1.2 l s R'.tail⟩
theorem s_bin {f : PF} {op : Operator} {a b : E} {x y : Expr} {pos : Pos} (ho : OpR X (binaryOp op) fun u v => rP X.K f [u, v]) (ha : SE X ce Wx G a x) (hb : SE X ce Wx G b y) : SE X ce Wx G (.prim f (e2 a b)) (.BinOp x op y pos) :=
  sm_ofV rfl rfl (PE.imp (pe_op ho ha.o hb.o) fun _ _ _ h => lift2 h)
theorem s_cmp {f : PF} {op : CmpOp} {a b : E} {x y : Expr} {pos : Pos} (hf : isCmp f = true) (ho : OpR X (compareOp op) fun u v => rP X.K f [u, v]) (hy : isSet y = false) (ha : SE X ce Wx G a x) (hb : SE X ce Wx G b y) :
    SE X ce Wx G (.prim f (e2 a b)) (.Compare x [op] [y] pos) :=
  have hv : PE X (.Compare x [op] [y] pos) (liftV X.K ce Wx (vPrim G f (e2 a b))) := PE.imp (pe_cmpR ho ha.o hb.o (nobeh hy)) fun _ _ _ h => lift2 h
  ⟨hv, o_of_v hv, PT.imp (pt_cmpR ho ha.o hb.o (nobeh hy)) fun _ _ _ h => lift2t hf h, hv, rfl⟩
theorem s_isN {f : PF} {op : CmpOp} {a : E} {x : Expr} {k : Nat} {p pos : Pos} (hf : isCmp f = true) (ho : OpR X (compareOp op) fun u v H Q => v = .non ∧ rP X.K f [u] H Q) (ha : SE X ce Wx G a x) :
    SE X ce Wx G (.prim f (e1 a)) (.Compare x [op] [.Constant .none k p] pos) :=
  have hv : PE X (.Compare x [op] [.Constant .none k p] pos) (liftV X.K ce Wx (vPrim G f (e1 a))) := PE.imp (pe_cmpR ho ha.o pe_non (nobeh rfl)) fun σ H Q h => by
    obtain ⟨F, τ, ρ, Q0, E0, hl, R, q, hQ, hE⟩ := lift1 h
    exact ⟨F, τ, ρ, Q0, E0, hl, R, q, fun o ρ' F' H' v g1 g2 g3 g4 g5 => ⟨rfl, hQ o ρ' F' H' v g1 g2 g3 g4 g5⟩, hE⟩
  ⟨hv, o_of_v hv, PT.imp (pt_cmpR ho ha.o pe_non (nobeh rfl)) fun σ H Q h => by
    obtain ⟨F, τ, ρ, Q0, E0, hl, R, q, hQ, hE⟩ := lift1t hf h
    exact ⟨F, τ, ρ, Q0, E0, hl, R, q, fun o ρ' F' H' v g1 g2 g3 g4 g5 => ⟨rfl, hQ o ρ' F' H' v g1 g2 g3 g4 g5⟩, hE⟩, hv, rfl⟩
theorem s_un {f : PF} {op : UnaryOp} {a : E} {x : Expr} {pos : Pos} (hop : plainT (.UnaryOp op x pos) = true) (ho : UnR X (unaryOp op) fun u => rP X.K f [u]) (ha : SE X ce Wx G a x) : SE X ce Wx G (.prim f (e1 a)) (.UnaryOp op x pos) :=
  sm_ofV rfl hop (PE.imp (pe_un ho ha.o) fun _ _ _ h => lift1 h)
theorem s_ix {a b : E} {x y : Expr} {pos : Pos} (hu : X.A.units + 65 < cLine) (hy : isSlice y = false) (ha : SE X ce Wx G a x) (hb : SE X ce Wx G b y) : SE X ce Wx G (.prim .index (e2 a b)) (.Subscript x y pos) :=
  sm_ofV rfl rfl (PE.imp (pe_ix (i_ix hu) ha.o hb.o (plain_ix hy)) fun _ _ _ h => lift2 h)

/-! ### slices -/
theorem rP_slice {lo hi : Bool} {x : V} {vs : List V} {l u : Option Int} {H : Hp} {Q : VK} (h : rP X.K (.slice lo hi) (x :: vs) H Q)
    (hk : ∀ p ds k, psem (.slice lo hi) (p :: ds) k → DVs X.K (fun _ => none) H [] [] → ∀ F, DVs X.K F H vs ds → sliceD p l u k) :
    ∃ F p, Same F H ∧ DV X.K F H x p ∧ sliceD p l u fun r => ∀ z H', Made X.K F H r z H' → Q z H' := by
  obtain ⟨F, ds, hs, hd, h⟩ := h
  obtain ⟨p, es, rfl, h1, h2⟩ := dvs_cons hd
  exact ⟨F, p, hs, h1, hk p es _ h trivial F h2⟩
theorem s_slice0 {a : E} {x : Expr} {p pos : Pos} (ha : SE X ce Wx G a x) : SE X ce Wx G (.prim (.slice false false) (e1 a)) (.Subscript x (.Slice none none none p) pos) := by
  refine sm_ofV rfl rfl (PE.imp (pe_slice s_slice ha.o po_none po_none) fun σ H Q h => ?_)
  obtain ⟨F, τ, ρ, Q0, E0, hl, R, q, hQ, hE⟩ := lift1 h
  refine ⟨F, τ, ρ, Q0, E0, hl, R, q, fun o ρ' F' H' v g1 g2 g3 g4 g5 => ?_, hE⟩
  exact rP_slice (hQ o ρ' F' H' v g1 g2 g3 g4 g5) fun p ds k h _ F hd => by
    obtain rfl := dvs0 hd
    exact h
theorem int_of {F H : Hp} {v : V} {p : PyData} (h : DV X.K F H v p) {i : Int} (e : p = .int i) : v = .int i := by
  subst e
  exact dv_int h
theorem s_slice1 {a b : E} {x y : Expr} {p pos : Pos} (ha : SE X ce Wx G a x) (hb : SE X ce Wx G b y) : SE X ce Wx G (.prim (.slice true false) (e2 a b)) (.Subscript x (.Slice (some y) none none p) pos) := by
  refine sm_ofV rfl rfl (PE.imp (pe_slice s_slice ha.o (po_some hb.o) po_none) fun σ H Q h => ?_)
  obtain ⟨F, τ, ρ, Q0, E0, hl, R, q, hQ, hE⟩ := lift2 h
  refine ⟨F, τ, ρ, Q0, E0, hl, R, q, fun o ρ' F' H' v g1 g2 g3 g4 g5 => ?_, hE⟩
  obtain ⟨F, τ, ρ, Q0, E0, hl, R, q, hQ, hE⟩ := hQ o ρ' F' H' v g1 g2 g3 g4 g5
  refine ⟨F, τ, ρ, Q0, E0, hl, R, q, fun o ρ' F' H' w g1 g2 g3 g4 g5 => ?_, hE⟩
  obtain ⟨F, ds, hs, hd, h⟩ := hQ o ρ' F' H' w g1 g2 g3 g4 g5
  obtain ⟨d, e, rfl, h1, h2⟩ := dvs2 hd
  cases e <;> try exact False.elim h
  case int i =>
    obtain rfl := dv_int h2
    exact ⟨i, rfl, F, d, hs, h1, h⟩
theorem s_slice2 {a b : E} {x y : Expr} {p pos : Pos} (ha : SE X ce Wx G a x) (hb : SE X ce Wx G b y) : SE X ce Wx G (.prim (.slice false true) (e2 a b)) (.Subscript x (.Slice none (some y) none p) pos) := by
  refine sm_ofV rfl rfl (PE.imp (pe_slice s_slice ha.o po_none (po_some hb.o)) fun σ H Q h => ?_)
  obtain ⟨F, τ, ρ, Q0, E0, hl, R, q, hQ, hE⟩ := lift2 h
  refine ⟨F, τ, ρ, Q0, E0, hl, R, q, fun o ρ' F' H' v g1 g2 g3 g4 g5 => ?_, hE⟩
  obtain ⟨F, τ, ρ, Q0, E0, hl, R, q, hQ, hE⟩ := hQ o ρ' F' H' v g1 g2 g3 g4 g5
  refine ⟨F, τ, ρ, Q0, E0, hl, R, q, fun o ρ' F' H' w g1 g2 g3 g4 g5 => ?_, hE⟩
  obtain ⟨F, ds, hs, hd, h⟩ := hQ o ρ' F' H' w g1 g2 g3 g4 g5
  obtain ⟨d, e, rfl, h1, h2⟩ := dvs2 hd
  cases e <;> try exact False.elim h
  case int i =>
    obtain rfl := dv_int h2
    exact ⟨i, rfl, F, d, hs, h1, h⟩
theorem lift3 {f : PF} {a b c : E} {σ : SV} {H : Hp} {Q : VK} (h : liftV X.K ce Wx (vPrim G f (e3 a b c)) σ H Q) :
    liftO X.K ce Wx (W G a).o σ H fun x H1 => liftO X.K ce Wx (W G b).o σ H1 fun y H2 => liftO X.K ce Wx (W G c).o σ H2 fun z H3 => rP X.K f [x, y, z] H3 Q := by
  obtain ⟨F, τ, ρ, Q0, E0, hl, R, q, hQ, hE⟩ := h
  refine ⟨F, τ, ρ, _, E0, hl, R, q, fun x ρ1 F1 H1 v q1 l1 s1 R1 a1 => ?_, hE⟩
  refine ⟨F1, opZ x v ++ τ, ρ1, _, E0, l1, by rw [ZE, List.append_assoc]; exact R1, q1, fun y ρ2 F2 H2 w q2 l2 s2 R2 a2 => ?_, hE.sub s1⟩
  refine ⟨F2, opZ y w ++ (opZ x v ++ τ), ρ2, _, E0, l2, by rw [ZE, List.append_assoc]; exact R2, q2, fun z ρ3 F3 H3 u q3 l3 s3 R3 a3 => ?_, (hE.sub s1).sub s2⟩
  refine prim_end (vs := [v, w, u]) (os := [x, y, z]) ?_ l3 (Same.tr s1 (Same.tr s2 s3)) ⟨a1, a2, a3, trivial⟩ q3 hQ
  simpa [opsZ, ZE] using R3
theorem s_sl {a b c : E} {x y z : Expr} {p pos : Pos} (ha : SE X ce Wx G a x) (hb : SE X ce Wx G b y) (hc : SE X ce Wx G c z) : SE X ce Wx G (.sl a b c) (.Subscript x (.Slice (some y) (some z) none p) pos) := by
  refine sm_ofV rfl rfl (PE.imp (pe_slice s_slice ha.o (po_some hb.v) (po_some hc.v)) ?_)
  rintro σ H Q ⟨F, τ, ρ, Q0, E0, hl, R, q, hQ, hE⟩
  refine ⟨F, τ, ρ, _, E0, hl, R, q, fun x ρ1 F1 H1 v q1 l1 s1 R1 a1 => ?_, hE⟩
  refine ⟨F1, opZ x v ++ τ, ρ1, _, E0, l1, by rw [ZE, List.append_assoc]; exact R1, q1, fun r ρ2 F2 H2 w q2 l2 s2 R2 => ?_, hE.sub s1⟩
  cases r with
  | o _ => exact False.elim q2
  | t _ => exact False.elim q2
  | d r =>
    cases r <;> try exact False.elim q2
    case int i =>
      cases (show DD X.K F2 w (.int i) from R2.head)
      refine ⟨i, rfl, F2, opZ x v ++ τ, ρ2, _, E0, l2, R2.tail, q2, fun r ρ3 F3 H3 u q3 l3 s3 R3 => ?_, (hE.sub s1).le s2⟩
      cases r with
      | o _ => exact False.elim q3
      | t _ => exact False.elim q3
      | d r =>
        cases r <;> try exact False.elim q3
        case int j =>
          cases (show DD X.K F3 u (.int j) from R3.head)
          refine ⟨j, rfl, ?_⟩
          have q3 : (match x.get ρ3 with
              | some p => sliceD p (some i) (some j) fun r => Q0 r ρ3
              | none => False : Prop) := q3
          cases e : x.get ρ3 with
          | none => rw [e] at q3; exact q3.elim
          | some d =>
            rw [e] at q3
            have R4 : Rp X.K F3 H3 (opZ x v ++ ZE τ ρ3 σ) := by
              have := R3.tail
              rw [ZE, List.append_assoc] at this
              exact this
            refine ⟨F3, d, R4.sub, op_view R4 (fun p hp => hp) l3 a1 e, sliceD_mono (fun r hr z H' m => ?_) q3⟩
            obtain ⟨F', h1, h2⟩ := R4.made m
            exact hQ r ρ3 F' H' z hr l3 (Same.tr s1 (Same.tr s2 (Same.tr s3 h1))) h2.mid
theorem s_rev {a : E} {x : Expr} {k : Nat} {p1 p2 p3 pos : Pos} (ha : SE X ce Wx G a x) : SE X ce Wx G (.prim .rev (e1 a)) (.Subscript x (.Slice none none (some (.UnaryOp .USub (.Constant (.int 1) k p1) p2)) p3) pos) := by
  refine sm_ofV rfl rfl (PE.imp (pe_revL ha.o) fun σ H Q h => ?_)
  obtain ⟨F, τ, ρ, Q0, E0, hl, R, q, hQ, hE⟩ := lift1 h
  refine ⟨F, τ, ρ, Q0, E0, hl, R, q, fun o ρ' F' H' v g1 g2 g3 g4 g5 => ?_, hE⟩
  obtain ⟨F, ds, hs, hd, h⟩ := hQ o ρ' F' H' v g1 g2 g3 g4 g5
  obtain ⟨d, rfl, h1⟩ := dvs1 hd
  cases d <;> try exact False.elim h
  case list xs =>
    obtain ⟨a, vs, rfl, k1, k2⟩ := h1
    exact ⟨a, vs, rfl, .inl (.inl k1), fun p hp => h _ _ (made_lst hs hp (dps_rev k2))⟩

/-! ### calls of builtins -/
theorem lift_os {f : PF} {as : Es} {σ : SV} {H : Hp} {Q : VK} (h : liftV X.K ce Wx (vPrim G f as) σ H Q) : tCB (rP X.K f) (liftOs X.K ce Wx (Ws G as).os) σ H Q := by
  obtain ⟨F, τ, ρ, Q0, E0, hl, R, q, hQ, hE⟩ := h
  exact ⟨F, τ, ρ, _, E0, hl, R, q, fun os ρ1 F1 H1 vs q1 l1 s1 R1 a1 => prim_end R1 l1 s1 a1 q1 hQ, hE⟩
theorem nostars : ∀ {as : Es} {es : List Expr} {env : Env} {p : Pos}, SndEs X ce Wx G as es → (backTo p (starEach es env)).any (·.1) = false
  | .nil, [], _, _, _ => rfl
  | .cons a as, e :: es, env, p, h => by
    rw [star_cons h.1.ns]
    show (false || (backTo p (starEach es env)).any (·.1)) = false
    rw [nostars h.2]
    rfl
  | .nil, _ :: _, _, _, h => False.elim h
  | .cons _ _, [], _, _, h => False.elim h
theorem s_callB {f : PF} {id : String} {x : Str} {a : E} {as : Es} {e : Expr} {es : List Expr} {p pos : Pos} (hc : CallR X (.builtin id) (rP X.K f)) (hg : Gl X x) (hm : X.mg x = none) (hv : bootBuiltins x = some (.builtin id))
    (ha : SndEs X ce Wx G (.cons a as) (e :: es)) (hn : x ≠ "__name__") (hdb : (x == ("__debug__" : Str)) = false) : SE X ce Wx G (.prim f (.cons a as)) (.Call (.Name x p) (e :: es) [] pos) :=
  sm_ofV rfl rfl (PE.imp (pe_callB hc hg hm hv (pa_os ha) hn hdb (star_cons ha.1.ns) (nostars ha.2)) fun _ _ _ h => lift_os h)
theorem s_callT {f : PF} {id : String} {x : Str} {a : E} {as : Es} {e : Expr} {es : List Expr} {p pos : Pos} (hc : CallR X (.type id) (rP X.K f)) (hg : Gl X x) (hm : X.mg x = none) (hv : bootBuiltins x = some (.type id))
    (ha : SndEs X ce Wx G (.cons a as) (e :: es)) (hn : x ≠ "__name__") (hdb : (x == ("__debug__" : Str)) = false) : SE X ce Wx G (.prim f (.cons a as)) (.Call (.Name x p) (e :: es) [] pos) :=
  sm_ofV rfl rfl (PE.imp (pe_callTy hc hg hm hv (pa_os ha) hn hdb (star_cons ha.1.ns) (nostars ha.2)) fun _ _ _ h => lift_os h)
theorem s_isi {t : Ty} {x n : Str} {a : E} {e : Expr} {p p2 pos : Pos} (hg : Gl X x) (hm : X.mg x = none) (hv : bootBuiltins x = some (.builtin "isinstance")) (hn : x ≠ "__name__") (hdb : (x == ("__debug__" : Str)) = false)
    (hg2 : Gl X n) (hm2 : X.mg n = none) (hv2 : bootBuiltins n = some (.type (tyName t))) (hn2 : n ≠ "__name__") (hdb2 : (n == ("__debug__" : Str)) = false) (ha : SE X ce Wx G a e) :
    SE X ce Wx G (.prim (.isi t) (e1 a)) (.Call (.Name x p) [e, .Name n p2] [] pos) := by
  refine sm_ofV rfl rfl (PE.imp (pe_callB (k_isi t) hg hm hv (pa_cons ha.o (pa_cons (pe_bltn hg2 hm2 hv2 (v := .ty (tyName t)) rfl hn2 hdb2) pa_nil) (star_cons ha.ns)) hn hdb (star_cons ha.ns)) fun σ H Q h => ?_)
  obtain ⟨F, τ, ρ, Q0, E0, hl, R, q, hQ, hE⟩ := lift1 h
  exact ⟨F, τ, ρ, Q0, E0, hl, R, q, fun o ρ' F' H' v g1 g2 g3 g4 g5 => ⟨v, rfl, hQ o ρ' F' H' v g1 g2 g3 g4 g5⟩, hE⟩

/-! ### methods that are read alone -/
theorem tyV_of {t : Ty} {F H : Hp} {v : V} {d : PyData} (hs : Same F H) (h : DV X.K F H v d) (e : tyM d = t) (ht : t = .str ∨ t = .list) : tyV X.K (tyName t) v H := by
  subst e
  cases d with
  | str z => obtain rfl := dv_str h; rfl
  | list xs =>
    obtain ⟨a, vs, rfl, h1, _⟩ := h
    exact .inl ⟨rfl, vs, .inl (.inl h1)⟩
  | none => rcases ht with ht | ht <;> cases ht
  | bool _ => rcases ht with ht | ht <;> cases ht
  | int _ => rcases ht with ht | ht <;> cases ht
  | tuple _ => rcases ht with ht | ht <;> cases ht
  | dict kvs =>
    exfalso
    have e : tyM (.dict kvs) = Ty.dict ∨ tyM (.dict kvs) = Ty.none := by
      show (if dkd kvs = true then Ty.dict else Ty.none) = Ty.dict ∨ (if dkd kvs = true then Ty.dict else Ty.none) = Ty.none
      split
      · exact .inl rfl
      · exact .inr rfl
    rcases e with e | e <;> rcases ht with ht | ht <;> rw [e] at ht <;> cases ht
theorem allplain : ∀ {as : Es} {es : List Expr} {env : Env} {p : Pos}, SndEs X ce Wx G as es → ((backTo p (starEach es env)).all fun x => !x.1) = true
  | .nil, [], _, _, _ => rfl
  | .cons a as, e :: es, env, p, h => by
    rw [star_cons h.1.ns]
    show (!false && (backTo p (starEach es env)).all fun x => !x.1) = true
    rw [allplain h.2]
    rfl
  | .nil, _ :: _, _, _, h => False.elim h
  | .cons _ _, [], _, _, h => False.elim h
theorem s_meth {t : Ty} {f : PF} {name : Str} {id : String} {o : Expr} {a b : E} {as : Es} {e : Expr} {es : List Expr} {apos cpos : Pos} (ht : t = .str ∨ t = .list) (pa : PlainAttrs (tyName t)) (slot : Slot (tyName t) name id)
    (hty : typeOf (Value.builtin id) = pure (Value.type "method_descriptor")) (hm : MtR X id fun x xs => rP X.K f (x :: xs)) (ho : SE X ce Wx G a o) (ha : SndEs X ce Wx G (.cons b as) (e :: es)) (hb : bareCall o = false)
    (hl : es.length < 20) (hap : (apos.endLine == cpos.line) = true) : SE X ce Wx G (.meth t f a (.cons b as)) (.Call (.Attribute o name apos) (e :: es) [] cpos) := by
  refine sm_ofV rfl rfl (PE.imp (pe_bm pa slot hty hm ho.o (pa_os ha) (attr_base hb) ?_ hap (star_cons ha.1.ns) (nostars ha.2)) ?_)
  · rw [allplain ha]
    show (true && true && decide (es.length + 1 + 0 + 0 < 30)) = true
    simp
    omega
  · rintro σ H Q ⟨F, τ, ρ, Q0, E0, hl, R, q, hQ, hE⟩
    refine ⟨F, τ, ρ, _, E0, hl, R, q, fun x ρ1 F1 H1 v q1 l1 s1 R1 a1 => ?_, hE⟩
    obtain ⟨⟨d, e1, e2⟩, q1⟩ := q1
    refine ⟨tyV_of R1.sub (op_view R1 (fun p hp => hp) l1 a1 e1) e2 ht, F1, opZ x v ++ τ, ρ1, _, E0, l1, by rw [ZE, List.append_assoc]; exact R1, q1, fun os ρ2 F2 H2 vs q2 l2 s2 R2 a2 => ?_, hE.sub s1⟩
    refine prim_end (os := x :: os) (vs := v :: vs) ?_ l2 (Same.tr s1 s2) ⟨a1, a2⟩ q2 hQ
    have : opsZ (x :: os) (v :: vs) ++ ZE τ ρ2 σ = opsZ os vs ++ ZE (opZ x v ++ τ) ρ2 σ := by simp [opsZ, ZE]
    rw [this]
    exact R2
end
end FX
set_option maxHeartbeats 2000000
namespace FX
variable [Wc]
open PySem PySem.Spec PyProof.Rows L2
section
variable {X : Cx} {ce : ExcT} {Wx : WX} {G : Gm}

/-! ### and, or, not, if else -/
theorem bl_of {F : Hp} {v : V} {b : Bool} (h : DD X.K F v (.bool b)) : v = .bl b := by
  cases h
  rfl
theorem v_and : ∀ {a : E} {as : Es} {e : Expr} {es : List Expr} {pos : Pos}, SndEs X ce Wx G (.cons a as) (e :: es) → PE X (.BoolOp .And (e :: es) pos) (liftV X.K ce Wx (Ws G (.cons a as)).andV)
  | a, .nil, e, [], pos, h => pe_one h.1.v
  | a, .cons b as, e, f :: es, pos, h => by
    refine PE.imp (pe_and h.1.v (v_and h.2)) ?_
    rintro σ H Q ⟨F, τ, ρ, Q0, E0, hl, R, q, hQ, hE⟩
    refine ⟨F, τ, ρ, _, E0, hl, R, q, fun r ρ1 F1 H1 v q1 l1 s1 R1 => ?_, hE⟩
    cases r with
    | o _ => exact False.elim q1
    | t _ => exact False.elim q1
    | d r =>
      cases r <;> try exact False.elim q1
      case bool k =>
        obtain rfl := bl_of (X := X) R1.head
        refine ⟨k, rfl, ?_⟩
        cases k with
        | true => exact ⟨F1, τ, ρ1, Q0, E0, l1, R1.tail, q1, fun r ρ' F' H' v a b c d => hQ r ρ' F' H' v a b (Same.tr s1 c) d, hE.le s1⟩
        | false => exact hQ _ ρ1 F1 H1 _ q1 l1 s1 R1
  | _, .nil, _, _ :: _, _, h => False.elim h.2
  | _, .cons _ _, _, [], _, h => False.elim h.2
theorem v_or : ∀ {a : E} {as : Es} {e : Expr} {es : List Expr} {pos : Pos}, SndEs X ce Wx G (.cons a as) (e :: es) → PE X (.BoolOp .Or (e :: es) pos) (liftV X.K ce Wx (Ws G (.cons a as)).orV)
  | a, .nil, e, [], pos, h => pe_one h.1.v
  | a, .cons b as, e, f :: es, pos, h => by
    refine PE.imp (pe_or h.1.v (v_or h.2)) ?_
    rintro σ H Q ⟨F, τ, ρ, Q0, E0, hl, R, q, hQ, hE⟩
    refine ⟨F, τ, ρ, _, E0, hl, R, q, fun r ρ1 F1 H1 v q1 l1 s1 R1 => ?_, hE⟩
    cases r with
    | o _ => exact False.elim q1
    | t _ => exact False.elim q1
    | d r =>
      cases r <;> try exact False.elim q1
      case bool k =>
        obtain rfl := bl_of (X := X) R1.head
        refine ⟨k, rfl, ?_⟩
        cases k with
        | false => exact ⟨F1, τ, ρ1, Q0, E0, l1, R1.tail, q1, fun r ρ' F' H' v a b c d => hQ r ρ' F' H' v a b (Same.tr s1 c) d, hE.le s1⟩
        | true => exact hQ _ ρ1 F1 H1 _ q1 l1 s1 R1
  | _, .nil, _, _ :: _, _, h => False.elim h.2
  | _, .cons _ _, _, [], _, h => False.elim h.2
theorem t_and : ∀ {a : E} {as : Es} {e : Expr} {es : List Expr} {pos : Pos}, SndEs X ce Wx G (.cons a as) (e :: es) → PW X (.BoolOp .And (e :: es) pos) (liftT X.K ce Wx (Ws G (.cons a as)).andT)
  | a, .nil, e, [], pos, h => by
    refine ⟨fun wh pins s σ H Q I hq => (pw_and1 h.1.t).run wh pins s σ H Q I ?_⟩
    obtain ⟨F, τ, ρ, Q0, E0, hl, R, q, hQ, hE⟩ := hq
    refine ⟨F, τ, ρ, _, E0, hl, R, q, fun b ρ1 F1 H1 q1 l1 s1 R1 => ?_, hE⟩
    cases b with
    | true => exact hQ true ρ1 F1 H1 q1 l1 s1 R1
    | false => exact hQ false ρ1 F1 H1 q1 l1 s1 R1
  | a, .cons b as, e, f :: es, pos, h => by
    refine ⟨fun wh pins s σ H Q I hq => (pw_and h.1.t (t_and h.2)).run wh pins s σ H Q I ?_⟩
    obtain ⟨F, τ, ρ, Q0, E0, hl, R, q, hQ, hE⟩ := hq
    refine ⟨F, τ, ρ, _, E0, hl, R, q, fun b ρ1 F1 H1 q1 l1 s1 R1 => ?_, hE⟩
    cases b with
    | true => exact ⟨F1, τ, ρ1, Q0, E0, l1, R1, q1, fun r ρ' F' H' a b c d => hQ r ρ' F' H' a b (Same.tr s1 c) d, hE.le s1⟩
    | false => exact hQ false ρ1 F1 H1 q1 l1 s1 R1
  | _, .nil, _, _ :: _, _, h => False.elim h.2
  | _, .cons _ _, _, [], _, h => False.elim h.2
theorem t_or : ∀ {a : E} {as : Es} {e : Expr} {es : List Expr} {pos : Pos}, SndEs X ce Wx G (.cons a as) (e :: es) → PW X (.BoolOp .Or (e :: es) pos) (liftT X.K ce Wx (Ws G (.cons a as)).orT)
  | a, .nil, e, [], pos, h => by
    refine ⟨fun wh pins s σ H Q I hq => (pw_or1 h.1.t).run wh pins s σ H Q I ?_⟩
    obtain ⟨F, τ, ρ, Q0, E0, hl, R, q, hQ, hE⟩ := hq
    refine ⟨F, τ, ρ, _, E0, hl, R, q, fun b ρ1 F1 H1 q1 l1 s1 R1 => ?_, hE⟩
    cases b with
    | true => exact hQ true ρ1 F1 H1 q1 l1 s1 R1
    | false => exact hQ false ρ1 F1 H1 q1 l1 s1 R1
  | a, .cons b as, e, f :: es, pos, h => by
    refine ⟨fun wh pins s σ H Q I hq => (pw_or h.1.t (t_or h.2)).run wh pins s σ H Q I ?_⟩
    obtain ⟨F, τ, ρ, Q0, E0, hl, R, q, hQ, hE⟩ := hq
    refine ⟨F, τ, ρ, _, E0, hl, R, q, fun b ρ1 F1 H1 q1 l1 s1 R1 => ?_, hE⟩
    cases b with
    | false => exact ⟨F1, τ, ρ1, Q0, E0, l1, R1, q1, fun r ρ' F' H' a b c d => hQ r ρ' F' H' a b (Same.tr s1 c) d, hE.le s1⟩
    | true => exact hQ true ρ1 F1 H1 q1 l1 s1 R1
  | _, .nil, _, _ :: _, _, h => False.elim h.2
  | _, .cons _ _, _, [], _, h => False.elim h.2
theorem s_ands {a : E} {as : Es} {e : Expr} {es : List Expr} {pos : Pos} (h : SndEs X ce Wx G (.cons a as) (e :: es)) : SE X ce Wx G (.ands (.cons a as)) (.BoolOp .And (e :: es) pos) :=
  ⟨v_and h, o_of_v (v_and h), (t_and h).pt, v_and h, rfl⟩
theorem s_ors {a : E} {as : Es} {e : Expr} {es : List Expr} {pos : Pos} (h : SndEs X ce Wx G (.cons a as) (e :: es)) : SE X ce Wx G (.ors (.cons a as)) (.BoolOp .Or (e :: es) pos) :=
  ⟨v_or h, o_of_v (v_or h), (t_or h).pt, v_or h, rfl⟩
theorem s_not {a : E} {e : Expr} {pos : Pos} (h : SE X ce Wx G a e) : SE X ce Wx G (.nt a) (.UnaryOp .Not e pos) := by
  have hv : PE X (.UnaryOp .Not e pos) (liftV X.K ce Wx (W G (.nt a)).v) := by
    refine PE.imp (pe_not h.v) ?_
    rintro σ H Q ⟨F, τ, ρ, Q0, E0, hl, R, q, hQ, hE⟩
    refine ⟨F, τ, ρ, _, E0, hl, R, q, fun r ρ1 F1 H1 v q1 l1 s1 R1 => ?_, hE⟩
    cases r with
    | o _ => exact False.elim q1
    | t _ => exact False.elim q1
    | d r =>
      cases r <;> try exact False.elim q1
      case bool k =>
        obtain rfl := bl_of (X := X) R1.head
        exact ⟨k, rfl, hQ _ ρ1 F1 H1 _ q1 l1 s1 (R1.tail.consD (.bl _))⟩
  have ho : PE X (.UnaryOp .Not e pos) (liftO X.K ce Wx (W G (.nt a)).o) := by
    refine PE.imp (pe_not h.v) ?_
    rintro σ H Q ⟨F, τ, ρ, Q0, E0, hl, R, q, hQ, hE⟩
    refine ⟨F, τ, ρ, _, E0, hl, R, q, fun r ρ1 F1 H1 v q1 l1 s1 R1 => ?_, hE⟩
    cases r with
    | o _ => exact False.elim q1
    | t _ => exact False.elim q1
    | d r =>
      cases r <;> try exact False.elim q1
      case bool k =>
        obtain rfl := bl_of (X := X) R1.head
        exact ⟨k, rfl, hQ _ ρ1 F1 H1 _ q1 l1 s1 (R1.tail.consD (.bl _)) trivial⟩
  refine ⟨hv, ho, PT.imp (pt_not h.t) ?_, hv, rfl⟩
  rintro σ H Q ⟨F, τ, ρ, Q0, E0, hl, R, q, hQ, hE⟩
  exact ⟨F, τ, ρ, _, E0, hl, R, q, fun b ρ1 F1 H1 q1 l1 s1 R1 => hQ _ ρ1 F1 H1 q1 l1 s1 R1, hE⟩
theorem pt_ifx {c a b : Expr} {pos : Pos} {tc ta tb : TT} (hc : PT X c tc) (ha : PT X a ta) (hb : PT X b tb) : PT X (.IfExp c a b pos) (fun σ H Q => tc σ H fun k H1 => if k = true then ta σ H1 Q else tb σ H1 Q) := by
  constructor
  intro pins s σ H Q I h
  refine isTrue_IfExp (thn (hc.run pins s σ H _ I h) fun d s1 hd => ?_)
  obtain ⟨H1, I1, q1⟩ := hd
  cases d with
  | true => exact ha.run pins s1 σ H1 Q I1 q1
  | false => exact hb.run pins s1 σ H1 Q I1 q1
theorem ite_v {c : FE → (Bool → FE → Prop) → KX → Prop} {a b : FE → KQ → KX → Prop} {σ : SV} {H : Hp} {Q : VK}
    (h : liftV X.K ce Wx (fun ρ Q E => c ρ (fun k ρ' => if k = true then a ρ' Q E else b ρ' Q E) E) σ H Q) : liftT X.K ce Wx c σ H fun k H1 => if k = true then liftV X.K ce Wx a σ H1 Q else liftV X.K ce Wx b σ H1 Q := by
  obtain ⟨F, τ, ρ, Q0, E0, hl, R, q, hQ, hE⟩ := h
  refine ⟨F, τ, ρ, _, E0, hl, R, q, fun k ρ1 F1 H1 q1 l1 s1 R1 => ?_, hE⟩
  cases k with
  | true => exact ⟨F1, τ, ρ1, Q0, E0, l1, R1, q1, fun r ρ' F' H' v a b c d => hQ r ρ' F' H' v a b (Same.tr s1 c) d, hE.le s1⟩
  | false => exact ⟨F1, τ, ρ1, Q0, E0, l1, R1, q1, fun r ρ' F' H' v a b c d => hQ r ρ' F' H' v a b (Same.tr s1 c) d, hE.le s1⟩
theorem s_ite {c a b : E} {x y z : Expr} {pos : Pos} (hc : SE X ce Wx G c x) (ha : SE X ce Wx G a y) (hb : SE X ce Wx G b z) : SE X ce Wx G (.ite c a b) (.IfExp x y z pos) := by
  have hv : PE X (.IfExp x y z pos) (liftV X.K ce Wx (W G (.ite c a b)).v) := PE.imp (pe_ifExp hc.t ha.v hb.v) fun σ H Q h => ite_v h
  refine ⟨hv, ?_, ?_, PE.imp (pe_ifExp hc.t ha.m hb.m) fun σ H Q h => ite_v h, rfl⟩
  · refine PE.imp (pe_ifExp hc.t ha.v hb.v) ?_
    rintro σ H Q ⟨F, τ, ρ, Q0, E0, hl, R, q, hQ, hE⟩
    refine ⟨F, τ, ρ, _, E0, hl, R, q, fun k ρ1 F1 H1 q1 l1 s1 R1 => ?_, hE⟩
    cases k with
    | true => exact ⟨F1, τ, ρ1, _, E0, l1, R1, q1, fun r ρ' F' H' v a b c d => hQ (.v r) ρ' F' H' v a b (Same.tr s1 c) d trivial, hE.le s1⟩
    | false => exact ⟨F1, τ, ρ1, _, E0, l1, R1, q1, fun r ρ' F' H' v a b c d => hQ (.v r) ρ' F' H' v a b (Same.tr s1 c) d trivial, hE.le s1⟩
  · refine PT.imp (pt_ifx hc.t ha.t hb.t) ?_
    rintro σ H Q ⟨F, τ, ρ, Q0, E0, hl, R, q, hQ, hE⟩
    refine ⟨F, τ, ρ, _, E0, hl, R, q, fun k ρ1 F1 H1 q1 l1 s1 R1 => ?_, hE⟩
    cases k with
    | true => exact ⟨F1, τ, ρ1, Q0, E0, l1, R1, q1, fun r ρ' F' H' a b c d => hQ r ρ' F' H' a b (Same.tr s1 c) d, hE.le s1⟩
    | false => exact ⟨F1, τ, ρ1, Q0, E0, l1, R1, q1, fun r ρ' F' H' a b c d => hQ r ρ' F' H' a b (Same.tr s1 c) d, hE.le s1⟩

/-! ### a < b < c -/
theorem lift_chain {f g : PF} {a b c : E} {σ : SV} {H : Hp} {Q : VK} {v0 : FE → KQ → KX → Prop} (hv0 : v0 = (W G (.chain f g a b c)).v) (h : liftV X.K ce Wx v0 σ H Q) :
    tChain (fun x y => rP X.K f [x, y]) (fun x y => rP X.K g [x, y]) (liftO X.K ce Wx (W G a).o) (liftO X.K ce Wx (W G b).o) (liftO X.K ce Wx (W G c).o) σ H Q := by
  subst hv0
  obtain ⟨F, τ, ρ, Q0, E0, hl, R, q, hQ, hE⟩ := h
  refine ⟨F, τ, ρ, _, E0, hl, R, q, fun x ρ1 F1 H1 v q1 l1 s1 R1 a1 => ?_, hE⟩
  refine ⟨F1, opZ x v ++ τ, ρ1, _, E0, l1, by rw [ZE, List.append_assoc]; exact R1, q1, fun y ρ2 F2 H2 w q2 l2 s2 R2 a2 => ?_, hE.sub s1⟩
  have q2 : (match gets ρ2 [x, y] with
      | none => False
      | some ds => psem f ds fun r => match r with
        | .d (.bool k) => if k = true then (W G c).o ρ2 (fun z ρ3 => match gets ρ3 [y, z] with
            | none => False
            | some es => psem g es fun r => Q0 r ρ3) E0 else Q0 (.d (.bool false)) ρ2
        | _ => False : Prop) := q2
  have R2' : Rp X.K F2 H2 (opsZ [x, y] [v, w] ++ ZE τ ρ2 σ) := by simpa [opsZ, ZE] using R2
  cases e : gets ρ2 [x, y] with
  | none => rw [e] at q2; exact q2.elim
  | some ds =>
    rw [e] at q2
    refine ⟨F2, ds, R2.sub, ops_view R2' (fun p hp => hp) l2 ⟨a1, a2, trivial⟩ e, psem_mono (fun r hr z H' m => ?_) q2⟩
    obtain ⟨F3, s3, R3⟩ := R2'.made m
    cases r with
    | o _ => exact hr.elim
    | t _ => exact hr.elim
    | d r =>
      cases r <;> try exact False.elim hr
      case bool k =>
        obtain rfl := bl_of (X := X) R3.head
        refine ⟨k, rfl, ?_⟩
        cases k with
        | false => exact hQ _ ρ2 F3 H' _ hr l2 (Same.tr s1 (Same.tr s2 s3)) R3.mid
        | true =>
          refine ⟨F3, opZ y w ++ (opZ x v ++ τ), ρ2, _, E0, l2, ?_, hr, fun zz ρ3 F4 H4 u q4 l4 s4 R4 a4 => ?_, ((hE.sub s1).sub s2).le s3⟩
          · have := R3.tail
            simpa [opsZ, ZE] using this
          · refine prim_end (F := F) (τ := τ) (vs := [w, u]) (os := [y, zz]) (Q0 := Q0) ?_ l4 (Same.tr s1 (Same.tr s2 (Same.tr s3 s4))) ⟨a2, a4, trivial⟩ ?_ hQ
            · have h4 : Rp X.K F4 H4 ((opZ zz u ++ opZ y w) ++ (opZ x v ++ ZE τ ρ3 σ)) := by simpa [ZE] using R4
              simpa [opsZ, ZE] using Rp.mids h4
            · have q4 : (match gets ρ3 [y, zz] with
                  | none => False
                  | some es => psem g es fun r => Q0 r ρ3 : Prop) := q4
              cases e4 : gets ρ3 [y, zz] with
              | none => rw [e4] at q4; exact q4.elim
              | some es => rw [e4] at q4; exact q4
theorem s_chain {f g : PF} {op op' : CmpOp} {a b c : E} {x y z : Expr} {pos : Pos} (ho : OpR X (compareOp op) fun u v => rP X.K f [u, v]) (ho' : OpR X (compareOp op') fun u v => rP X.K g [u, v]) (hz : isSet z = false)
    (ha : SE X ce Wx G a x) (hb : SE X ce Wx G b y) (hc : SE X ce Wx G c z) : SE X ce Wx G (.chain f g a b c) (.Compare x [op, op'] [y, z] pos) := by
  have hm : lastMarks [op, op'] [y, z] = false := nobeh hz
  have hv : PE X (.Compare x [op, op'] [y, z] pos) (liftV X.K ce Wx (W G (.chain f g a b c)).v) := PE.imp (pe_chain ho ho' ha.o hb.o hc.o hm) fun σ H Q h => lift_chain rfl h
  refine ⟨hv, o_of_v hv, PT.imp (pt_chain ho ho' ha.o hb.o hc.o hm) ?_, hv, rfl⟩
  rintro σ H Q ⟨F, τ, ρ, Q0, E0, hl, R, q, hQ, hE⟩
  refine lift_chain (v0 := (W G (.chain f g a b c)).v) rfl ⟨F, τ, ρ, _, E0, hl, R, q, fun r ρ' F' H' v h1 h2 h3 h4 => ?_, hE⟩
  cases r with
  | o _ => exact False.elim h1
  | t _ => exact False.elim h1
  | d r =>
    cases r <;> try exact False.elim h1
    case bool k =>
      obtain rfl := bl_of (X := X) h4.head
      exact ⟨k, rfl, hQ k ρ' F' H' h1 h2 h3 h4.tail⟩
end
end FX
set_option maxHeartbeats 2000000
namespace FX
variable [Wc]
open PySem PySem.Spec PyProof.Rows L2

/-! ### a promise over plain data -/
def outZ : List Bool → List Rs → List V → Zs
  | true :: bs, r :: rs, v :: vs => (r.sl, some v) :: outZ bs rs vs
  | false :: bs, _ :: rs, _ :: vs => outZ bs rs vs
  | _, _, _ => []
def liftSp (K : PySem.W.Frag) (ce : ExcT) (mask : List Bool) (sp : FSp) : Sp := fun vs H Q E => ∃ F τ args Q0 E0, args.length = vs.length ∧ mask.length = vs.length ∧ Rp K F H (ZE τ (args.map Rs.sl) (vs.map some)) ∧ sp args Q0 E0 ∧
  (∀ r outs F' H' v, Q0 r outs → outs.length = vs.length → Same F F' → Rp K F' H' ((r.sl, some v) :: (outZ mask outs vs ++ τ)) → Q v H') ∧
  (∀ x outs F' H' cls d, E0 x outs → outs.length = vs.length → Same F F' → Rp K F' H' (outZ mask outs vs ++ τ) → ExcR ce x cls d H' → E cls d H')
theorem liftSp_len {K : PySem.W.Frag} {ce : ExcT} {mask : List Bool} {sp : FSp} : ∀ vs H Q E, liftSp K ce mask sp vs H Q E → vs.length = mask.length := fun vs H Q E h => by
  obtain ⟨_, _, _, _, _, _, h, _⟩ := h
  exact h.symm
def oriOk (σ : SV) : List Bool → List (Rs × Option Nat) → List V → Prop
  | [], [], [] => True
  | b :: bs, p :: ps, v :: vs => (∀ i, p.2 = some i → b = true ∧ σ[i]? = some (some v)) ∧ oriOk σ bs ps vs
  | _, _, _ => False
section
variable {K : PySem.W.Frag} {H : Hp} {τ : Zs} {σ : SV}
theorem frz_one {F : Hp} {r : Rs} {v : V} {z : Zs} (R : Rp K F H ((r.sl, some v) :: z)) : ∃ F', Same F F' ∧ Rp K F' H ((.d r.data, some v) :: z) ∧ DD K F' v r.data := by
  cases r with
  | d x => exact ⟨F, fun _ _ e => e, R, R.head⟩
  | o xs =>
    have q := R.head
    cases v with
    | ref a =>
      obtain ⟨F', h1, h2⟩ := R.freeze
      exact ⟨F', h1, h2, h2.head⟩
    | _ => exact False.elim q
  | t kvs =>
    have q := R.head
    cases v with
    | ref a =>
      obtain ⟨F', h1, h2⟩ := R.freezeT
      exact ⟨F', h1, h2, h2.head⟩
    | _ => exact False.elim q
theorem pass_ok : ∀ {mask : List Bool} {os : List Op} {vs : List V} {ρ : FE} {ps : List (Rs × Option Nat)} {ρ2 : FE} {F : Hp} {ω : Zs}, passArgs mask os ρ = some (ps, ρ2) → ρ.length = σ.length → opsAt σ os vs →
    Rp K F H (opsZ os vs ++ (ω ++ ZE τ ρ σ)) → ∃ F2, Same F F2 ∧ ρ2.length = σ.length ∧ ps.length = vs.length ∧ mask.length = vs.length ∧ oriOk σ mask ps vs ∧
      Rp K F2 H (ω ++ (ZE (ZE τ ρ2 σ) ((ps.map (·.1)).map Rs.sl) (vs.map some)))
  | [], [], [], ρ, ps, ρ2, F, ω, h, hl, ha, R => by
    simp only [passArgs, Option.some.injEq, Prod.mk.injEq] at h
    obtain ⟨rfl, rfl⟩ := h
    refine ⟨F, fun _ _ e => e, hl, rfl, rfl, trivial, ?_⟩
    simpa [ZE, opsZ] using R
  | b :: bs, .v r :: os, v :: vs, ρ, ps, ρ2, F, ω, h, hl, ha, R => by
    simp only [passArgs, Option.map_eq_some_iff] at h
    obtain ⟨⟨ps', ρ'⟩, h1, h2⟩ := h
    simp only [Prod.mk.injEq] at h2
    obtain ⟨rfl, rfl⟩ := h2
    have R1 : Rp K F H ((r.sl, some v) :: (opsZ os vs ++ (ω ++ ZE τ ρ σ))) := by
      refine Rp.perm R ?_
      simp only [opsZ, opZ, List.append_assoc]
      exact List.perm_middle
    have fin : ∀ (F1 : Hp) (r' : Rs), Same F F1 → Rp K F1 H ((r'.sl, some v) :: (opsZ os vs ++ (ω ++ ZE τ ρ σ))) → ∃ F2, Same F F2 ∧ ρ'.length = σ.length ∧ ((r', (none : Option Nat)) :: ps').length = (v :: vs).length ∧ (b :: bs).length = (v :: vs).length ∧
        oriOk σ (b :: bs) ((r', none) :: ps') (v :: vs) ∧ Rp K F2 H (ω ++ (ZE (ZE τ ρ' σ) ((((r', (none : Option Nat)) :: ps').map (·.1)).map Rs.sl) ((v :: vs).map some))) := fun F1 r' hs R' => by
      have R2 : Rp K F1 H (opsZ os vs ++ (((r'.sl, some v) :: ω) ++ ZE τ ρ σ)) := R'.perm List.perm_middle.symm
      obtain ⟨F2, g1, g2, g3, g4, g5, g6⟩ := pass_ok h1 hl ha.2 R2
      refine ⟨F2, Same.tr hs g1, g2, by simp [g3], by simp [g4], ⟨(fun i e => by cases e), g5⟩, g6.perm ?_⟩
      simp only [ZE, List.map_cons, List.zip_cons_cons, List.append_assoc, List.cons_append]
      refine (List.perm_middle.symm).trans ?_
      refine List.Perm.append_left ω ?_
      rw [← List.append_assoc, ← List.append_assoc]
      exact List.perm_middle.symm
    cases b with
    | true => exact fin F r (fun _ _ e => e) R1
    | false =>
      obtain ⟨F1, k1, k2, _⟩ := frz_one R1
      exact fin F1 (.d r.data) k1 k2
  | b :: bs, .s i :: os, v :: vs, ρ, ps, ρ2, F, ω, h, hl, ha, R => by
    have hi : σ[i]? = some (some v) := ha.1
    have fin : ∀ (F1 : Hp) (r' : Rs) (oi : Option Nat) (ρ1 : FE) (ps' : List (Rs × Option Nat)) (ρ' : FE), (∀ j, oi = some j → b = true ∧ j = i) → passArgs bs os ρ1 = some (ps', ρ') → ρ1.length = σ.length → Same F F1 →
        Rp K F1 H ((r'.sl, some v) :: (opsZ os vs ++ (ω ++ ZE τ ρ1 σ))) → ∃ F2, Same F F2 ∧ ρ'.length = σ.length ∧ ((r', oi) :: ps').length = (v :: vs).length ∧ (b :: bs).length = (v :: vs).length ∧
        oriOk σ (b :: bs) ((r', oi) :: ps') (v :: vs) ∧ Rp K F2 H (ω ++ (ZE (ZE τ ρ' σ) ((((r', oi) :: ps').map (·.1)).map Rs.sl) ((v :: vs).map some))) := fun F1 r' oi ρ1 ps' ρ' ho h1 hl1 hs R' => by
      have R2 : Rp K F1 H (opsZ os vs ++ (((r'.sl, some v) :: ω) ++ ZE τ ρ1 σ)) := R'.perm List.perm_middle.symm
      obtain ⟨F2, g1, g2, g3, g4, g5, g6⟩ := pass_ok h1 hl1 ha.2 R2
      refine ⟨F2, Same.tr hs g1, g2, by simp [g3], by simp [g4], ⟨fun j e => ?_, g5⟩, g6.perm ?_⟩
      · obtain ⟨k1, k2⟩ := ho j e
        exact ⟨k1, by rw [k2]; exact hi⟩
      simp only [ZE, List.map_cons, List.zip_cons_cons, List.append_assoc, List.cons_append]
      refine (List.perm_middle.symm).trans ?_
      refine List.Perm.append_left ω ?_
      rw [← List.append_assoc, ← List.append_assoc]
      exact List.perm_middle.symm
    have R0 : Rp K F H (ZE (opsZ os vs ++ (ω ++ τ)) ρ σ) := by simpa [ZE, opsZ, opZ] using R
    have asm : ∀ (p : Sl × Option V) (ρ1 : FE), (p :: ZE (opsZ os vs ++ (ω ++ τ)) ρ1 σ) = p :: (opsZ os vs ++ (ω ++ ZE τ ρ1 σ)) := fun p ρ1 => by simp [ZE]
    unfold passArgs at h
    cases e : at_ ρ i with
    | no => rw [e] at h; cases h
    | h _ => rw [e] at h; cases h
    | d x =>
      rw [e] at h
      simp only [Option.map_eq_some_iff] at h
      obtain ⟨⟨ps', ρ'⟩, h1, h2⟩ := h
      simp only [Prod.mk.injEq] at h2
      obtain ⟨rfl, rfl⟩ := h2
      obtain ⟨u, u1, u2⟩ := R0.getD hl e
      rw [hi] at u1
      cases u1
      refine fin F (.d x) none ρ ps' ρ' (fun j z => by cases z) h1 hl (fun _ _ e => e) ?_
      rw [← asm]
      exact R0.consD u2
    | o xs =>
      rw [e] at h
      cases b with
      | true =>
        simp only [if_true, Option.map_eq_some_iff] at h
        obtain ⟨⟨ps', ρ'⟩, h1, h2⟩ := h
        simp only [Prod.mk.injEq] at h2
        obtain ⟨rfl, rfl⟩ := h2
        obtain ⟨a, u1, u2⟩ := R0.moveAt hl e
        rw [hi] at u1
        cases u1
        refine fin F (.o xs) (some i) _ ps' ρ' (fun j z => ⟨rfl, (Option.some.inj z).symm⟩) h1 (by rw [List.length_set]; exact hl) (fun _ _ e => e) ?_
        rw [← asm]
        exact u2
      | false =>
        simp only [Bool.false_eq_true, if_false, Option.map_eq_some_iff] at h
        obtain ⟨⟨ps', ρ'⟩, h1, h2⟩ := h
        simp only [Prod.mk.injEq] at h2
        obtain ⟨rfl, rfl⟩ := h2
        obtain ⟨a, F', u1, u2, u3, u4⟩ := R0.frzAt hl e
        rw [hi] at u1
        cases u1
        refine fin F' (.d (.list xs)) none _ ps' ρ' (fun j z => by cases z) h1 (by rw [List.length_set]; exact hl) u2 ?_
        rw [← asm]
        exact u3.consD u4
    | t xs =>
      rw [e] at h
      cases b with
      | true =>
        simp only [if_true, Option.map_eq_some_iff] at h
        obtain ⟨⟨ps', ρ'⟩, h1, h2⟩ := h
        simp only [Prod.mk.injEq] at h2
        obtain ⟨rfl, rfl⟩ := h2
        obtain ⟨a, u1, u2⟩ := R0.moveAtT hl e
        rw [hi] at u1
        cases u1
        refine fin F (.t xs) (some i) _ ps' ρ' (fun j z => ⟨rfl, (Option.some.inj z).symm⟩) h1 (by rw [List.length_set]; exact hl) (fun _ _ e => e) ?_
        rw [← asm]
        exact u2
      | false =>
        simp only [Bool.false_eq_true, if_false, Option.map_eq_some_iff] at h
        obtain ⟨⟨ps', ρ'⟩, h1, h2⟩ := h
        simp only [Prod.mk.injEq] at h2
        obtain ⟨rfl, rfl⟩ := h2
        obtain ⟨a, F', u1, u2, u3, u4⟩ := R0.frzAtT hl e
        rw [hi] at u1
        cases u1
        refine fin F' (.d (.dict xs)) none _ ps' ρ' (fun j z => by cases z) h1 (by rw [List.length_set]; exact hl) u2 ?_
        rw [← asm]
        exact u3.consD u4
  | [], [], _ :: _, _, _, _, _, _, _, _, ha, _ => False.elim ha
  | [], _ :: _, _, _, _, _, _, _, h, _, _, _ => by simp [passArgs] at h
  | _ :: _, [], _, _, _, _, _, _, h, _, _, _ => by simp [passArgs] at h
  | _ :: _, .v _ :: _, [], _, _, _, _, _, _, _, ha, _ => False.elim ha
  | _ :: _, .s _ :: _, [], _, _, _, _, _, _, _, ha, _ => False.elim ha
theorem back_ok : ∀ {mask : List Bool} {ps : List (Rs × Option Nat)} {vs : List V} {outs : List Rs} {ρ : FE} {F : Hp} {ω : Zs}, oriOk σ mask ps vs → outs.length = vs.length → ρ.length = σ.length →
    Rp K F H (outZ mask outs vs ++ (ω ++ ZE τ ρ σ)) → Rp K F H (ω ++ ZE τ (backIo ps outs ρ) σ) ∧ (backIo ps outs ρ).length = σ.length
  | [], [], [], [], ρ, F, ω, _, _, hl, R => ⟨R, hl⟩
  | b :: bs, (p, none) :: ps, v :: vs, r :: rs, ρ, F, ω, ho, hn, hl, R => by
    unfold backIo
    refine back_ok ho.2 (by simpa using hn) hl ?_
    cases b with
    | true => exact R.tail
    | false => exact R
  | b :: bs, (p, some i) :: ps, v :: vs, r :: rs, ρ, F, ω, ho, hn, hl, R => by
    obtain ⟨rfl, hi⟩ := ho.1 i rfl
    unfold backIo
    refine back_ok ho.2 (by simpa using hn) (by rw [List.length_set]; exact hl) ?_
    have R1 : Rp K F H ((r.sl, some v) :: ZE (outZ bs rs vs ++ (ω ++ τ)) ρ σ) := by
      have : ((r.sl, some v) :: ZE (outZ bs rs vs ++ (ω ++ τ)) ρ σ) = outZ (true :: bs) (r :: rs) (v :: vs) ++ (ω ++ ZE τ ρ σ) := by simp [ZE, outZ]
      rw [this]
      exact R
    have h2 := (List.getElem?_eq_some_iff.mp hi).1
    have R2 := R1.storeAt hl (show i < ρ.length by omega)
    rw [set_same hi] at R2
    simpa [ZE] using R2
  | [], _ :: _, _, _, _, _, _, ho, _, _, _ => by cases ‹List V› <;> exact False.elim ho
  | _ :: _, [], _, _, _, _, _, ho, _, _, _ => by cases ‹List V› <;> exact False.elim ho
  | [], [], _ :: _, _, _, _, _, ho, _, _, _ => False.elim ho
  | _ :: _, _ :: _, [], _, _, _, _, ho, _, _, _ => False.elim ho
  | [], [], [], _ :: _, _, _, _, _, hn, _, _ => by simp at hn
  | _ :: _, (_, none) :: _, _ :: _, [], _, _, _, _, hn, _, _ => by simp at hn
  | _ :: _, (_, some _) :: _, _ :: _, [], _, _, _, _, hn, _, _ => by simp at hn
end
section
variable {X : Cx} {ce : ExcT} {Wx : WX} {G : Gm}
theorem lift_call {f : Nat} {mask : List Bool} {fsp : FSp} {as : Es} {σ : SV} {H : Hp} {Q : VK} (hf : G.fn f = some (mask, fsp)) (h : liftV X.K ce Wx (W G (.call f as)).v σ H Q) :
    tCallS (liftSp X.K ce mask fsp) (WE Wx) (liftOs X.K ce Wx (Ws G as).os) σ H Q := by
  obtain ⟨F, τ, ρ, Q0, E0, hl, R, q, hQ, hE⟩ := h
  have q : (match G.fn f with
      | none => False
      | some (mask, sp) => (Ws G as).os ρ (fun os ρ' => match passArgs mask os ρ' with
        | none => False
        | some (ps, ρ2) => sp (ps.map (·.1)) (fun r outs => Q0 r (backIo ps outs ρ2)) (fun x outs => E0 x (backIo ps outs ρ2))) E0 : Prop) := q
  rw [hf] at q
  refine ⟨F, τ, ρ, _, E0, hl, R, q, fun os ρ1 F1 H1 vs q1 l1 s1 R1 a1 => ?_, hE⟩
  cases e : passArgs mask os ρ1 with
  | none => rw [e] at q1; exact q1.elim
  | some pr =>
    obtain ⟨ps, ρ2⟩ := pr
    rw [e] at q1
    obtain ⟨F2, g1, g2, g3, g4, g5, g6⟩ := pass_ok (ω := []) e l1 a1 R1
    refine ⟨F2, ZE τ ρ2 σ, ps.map (fun p : Rs × Option Nat => p.1), _, _, by simpa using g3, g4, g6, q1, fun r outs F' H' v k1 k2 k3 k4 => ?_, fun x outs F' H' cls d k1 k2 k3 k4 k5 => ?_⟩
    · obtain ⟨b1, b2⟩ := back_ok (ω := [(r.sl, some v)]) g5 k2 g2 (Rp.perm k4 (List.perm_middle (a := (r.sl, some v)) (l₁ := outZ mask outs vs)).symm)
      exact hQ r _ F' H' v k1 b2 (Same.tr s1 (Same.tr g1 k3)) b1
    · obtain ⟨b1, b2⟩ := back_ok (ω := []) g5 k2 g2 k4
      exact hE x _ F' H' cls d k1 b2 (Same.tr s1 (Same.tr g1 k3)) b1 k5
theorem s_call {f k : Nat} {mask : List Bool} {fsp : FSp} {ad : Addr} {fd : FuncData} {ps : List Str} {x : Str} {p pos : Pos} {as : Es} {es : List Expr} (hf : G.fn f = some (mask, fsp))
    (F : FnG X.prog X.w X.K X.mg X.base k ad fd ps (liftSp X.K ce mask fsp)) (hr : Room k X.A) (hgd : X.A.guards = some []) (hg : Gl X x) (hm : X.mg x = some (.ref ad)) (hk : PySem.W.keepIn X.K (.ref ad) = true) (hb : Binds X.K fd ps [])
    (tk : Takes X Wx) (hdb : (x == ("__debug__" : Str)) = false) (ha : SndEs X ce Wx G as es) : SE X ce Wx G (.call f as) (.Call (.Name x p) es [] pos) := by
  cases es with
  | cons e es =>
    cases as with
    | nil => exact False.elim ha
    | cons a as =>
      exact sm_ofV rfl rfl (PE.imp (pe_callG F hr hgd hg hm hk hb tk (pa_os ha) hdb (star_cons ha.1.ns) (nostars ha.2)) fun _ _ _ h => lift_call hf h)
  | nil =>
    cases as with
    | cons _ _ => exact False.elim ha
    | nil =>
      refine sm_ofV rfl rfl (PE.imp (pe_callG0 F hr hgd hg hm hk hb tk hdb) fun σ H Q h => ?_)
      obtain ⟨F, τ, ρ, Q0, E0, hl, R, q, hQ, hE⟩ := lift_call hf h
      exact hQ [] ρ F H [] q hl (fun _ _ e => e) R trivial

/-! ### displays -/
theorem rs_frz {K : PySem.W.Frag} {H : Hp} : ∀ {rs : List Rs} {vs : List V} {F : Hp} {z : Zs}, rs.length = vs.length → Rp K F H (rsZ rs vs ++ z) → ∃ F', Same F F' ∧ Rp K F' H z ∧ DDs K F' vs (rs.map Rs.data)
  | [], [], F, z, _, R => ⟨F, fun _ _ e => e, R, .nil⟩
  | r :: rs, v :: vs, F, z, hn, R => by
    have R1 : Rp K F H (rsZ rs vs ++ ((r.sl, some v) :: z)) := by simpa [rsZ] using R
    obtain ⟨F1, h1, h2, h3⟩ := rs_frz (by simpa using hn) R1
    obtain ⟨F2, g1, g2, g3⟩ := frz_one h2
    exact ⟨F2, Same.tr h1 g1, g2.tail, .cons g3 (dps_mono g1 _ _ h3)⟩
  | [], _ :: _, _, _, hn, _ => by simp at hn
  | _ :: _, [], _, _, hn, _ => by simp at hn
theorem s_lst {as : Es} {es : List Expr} {pos : Pos} (ha : SndEs X ce Wx G as es) : SE X ce Wx G (.lst as) (.List es pos) := by
  refine sm_ofV rfl rfl (PE.imp (pe_lst (pa_rs ha)) ?_)
  rintro σ H Q ⟨F, τ, ρ, Q0, E0, hl, R, q, hQ, hE⟩
  refine ⟨F, τ, ρ, _, E0, hl, R, q, fun rs ρ1 F1 H1 vs q1 l1 s1 R1 n1 => ?_, hE⟩
  refine ⟨by rw [← n1]; exact q1.1, fun p hp => ?_⟩
  obtain ⟨F2, g1, g2, g3⟩ := rs_frz n1 R1
  obtain ⟨F3, k1, k2⟩ := g2.made (made_lst g2.sub hp g3)
  exact hQ _ ρ1 F3 _ _ q1.2 l1 (Same.tr s1 (Same.tr g1 k1)) k2
theorem s_tup {as : Es} {es : List Expr} {k : Nat} {pos : Pos} (ha : SndEs X ce Wx G as es) : SE X ce Wx G (.tup as) (.Tuple es k pos) := by
  refine sm_ofV rfl rfl (PE.imp (pe_tup (pa_rs ha)) ?_)
  rintro σ H Q ⟨F, τ, ρ, Q0, E0, hl, R, q, hQ, hE⟩
  refine ⟨F, τ, ρ, _, E0, hl, R, q, fun rs ρ1 F1 H1 vs q1 l1 s1 R1 n1 => ?_, hE⟩
  refine ⟨by rw [← n1]; exact q1.1, fun p hp => ?_⟩
  obtain ⟨F2, g1, g2, g3⟩ := rs_frz n1 R1
  obtain ⟨F3, k1, k2⟩ := g2.made (made_tup g2.sub hp g3)
  exact hQ _ ρ1 F3 _ _ q1.2 l1 (Same.tr s1 (Same.tr g1 k1)) k2

/-! ### constants of the module -/
theorem s_glob {g : Nat} {c : PyData} {x : Str} {u : Value} {v : V} {pos : Pos} (hc : G.con g = some c) (hg : Gl X x) (hm : X.mg x = some u) (r : RelV v u) (hd : (x == ("__debug__" : Str)) = false) (hv : ∀ F, DD X.K F v c) : SE X ce Wx G (.glob g) (.Name x pos) := by
  refine sm_ofV rfl rfl (PE.imp (pe_glob hg hm r hd) ?_)
  rintro σ H Q ⟨F, τ, ρ, Q0, E0, hl, R, q, hQ, hE⟩
  have q : (match G.con g with
      | some c => Q0 (.d c) ρ
      | none => False : Prop) := q
  rw [hc] at q
  exact hQ _ _ F H v q hl (fun _ _ e => e) (R.consD (hv F))
theorem s_cst {c : PyData} {v : V} {k : Const} {n : Nat} {pos : Pos} (h : PE X (.Constant k n pos) (tC v)) (hv : ∀ F, DD X.K F v c) : SE X ce Wx G (.cst c) (.Constant k n pos) :=
  sm_ofV rfl rfl (v_const h hv)
end
end FX
set_option maxHeartbeats 2000000
namespace FX
variable [Wc]
open PySem PySem.Spec PyProof.Rows L2

/-! ### methods that change a list -/
def rM (K : PySem.W.Frag) (m : MF) (x : V) (vs : List V) (H : Hp) (Q : VK) : Prop := ∃ F a ws xs ds, x = .ref a ∧ H a = some (.lst ws) ∧ Same F H ∧ DDs K F ws xs ∧ DDs K F vs ds ∧
  msem m xs ds fun y xs' => ∀ v ws', DD K F v y → DDs K F ws' xs' → Q v (upd H a (.lst ws'))
section
variable {X : Cx}
theorem mm_append : MtR X "list.append" (rM X.K .append) := by
  intro pins s σ H x xs v us Q I rx rs h
  obtain ⟨F, a, ws, ys, ds, rfl, h1, hs, h2, h3, h4⟩ := h
  cases h3 with
  | nil => exact False.elim h4
  | cons h5 h6 =>
    cases h6 with
    | cons _ _ => exact False.elim h4
    | nil =>
      obtain ⟨h4, h7⟩ := h4
      exact mt_append pins s σ H _ _ v us Q I rx rs ⟨a, ws, _, rfl, rfl, h1, by rw [dps_len h2]; exact h4, h7 _ _ .non (dps_app h2 (.cons h5 .nil))⟩
theorem mm_extend : MtR X "list.extend" (rM X.K .extend) := by
  intro pins s σ H x xs v us Q I rx rs h
  obtain ⟨F, a, ws, ys, ds, rfl, h1, hs, h2, h3, h4⟩ := h
  cases h3 with
  | nil => exact False.elim h4
  | @cons w vs d ds h5 h6 =>
    cases h6 with
    | cons _ _ => cases d <;> exact False.elim h4
    | nil =>
      cases d <;> try exact False.elim h4
      case list zs =>
        obtain ⟨h4, h7⟩ := h4
        cases h5 with
        | lst k1 k2 =>
          refine mt_extend pins s σ H _ _ v us Q I rx rs ⟨a, _, ws, _, rfl, rfl, h1, hs _ _ k1, ?_, h7 _ _ .non (dps_app h2 k2)⟩
          rw [dps_len h2, dps_len k2]
          exact h4
theorem mm_pop : MtR X "list.pop" (rM X.K .pop) := by
  intro pins s σ H x xs v us Q I rx rs h
  obtain ⟨F, a, ws, ys, ds, rfl, h1, hs, h2, h3, h4⟩ := h
  cases h3 with
  | cons _ _ => exact False.elim h4
  | nil =>
    obtain ⟨y, h4, h7⟩ := h4
    obtain ⟨w, k1, k2⟩ := dps_get h2 h4
    exact mt_pop pins s σ H _ _ v us Q I rx rs ⟨a, ws, w, rfl, rfl, h1, by rw [dps_len h2]; exact k1, h7 _ _ k2 (dps_dropLast h2)⟩
theorem mm_popAt : MtR X "list.pop" (rM X.K .popAt) := by
  intro pins s σ H x xs v us Q I rx rs h
  obtain ⟨F, a, ws, ys, ds, rfl, h1, hs, h2, h3, h4⟩ := h
  cases h3 with
  | nil => exact False.elim h4
  | @cons w vs d ds h5 h6 =>
    cases h6 with
    | cons _ _ => cases d <;> exact False.elim h4
    | nil =>
      cases d <;> try exact False.elim h4
      case int i =>
        obtain ⟨g1, g2, j, y, h4, g3, h7⟩ := h4
        obtain ⟨w, k1, k2⟩ := dps_get h2 g3
        cases h5
        exact mt_popAt pins s σ H _ _ v us Q I rx rs ⟨a, ws, i, j, w, rfl, rfl, h1, g1, g2, by rw [dps_len h2]; exact h4, k1, h7 _ _ k2 (dps_erase j h2)⟩
theorem mm_reverse : MtR X "list.reverse" (rM X.K .reverse) := by
  intro pins s σ H x xs v us Q I rx rs h
  obtain ⟨F, a, ws, ys, ds, rfl, h1, hs, h2, h3, h4⟩ := h
  cases h3 with
  | cons _ _ => exact False.elim h4
  | nil => exact mt_reverse pins s σ H _ _ v us Q I rx rs ⟨a, ws, rfl, rfl, h1, h4 _ _ .non (dps_rev h2)⟩
end
def mfName : MF → Str
  | .append => "append"
  | .extend => "extend"
  | .pop => "pop"
  | .popAt => "pop"
  | .reverse => "reverse"
  | .insert => "insert"
section
variable {X : Cx} {ce : ExcT} {Wx : WX} {G : Gm}
theorem mut_end {m : MF} {i : Nat} {F F1 H1 : Hp} {τ : Zs} {ρ1 : FE} {σ : SV} {vs : List V} {rs : List Rs} {a : Addr} {Q0 : KQ} {Q : VK} (hi : σ[i]? = some (some (.ref a))) (R1 : Rp X.K F1 H1 (rsZ rs vs ++ ZE τ ρ1 σ)) (n1 : rs.length = vs.length) (l1 : ρ1.length = σ.length) (s1 : Same F F1)
    (q : (match at_ ρ1 i with
      | .o xs => msem m xs (rs.map Rs.data) fun y xs' => Q0 (.d y) (ρ1.set i (.o xs'))
      | _ => False : Prop))
    (hQ : ∀ r ρ' F' H' v, Q0 r ρ' → ρ'.length = σ.length → Same F F' → Rp X.K F' H' ((r.sl, some v) :: ZE τ ρ' σ) → Q v H')
    (mono : ∀ {xs ds : List PyData} {k k' : PyData → List PyData → Prop}, (∀ y xs', k y xs' → k' y xs') → msem m xs ds k → msem m xs ds k') : rM X.K m (.ref a) vs H1 Q := by
  obtain ⟨F2, g1, R2, g3⟩ := rs_frz n1 R1
  cases e : at_ ρ1 i with
  | no => rw [e] at q; exact q.elim
  | h _ => rw [e] at q; exact q.elim
  | d _ => rw [e] at q; exact q.elim
  | t _ => rw [e] at q; exact q.elim
  | o xs =>
    rw [e] at q
    obtain ⟨b, ws, k1, k2, k3⟩ := R2.getO' l1 e
    rw [hi] at k1
    cases k1
    refine ⟨F2, a, ws, xs, _, rfl, k2, R2.sub, k3, g3, mono (fun y xs' hq v ws' d1 d2 => ?_) q⟩
    have R3 := R2.mutAt l1 e hi d2
    exact hQ _ _ F2 _ v hq (by rw [List.length_set]; exact l1) (Same.tr s1 g1) (R3.consD d1)
theorem msem_mono {m : MF} {xs ds : List PyData} {k k' : PyData → List PyData → Prop} (hk : ∀ y xs', k y xs' → k' y xs') (h : msem m xs ds k) : msem m xs ds k' := by
  fun_cases msem m xs ds k <;> first
    | exact hk _ _ h
    | exact ⟨h.1, hk _ _ h.2⟩
    | exact ⟨h.1, h.2.1, h.2.2.1, hk _ _ h.2.2.2⟩
    | (obtain ⟨y, h1, h2⟩ := h; exact ⟨y, h1, hk _ _ h2⟩)
    | (obtain ⟨g1, g2, j, y, h1, g3, h2⟩ := h; exact ⟨g1, g2, j, y, h1, g3, hk _ _ h2⟩)
    | exact False.elim h
    | (exfalso; simp_all [msem]; done)
theorem s_mcall {m : MF} {i : Nat} {id : String} {x : Str} {p apos cpos : Pos} {as : Es} {es : List Expr} (slot : Slot "list" (mfName m) id) (hty : typeOf (Value.builtin id) = pure (Value.type "method_descriptor")) (hm : MtR X id (rM X.K m))
    (hN : X.N[i]? = some x) (hv : Vis X.env.scope x) (hd : (x == ("__debug__" : Str)) = false) (hcd : (x == ("__classdict__" : Str)) = false) (ha : SndEs X ce Wx G as es) (hl : es.length < 20) (hap : (apos.endLine == cpos.line) = true) :
    SE X ce Wx G (.mcall m i as) (.Call (.Attribute (.Name x p) (mfName m) apos) es [] cpos) := by
  have pn : PE X (.Name x p) (tVar i) := pe_var hN hv hd hcd
  have start : ∀ {F H : Hp} {τ : Zs} {ρ : FE} {σ : SV} {P : Prop}, ρ.length = σ.length → Rp X.K F H (ZE τ ρ σ) → (match at_ ρ i with
      | .o _ => True
      | _ => False : Prop) → ∃ a, σ[i]? = some (some (.ref a)) ∧ tyV X.K "list" (.ref a) H := by
    intro F H τ ρ σ P hl R h
    cases e : at_ ρ i with
    | no => rw [e] at h; exact h.elim
    | h _ => rw [e] at h; exact h.elim
    | d _ => rw [e] at h; exact h.elim
    | t _ => rw [e] at h; exact h.elim
    | o xs =>
      obtain ⟨a, ws, k1, k2, _⟩ := R.getO' hl e
      exact ⟨a, k1, .inl ⟨rfl, ws, .inl (.inl k2)⟩⟩
  cases es with
  | nil =>
    cases as with
    | cons _ _ => exact False.elim ha
    | nil =>
      refine sm_ofV rfl rfl (PE.imp (pe_bm0 PySem.F.plainAttrs_list slot hty hm pn (attr_base rfl) hap) ?_)
      rintro σ H Q ⟨F, τ, ρ, Q0, E0, hl, R, q, hQ, hE⟩
      obtain ⟨q0, q⟩ := q
      obtain ⟨a, k1, k2⟩ := start (P := True) hl R q0
      exact ⟨.ref a, k1, k2, mut_end (rs := []) k1 R rfl hl (fun _ _ e => e) q hQ msem_mono⟩
  | cons e es =>
    cases as with
    | nil => exact False.elim ha
    | cons b as =>
      refine sm_ofV rfl rfl (PE.imp (pe_bm PySem.F.plainAttrs_list slot hty hm pn (pa_rs ha) (attr_base rfl) ?_ hap (star_cons ha.1.ns) (nostars ha.2)) ?_)
      · rw [allplain ha]
        show (true && true && decide (es.length + 1 + 0 + 0 < 30)) = true
        have hl : es.length + 1 < 20 := hl
        simp
        omega
      · rintro σ H Q ⟨F, τ, ρ, Q0, E0, hl, R, q, hQ, hE⟩
        obtain ⟨q0, q⟩ := q
        obtain ⟨a, k1, k2⟩ := start (P := True) hl R q0
        refine ⟨.ref a, k1, k2, F, τ, ρ, _, E0, hl, R, q, fun rs ρ1 F1 H1 vs q1 l1 s1 R1 n1 => ?_, hE⟩
        exact mut_end k1 R1 n1 l1 s1 q1 hQ msem_mono

/-! ### what is walked -/
/-- the walk J gives xs, one after another, while the temps ω and the names lk stand -/
def WkI (K : PySem.W.Frag) (F0 : Hp) (ω : Zs) (lk : Lk) (σ0 : SV) (J : It) (xs : List PyData) : Prop :=
  ∀ (F H : Hp) (τ : Zs) (ρ : FE) (σ : SV), Same F0 F → ρ.length = σ.length → Rp K F H (ω ++ ZE τ ρ σ) → lkOk lk ρ → (∀ p ∈ lk, σ[p.1]? = σ0[p.1]?) →
    (∀ i x, xs[i]? = some x → J.go i H ∧ ∀ v H', J.yld i H v H' → Made K F H (.d x) v H') ∧ J.stop xs.length H
def liftI (K : PySem.W.Frag) (ce : ExcT) (W : WX) (t : SmI) : TI := fun σ H R => ∃ F τ ρ Q0 E0, ρ.length = σ.length ∧ Rp K F H (ZE τ ρ σ) ∧ t ρ Q0 E0 ∧
  (∀ xs lk ρ' F' H' J ω, Q0 xs lk ρ' → ρ'.length = σ.length → Same F F' → Rp K F' H' (ω ++ ZE τ ρ' σ) → lkOk lk ρ' → WkI K F' ω lk σ J xs → R J H') ∧ XOK K ce W F τ σ E0
theorem PI.imp {tg e : Expr} {t t' : TI} (p : PI X tg e t) (h : ∀ σ H R, t' σ H R → t σ H R) : PI X tg e t' := ⟨fun pins s σ H R I q => p.run pins s σ H R I (h σ H R q)⟩
theorem pi_any {tg e : Expr} {te : TE} (he : PE X e te) : PI X tg e (fun σ H R => te σ H fun x H1 => (∃ a, x = .ref a ∧ (∃ xs, SqL X.K H1 a xs) ∧ R (Itl X.K a) H1) ∨ (∃ a, x = .ref a ∧ (∃ xs, SqT X.K H1 a xs) ∧ R (Itt X.K a) H1) ∨ (∃ z, x = .str z ∧ R (Its z) H1) ∨ ∃ d o xs, x = .ref d ∧ H1 d = some (DctO d o xs) ∧ R (ItkN d o xs) H1) := by
  constructor
  intro pins s σ H R I h
  refine thn (he.run pins s σ H _ I h) fun v s1 hv => ?_
  obtain ⟨x, H1, I1, r1, ⟨a, rfl, ⟨xs, hx⟩, q⟩ | ⟨a, rfl, ⟨xs, hx⟩, q⟩ | ⟨z, rfl, q⟩ | ⟨d, o, xs, rfl, hd, q⟩⟩ := hv
  · cases r1
    obtain ⟨its, _, p, _⟩ := I1.list hx
    exact wpAny_pyIter_list p.isList (pi_one (tk := s1.toks) I1 _ (turn_list a _) ⟨_, Heap.get?_push_size _ rfl, rfl, rfl⟩ q)
  · cases r1
    obtain ⟨its, _, p, _⟩ := I1.tuple hx
    exact wpAny_pyIter_tuple (show s1.heap.IsTuple a its.toArray from p) (pi_one (tk := s1.toks) I1 _ (turn_tuple a _) ⟨_, Heap.get?_push_size _ rfl, rfl, rfl⟩ q)
  · obtain ⟨t, rfl⟩ := r1
    cases ha : z.cps.all (· < 128)
    · exact wpAny_pyIter_wide ha (pi_one (tk := s1.toks) I1 _ (turn_str _ z t "str_iterator" (.inr rfl)) ⟨_, Heap.get?_push_size _ rfl, rfl, rfl⟩ q)
    · exact wpAny_pyIter_ascii ha (pi_one (tk := s1.toks) I1 _ (turn_str _ z t "str_ascii_iterator" (.inl rfl)) ⟨_, Heap.get?_push_size _ rfl, rfl, rfl⟩ q)
  · cases r1
    exact key_iter I1 hd q
variable {K : PySem.W.Frag}
theorem sqL_inj {F H : Hp} {a : Addr} {vs ws : List V} (h : H a = some (.lst vs)) (h' : SqL K H a ws) (hk : K.lookup a = none ∨ True) : (∃ z, H a = some z) := ⟨_, h⟩
/-- a value to be walked -/
theorem walk_val {F0 H0 : Hp} {v : V} {d : PyData} {xs : List PyData} (hx : itemsOf d = some xs) (hd : DV K F0 H0 v d) (hs0 : Same F0 H0) :
    (∃ a ws, d = .list xs ∧ v = .ref a ∧ H0 a = some (.lst ws)) ∨ (∃ a ws, d = .tuple xs ∧ v = .ref a ∧ SqT K F0 a ws ∧ DDs K F0 ws xs) ∨ (∃ z, d = .str z ∧ v = .str z ∧ xs = strChars z) ∨ ∃ a kvs, d = .dict kvs ∧ dkd kvs = true ∧ v = .ref a ∧ DctA K F0 H0 a kvs ∧ xs = kvs.map (·.1) := by
  cases d with
  | list ys =>
    cases hx
    obtain ⟨a, ws, rfl, h1, _⟩ := hd
    exact .inl ⟨a, ws, rfl, rfl, h1⟩
  | tuple ys =>
    cases hx
    obtain ⟨a, ws, rfl, h1, h2⟩ := dv_tup hd
    exact .inr (.inl ⟨a, ws, rfl, rfl, h1, h2⟩)
  | str z =>
    cases hx
    exact .inr (.inr (.inl ⟨z, rfl, dv_str hd, rfl⟩))
  | none => cases hx
  | bool _ => cases hx
  | int _ => cases hx
  | dict kvs =>
    have hx : (if dkd kvs = true then some (kvs.map (·.1)) else none) = some xs := hx
    split at hx
    · rename_i h1
      obtain ⟨a, rfl, h2⟩ := dv_dct hs0 h1 hd
      exact .inr (.inr (.inr ⟨a, kvs, rfl, h1, rfl, h2, (Option.some.inj hx).symm⟩))
    · cases hx
end
end FX
set_option maxHeartbeats 2000000
namespace FX
variable [Wc]
open PySem PySem.Spec PyProof.Rows L2
/-! ### enumerate(text) -/
theorem drawsStr {prog : Program} {w : World} {A : Around} (hh : A.handled = none) (it : Addr) (x : Str) (t : Tok) :
    Draws prog w A it [it] x.cps.size (fun i v => ∃ c u, x.cps[i]? = some c ∧ v = .str ⟨#[c]⟩ u) (fun i h => h.IsStrIter it (strIterType x) x t i) := by
  unfold strIterType
  split
  · exact Draws.strAscii hh it x t
  · exact Draws.strWide hh it x t
/-- each sign with its number, in a new pair -/
def Itse (z : Str) : It :=
  ⟨fun i _ => i < z.cps.size, fun i H v H' => ∃ T c, v = .ref T ∧ H T = none ∧ H' = upd H T (.tup [.int (i : Nat), .str ⟨#[c]⟩]) ∧ z.cps[i]? = some c, fun i _ => z.cps.size ≤ i⟩
theorem turn_enumS {P : Program} {w : World} {K : PySem.W.Frag} {elts : List Expr} {kk : Nat} {tpos : Pos} (z : Str) (t : Tok) (e it : Addr) :
    Turn P w K (.Tuple elts kk tpos) (Itse z) [e, it] e (fun i h => (∃ old, IsEnum h e it ((i : Nat) : Int) old) ∧ h.IsStrIter it (strIterType z) z t i ∧ e ≠ it ∧ i ≤ z.cps.size) where
  mem := by simp
  obj := fun i h st b hb => by
    obtain ⟨⟨old, he⟩, ⟨o, ho, hc, hd⟩, _⟩ := st
    have e' : b = e ∨ b = it := by simpa using hb
    rcases e' with z | z
    · rw [z]; exact ⟨_, he, fun v q => nomatch q⟩
    · rw [z]; exact ⟨o, ho, fun v q => by rw [hd] at q; cases q⟩
  keep := fun i h h' st k => let ⟨⟨old, he⟩, ⟨o, ho, r⟩, hne, hle⟩ := st; ⟨⟨old, k e (by simp) _ he⟩, ⟨o, k it (by simp) o ho, r⟩, hne, hle⟩
  item := by
    intro X hP hw hK hc i pins s σ H E I hf st hg
    subst hP hw hK
    obtain ⟨⟨old, he⟩, hit, hne, _⟩ := st
    have hlt : i < z.cps.size := hg
    have hel : e < s.heap.objs.size := Heap.lt_size he
    have hil : it < s.heap.objs.size := by obtain ⟨_, q, _⟩ := hit; exact Heap.lt_size q
    have D := drawsStr (prog := X.prog) (w := X.w) (A := X.A.in1) (I.ok.hd hc) it z t
    refine wpAny_pyNext_enum_itemD D he hit hlt hne (by simpa using hne) fun x h' tk hx ho hit' hT hsz hk => ?_
    obtain ⟨c, u, hcx, rfl⟩ := hx
    refine ⟨_, rfl, wpAny_letOwnedTupleGo_enum (s := { s with heap := h', toks := tk + 1 }) ho fun h'' he' sb => ?_⟩
    have hT2 : h''.get? s.heap.objs.size = some { cls := .type "tuple", data := .seq #[.int i tk, .str ⟨#[c]⟩ u] } := (sb.2 _ (Nat.ne_of_gt hel)).trans hT
    have new : ObjOk X.prog X.w (upd H s.heap.objs.size (.tup [.int (i : Nat), .str ⟨#[c]⟩])) h'' s.heap.objs.size (.tup [.int (i : Nat), .str ⟨#[c]⟩]) :=
      ⟨by show 2 ≤ sizeLine; decide, [.int i tk, .str ⟨#[c]⟩ u], .cons ⟨_, rfl⟩ (.cons ⟨_, rfl⟩ .nil), ⟨_, hT2, rfl, _, rfl⟩⟩
    have I1 : Inv X pins σ (upd H s.heap.objs.size (.tup [.int (i : Nat), .str ⟨#[c]⟩])) { s with heap := h'', toks := tk + 1 } :=
      I.turnedNew (ch := [e, it]) (fun b ob hb q => (sb.2 b (fun z => hb (by simp [z]))).trans (hk b ob (fun z => hb (by simp [z])) (fun z => hb (by simp [z])) q)) hf (Nat.le_refl _) new
    have e1 : ((i + 1 : Nat) : Int) = (i : Int) + 1 := by omega
    have he2 : ∃ old, IsEnum h'' e it ((i + 1 : Nat) : Int) old := by
      rw [e1]
      exact ⟨_, he'⟩
    have hit2 : h''.IsStrIter it (strIterType z) z t (i + 1) := by
      obtain ⟨o, q, r⟩ := hit'
      exact ⟨o, (sb.2 it (Ne.symm hne)).trans q, r⟩
    have hb2 : ∀ b ∈ [e, it], upd H s.heap.objs.size (.tup [.int (i : Nat), .str ⟨#[c]⟩]) b = none := fun b hb => by
      have hb' : b < s.heap.objs.size := by
        have e' : b = e ∨ b = it := by simpa using hb
        rcases e' with z | z
        · rw [z]; exact hel
        · rw [z]; exact hil
      rw [upd_ne (Nat.ne_of_lt hb')]
      exact (hf b hb).1
    exact ⟨.ref s.heap.objs.size, _, I1, rfl, ⟨_, c, rfl, I.hok.fresh (Nat.le_refl _), rfl, hcx⟩, ⟨he2, hit2, hne, hlt⟩, hb2⟩
  done := by
    intro X hP hw hK hc i pins s σ H E I hf st hg
    subst hP hw hK
    obtain ⟨⟨old, he⟩, hit, hne, hle⟩ := st
    obtain ⟨f0, f1, f2, f3, f4, f5⟩ := hf it (by simp)
    have hi : i = z.cps.size := Nat.le_antisymm hle hg
    rw [hi] at hit
    have D := drawsStr (prog := X.prog) (w := X.w) (A := X.A.in1) (I.ok.hd hc) it z t
    exact wpAny_pyNext_enum_endD D he hit fun h' eb => ⟨rfl, I.turned (t' := s.toks) (fun b o hb q => eb b o hb q) f0 f1 f3 f4 f5⟩
  self := fun A i s Q E st h => let ⟨⟨_, he⟩, _⟩ := st; wpAny_pyIter_enum he h
/-- enumerate of a list or of a text -/
def iEnum2 (K : PySem.W.Frag) (ta : TA) : TI := fun σ H R => ta σ H fun vs H1 => (∃ a xs, vs = [.ref a] ∧ SqL K H1 a xs ∧ R (Ite K a) H1) ∨ ∃ z, vs = [.str z] ∧ R (Itse z) H1
theorem pi_enum2 {X : Cx} {e : Expr} {ta : TA} {p pos tpos : Pos} {elts : List Expr} {kk : Nat} (hg : Gl X "enumerate") (hm : X.mg "enumerate" = none) (ha : PA X [e] ta) (hs : starEach [e] X.env = [(false, eval e X.env)] := by rfl) :
    PI X (.Tuple elts kk tpos) (.Call (.Name "enumerate" p) [e] [] pos) (iEnum2 X.K ta) := by
  refine ⟨fun pins s σ H R I h => ?_⟩
  refine Call_ (ld_blt I hg hm boot_enumerate (PyProof.Rows.callWith_type1 (thn (ha.run pos pins s σ H _ I h) fun us s1 ⟨vs, H1, I1, r1, q1⟩ => ?_) hs rfl))
  have fpk : ∀ b ∈ [s1.heap.objs.size + 1, s1.heap.objs.size], FpOk X pins H1 b := fun b hb => by
    have e' : b = s1.heap.objs.size + 1 ∨ b = s1.heap.objs.size := by simpa using hb
    have hle : s1.heap.objs.size ≤ b := by
      rcases e' with z | z
      · rw [z]; exact Nat.le_add_right _ _
      · rw [z]; exact Nat.le_refl _
    exact I1.fpOk hle (I1.hok.fresh hle)
  rcases q1 with ⟨a, xs, ex, hq, q⟩ | ⟨z, ex, q⟩
  · subst ex
    cases r1 with
    | cons r rr =>
      cases rr
      cases r
      obtain ⟨its, rv, p', hz⟩ := I1.list hq
      refine call_enumerate_list p'.isList fun h' he hit hsz hk => wpAny_pyIter_enum he ?_
      have I2 : Inv X pins σ H1 { s1 with heap := h' } := I1.kept (t' := s1.toks) hk
      exact ⟨s1.heap.objs.size + 1, [s1.heap.objs.size + 1, s1.heap.objs.size], _, _, H1, rfl, I2, turn_enum a (s1.heap.objs.size + 1) s1.heap.objs.size, ⟨⟨.none, he⟩, hit, Nat.succ_ne_self _⟩, fpk, q⟩
  · subst ex
    cases r1 with
    | cons r rr =>
      cases rr
      obtain ⟨t, rfl⟩ := r
      refine call_enumerate_str fun h' he hit hsz hk => wpAny_pyIter_enum he ?_
      have I2 : Inv X pins σ H1 { s1 with heap := h' } := I1.kept (t' := s1.toks) hk
      exact ⟨s1.heap.objs.size + 1, [s1.heap.objs.size + 1, s1.heap.objs.size], _, _, H1, rfl, I2, turn_enumS z t (s1.heap.objs.size + 1) s1.heap.objs.size, ⟨⟨.none, he⟩, hit, Nat.succ_ne_self _, Nat.zero_le _⟩, fpk, q⟩
end FX
set_option maxHeartbeats 2000000
namespace FX
variable [Wc]
open PySem PySem.Spec PyProof.Rows L2
/-! ### enumerate(zip(text, text)): the pair of zip stays handed out -/
abbrev Zr (h : Heap) (z TI TO : Addr) (f0 : Value) (f : Bool) : Prop :=
  h.get? z = some ({ cls := .type "zip", data := .fields #[f0, .bool f, .bool false, .ref TI, .ref TO] } : Obj)
def Out0 (f0 : Value) : Prop := f0 = .none ∨ ∃ T : Nat, f0 = rawInt T
section
variable {prog : Program} {w : World} {A : Around} {E : Value → Shared → Prop} {s : Shared} {z TI TO i1 i2 : Addr} {fp1 fp2 : List Addr} {n1 n2 i : Nat} {P1 P2 : Nat → Value → Prop} {St1 St2 : Nat → Heap → Prop} {a1 a2 f0 : Value} {f : Bool}
theorem alive_any {T : Addr} {Q : Option Obj → Shared → Prop} (h : ∀ o, Q o s) : wpAny (model prog w) A (loadIfAlive T) Q E s := by
  intro Γ p hA
  show Sem.wp _ _ (.loadIfAlive T .pure) _ _ _ _
  rw [Sem.wp_loadIfAlive]
  exact h _
theorem zx_free {Q : Bool → Shared → Prop} (hz : Zr s.heap z TI TO f0 f) (h0 : Out0 f0) (h : ∀ b hg f', Zr hg z TI TO f0 f' → Heap.SameBut z s.heap hg → Q b { s with heap := hg }) :
    wpAny (model prog w) A (Builtin.SmallTypes.ownedTupleIsFree (.ref z)) Q E s := by
  unfold Builtin.SmallTypes.ownedTupleIsFree
  refine wpAny_bind (wpAny_field hz rfl (x := f0) rfl ?_)
  rcases h0 with rfl | ⟨T, rfl⟩
  · exact wpAny_pure (h true s.heap f hz (Heap.SameBut.refl _ _))
  · show wpAny _ _ (loadIfAlive ((T : Int).toNat) >>= _) _ _ _
    refine wpAny_bind (alive_any fun o => ?_)
    cases o with
    | none => exact wpAny_pure (h true s.heap f hz (Heap.SameBut.refl _ _))
    | some o =>
      simp only [Option.isNone_some, Bool.false_eq_true, if_false]
      refine wpAny_bind (wpAny_field hz rfl (x := .bool f) rfl ?_)
      cases f with
      | true =>
        rw [if_neg (show ¬ ((Value.bool true != Value.bool true) = true) from Bool.false_ne_true)]
        exact wpAny_pure (h false s.heap true hz (Heap.SameBut.refl _ _))
      | false =>
        rw [if_pos (show (Value.bool false != Value.bool true) = true from rfl)]
        exact wpAny_bind (wpAny_setField_rec hz (by simp) fun hg hzg hsg => wpAny_pure (h false hg true hzg hsg))
/-- the next pair -/
theorem zx_item {Q : Value → Shared → Prop} (S : ZipSep2 z TI TO i1 i2 fp1 fp2) (D1 : Draws prog w A i1 fp1 n1 P1 St1) (D2 : Draws prog w A i2 fp2 n2 P2 St2) (hz : Zr s.heap z TI TO f0 f) (h0 : Out0 f0)
    (hTI : IsTupOf2 s.heap TI (.ref i1) (.ref i2)) (hTO : IsTupOf2 s.heap TO a1 a2) (st1 : St1 i s.heap) (st2 : St2 i s.heap) (lt1 : i < n1) (lt2 : i < n2)
    (hQ : ∀ x1 x2 h' tk g0 g b1 b2, P1 i x1 → P2 i x2 → Zr h' z TI TO g0 g → Out0 g0 → IsTupOf2 h' TO b1 b2 → St1 (i + 1) h' → St2 (i + 1) h' → IsTupOf2 h' s.heap.objs.size x1 x2 → h'.objs.size = s.heap.objs.size + 1 →
      (∀ c o, c ≠ z → c ≠ TO → c ≠ i1 → c ≠ i2 → s.heap.get? c = some o → h'.get? c = some o) → Q (.ref s.heap.objs.size) { s with heap := h', toks := tk }) :
    wpAny (model prog w) A (Builtin.«zip.__next__» ⟨[.ref z], []⟩) (fun fin s' => ∃ v, fin = .done (.ret v) ∧ Q v s') E s := by
  obtain ⟨hp, gs, d, tk0, os⟩ := s
  show wpAny _ _ (field (.ref z) 2 >>= _) _ _ _
  refine wpAny_bind (wpAny_field hz rfl (x := .bool false) rfl ?_)
  show wpAny _ _ (field (.ref z) 3 >>= _) _ _ _
  refine wpAny_bind (wpAny_field hz rfl (x := .ref TI) rfl ?_)
  refine wpAny_bind (wpAny_seqItems hTI rfl ?_)
  show wpAny _ _ (Builtin.SmallTypes.ownedTupleIsFree (.ref z) >>= _) _ _ _
  refine wpAny_bind (zx_free hz h0 fun b hg f' hzg sg => ?_)
  replace hzg : Zr hg z TI TO f0 f' := hzg
  replace sg : Heap.SameBut z hp hg := sg
  have hTOg : IsTupOf2 hg TO a1 a2 := sg.extBut _ _ S.TOz hTO
  have s1g : St1 i hg := D1.over st1 sg S.zf1
  have s2g : St2 i hg := D2.over st2 sg S.zf2
  cases b with
  | false =>
    simp only [Bool.false_eq_true, if_false]
    refine wpAny_bind ?_
    rw [← Array.forIn_toList]
    simp only [List.forIn_cons, List.forIn_nil]
    refine wpAny_bind (wpAny_bind (wpAny_holding ?_))
    show wpAny _ _ (Builtin.SmallTypes.nextOf (.ref i1) >>= _) _ _ ⟨hg, gs, d, tk0, os⟩
    refine wpAny_bind (D1.item i _ _ _ lt1 s1g fun x1 q1 tk1 hx1 sn1 hs1 => wpAny_pure ?_)
    replace hs1 : Heap.SameBut i1 hg q1 := hs1
    refine wpAny_pure ?_
    refine wpAny_bind (wpAny_bind (wpAny_holding ?_))
    show wpAny _ _ (Builtin.SmallTypes.nextOf (.ref i2) >>= _) _ _ ⟨q1, gs, d, tk1, os⟩
    refine wpAny_bind (D2.item i _ _ _ lt2 (D2.over s2g hs1 S.sep1_2) fun x2 q2 tk2 hx2 sn2 hs2 => wpAny_pure ?_)
    replace hs2 : Heap.SameBut i2 q1 q2 := hs2
    refine wpAny_pure (wpAny_pure ?_)
    show wpAny _ _ (newTuple [x1, x2] >>= _) _ _ _
    refine wpAny_bind (wpAny_newTuple ?_)
    have hsz : q2.objs.size = hp.objs.size := by rw [hs2.1, hs1.1, sg.1]
    have hz2 : Zr q2 z TI TO f0 f' := hs2.extBut _ _ S.zi2 (hs1.extBut _ _ S.zi1 hzg)
    have hT2 : IsTupOf2 q2 TO a1 a2 := hs2.extBut _ _ S.Ti2 (hs1.extBut _ _ S.Ti1 hTOg)
    have hj1 : St1 (i + 1) q2 := D1.over sn1 hs2 S.sep2_1
    have hk : ∀ c o, c ≠ z → c ≠ TO → c ≠ i1 → c ≠ i2 → hp.get? c = some o → q2.get? c = some o := fun c o cz _ c1 c2 e => hs2.extBut _ _ c2 (hs1.extBut _ _ c1 (sg.extBut _ _ cz e))
    refine wpAny_pure ⟨_, rfl, ?_⟩
    show Q (.ref q2.objs.size) _
    have hp2 : IsTupOf2 (q2.push { cls := .type "tuple", data := .seq #[x1, x2] }) q2.objs.size x1 x2 := Heap.get?_push_size _ rfl
    have hz4 : (q2.push { cls := .type "tuple", data := .seq #[x1, x2] }).objs.size = q2.objs.size + 1 := Heap.size_push ..
    rw [hsz] at hp2 hz4 ⊢
    exact hQ x1 x2 _ tk2 _ _ _ _ hx1 hx2 (Heap.get?_push_of_some _ hz2) h0 (Heap.get?_push_of_some _ hT2) (D1.frame _ _ _ hj1 fun b _ o e => Heap.get?_push_of_some _ e) (D2.frame _ _ _ sn2 fun b _ o e => Heap.get?_push_of_some _ e) hp2 hz4
      fun c o cz cT c1 c2 e => Heap.get?_push_of_some _ (hk c o cz cT c1 c2 e)
  | true =>
    simp only [if_true]
    refine wpAny_bind (wpAny_rule ?_)
    refine wpAny_bind (wpAny_field hzg rfl (x := .ref TO) rfl ?_)
    refine wpAny_bind (wpAny_setField_rec hzg (by simp) fun r0 hz0 hs0 => ?_)
    replace hz0 : Zr r0 z TI TO .ellipsis f' := hz0
    replace hs0 : Heap.SameBut z hg r0 := hs0
    refine wpAny_bind ?_
    simp only [List.zipIdx_cons, List.zipIdx_nil, List.forIn_cons, List.forIn_nil]
    refine wpAny_bind (wpAny_bind (wpAny_onRaise ?_))
    show wpAny _ _ (Builtin.SmallTypes.nextOf (.ref i1) >>= _) _ _ ⟨r0, gs, d, tk0, os⟩
    refine wpAny_bind (D1.item i _ _ _ lt1 (D1.over s1g hs0 S.zf1) fun x1 p1 tk1 hx1 sn1 hp1 => wpAny_pure ?_)
    replace hp1 : Heap.SameBut i1 r0 p1 := hp1
    have hU1 : IsTupOf2 p1 TO a1 a2 := hp1.extBut _ _ S.Ti1 (hs0.extBut _ _ S.TOz hTOg)
    refine wpAny_bind (wpAny_seqItems (s := ⟨p1, gs, d, tk1, os⟩) hU1 rfl ?_)
    refine wpAny_bind (updateSeq_IsTupOf2 (s := ⟨p1, gs, d, tk1, os⟩) hU1 fun r1 hT1 hs1 => ?_)
    replace hT1 : IsTupOf2 r1 TO x1 a2 := hT1
    replace hs1 : Heap.SameBut TO p1 r1 := hs1
    refine wpAny_bind (wpAny_letGo (wpAny_pure ?_))
    refine wpAny_bind (wpAny_bind (wpAny_onRaise ?_))
    show wpAny _ _ (Builtin.SmallTypes.nextOf (.ref i2) >>= _) _ _ ⟨r1, gs, d, tk1, os⟩
    refine wpAny_bind (D2.item i _ _ _ lt2 (D2.over (D2.over (D2.over s2g hs0 S.zf2) hp1 S.sep1_2) hs1 S.Tf2) fun x2 p2 tk2 hx2 sn2 hp2 => wpAny_pure ?_)
    replace hp2 : Heap.SameBut i2 r1 p2 := hp2
    have hU2 : IsTupOf2 p2 TO x1 a2 := hp2.extBut _ _ S.Ti2 hT1
    refine wpAny_bind (wpAny_seqItems (s := ⟨p2, gs, d, tk2, os⟩) hU2 rfl ?_)
    refine wpAny_bind (updateSeq_IsTupOf2 (s := ⟨p2, gs, d, tk2, os⟩) hU2 fun r2 hT2 hs2 => ?_)
    replace hT2 : IsTupOf2 r2 TO x1 x2 := hT2
    replace hs2 : Heap.SameBut TO p2 r2 := hs2
    refine wpAny_bind (wpAny_letGo (wpAny_pure (wpAny_pure ?_)))
    refine wpAny_bind (wpAny_seqItems (s := ⟨r2, gs, d, tk2, os⟩) hT2 rfl ?_)
    refine wpAny_bind (wpAny_newTuple ?_)
    have hsz : r2.objs.size = hp.objs.size := by rw [hs2.1, hp2.1, hs1.1, hp1.1, hs0.1, sg.1]
    have hzz : Zr r2 z TI TO .ellipsis f' := hs2.extBut _ _ S.TOz.symm (hp2.extBut _ _ S.zi2 (hs1.extBut _ _ S.TOz.symm (hp1.extBut _ _ S.zi1 hz0)))
    have hkk : ∀ c o, c ≠ z → c ≠ TO → c ≠ i1 → c ≠ i2 → hp.get? c = some o → r2.get? c = some o := fun c o cz cT c1 c2 e =>
      hs2.extBut _ _ cT (hp2.extBut _ _ c2 (hs1.extBut _ _ cT (hp1.extBut _ _ c1 (hs0.extBut _ _ cz (sg.extBut _ _ cz e)))))
    have hj1 : St1 (i + 1) r2 := D1.over (D1.over (D1.over sn1 hs1 S.Tf1) hp2 S.sep2_1) hs2 S.Tf1
    have hj2 : St2 (i + 1) r2 := D2.over sn2 hs2 S.Tf2
    have hzlt : z < r2.objs.size := Heap.lt_size hzz
    show wpAny _ _ (Builtin.SmallTypes.ownedTupleHandOut (.ref z) (.ref r2.objs.size) >>= _) _ _ ⟨r2.push { cls := .type "tuple", data := .seq #[x1, x2] }, gs, d, tk2, os⟩
    refine wpAny_bind ?_
    unfold Builtin.SmallTypes.ownedTupleHandOut
    have hz6 : Zr (r2.push { cls := .type "tuple", data := .seq #[x1, x2] }) z TI TO .ellipsis f' := Heap.get?_push_of_some _ hzz
    refine wpAny_bind (wpAny_setField_rec hz6 (by simp) fun r7 hz7 hs7 => ?_)
    replace hz7 : Zr r7 z TI TO (rawInt r2.objs.size) f' := hz7
    refine wpAny_setField_rec hz7 (by simp) fun r8 hz8 hs8 => ?_
    replace hz8 : Zr r8 z TI TO (rawInt r2.objs.size) false := hz8
    replace hs7 : Heap.SameBut z (r2.push { cls := .type "tuple", data := .seq #[x1, x2] }) r7 := hs7
    replace hs8 : Heap.SameBut z r7 r8 := hs8
    have up : ∀ c o, c ≠ z → r2.get? c = some o → r8.get? c = some o := fun c o c1 e => hs8.extBut _ _ c1 (hs7.extBut _ _ c1 (Heap.get?_push_of_some _ e))
    have hT8 : IsTupOf2 r8 r2.objs.size x1 x2 := hs8.extBut _ _ (Nat.ne_of_gt hzlt) (hs7.extBut _ _ (Nat.ne_of_gt hzlt) (Heap.get?_push_size _ rfl))
    have e8 : r8.objs.size = r2.objs.size + 1 := by rw [hs8.1, hs7.1, Heap.size_push]
    rw [hsz] at hz8 hT8 e8
    refine wpAny_pure ⟨_, rfl, ?_⟩
    show Q (.ref r2.objs.size) ⟨r8, gs, d, tk2, os⟩
    rw [hsz]
    exact hQ x1 x2 r8 tk2 _ _ _ _ hx1 hx2 hz8 (.inr ⟨_, rfl⟩) (up _ _ S.TOz hT2) (D1.frame _ _ _ hj1 fun b hb o e => up b o (fun q => S.zf1 (q ▸ hb)) e) (D2.frame _ _ _ hj2 fun b hb o e => up b o (fun q => S.zf2 (q ▸ hb)) e) hT8 e8
      fun c o cz cT c1 c2 e => up c o cz (hkk c o cz cT c1 c2 e)
/-- .. and the end -/
theorem zx_end {Q : PySem.Fin → Shared → Prop} (S : ZipSep2 z TI TO i1 i2 fp1 fp2) (D1 : Draws prog w A i1 fp1 n1 P1 St1) (D2 : Draws prog w A i2 fp2 n2 P2 St2) (hz : Zr s.heap z TI TO f0 f) (h0 : Out0 f0)
    (hTI : IsTupOf2 s.heap TI (.ref i1) (.ref i2)) (hTO : IsTupOf2 s.heap TO a1 a2) (st1 : St1 i s.heap) (st2 : St2 i s.heap) (le1 : i ≤ n1) (le2 : i ≤ n2) (hend : i = n1 ∨ i = n2)
    (hE : ∀ h' tk e, (∀ c o, c ≠ z → c ≠ TO → c ≠ i1 → c ≠ i2 → s.heap.get? c = some o → h'.get? c = some o) → (∃ o, h'.get? e = some o ∧ o.cls = .type "StopIteration") → E (.ref e) { s with heap := h', toks := tk }) :
    wpAny (model prog w) A (Builtin.«zip.__next__» ⟨[.ref z], []⟩) Q E s := by
  obtain ⟨hp, gs, d, tk0, os⟩ := s
  show wpAny _ _ (field (.ref z) 2 >>= _) _ _ _
  refine wpAny_bind (wpAny_field hz rfl (x := .bool false) rfl ?_)
  show wpAny _ _ (field (.ref z) 3 >>= _) _ _ _
  refine wpAny_bind (wpAny_field hz rfl (x := .ref TI) rfl ?_)
  refine wpAny_bind (wpAny_seqItems hTI rfl ?_)
  show wpAny _ _ (Builtin.SmallTypes.ownedTupleIsFree (.ref z) >>= _) _ _ _
  refine wpAny_bind (zx_free hz h0 fun b hg f' hzg sg => ?_)
  replace hzg : Zr hg z TI TO f0 f' := hzg
  replace sg : Heap.SameBut z hp hg := sg
  have hTOg : IsTupOf2 hg TO a1 a2 := sg.extBut _ _ S.TOz hTO
  have s1g : St1 i hg := D1.over st1 sg S.zf1
  have s2g : St2 i hg := D2.over st2 sg S.zf2
  cases b with
  | false =>
    simp only [Bool.false_eq_true, if_false]
    refine wpAny_bind ?_
    rw [← Array.forIn_toList]
    simp only [List.forIn_cons, List.forIn_nil]
    refine wpAny_bind (wpAny_bind (wpAny_holding ?_))
    show wpAny _ _ (Builtin.SmallTypes.nextOf (.ref i1) >>= _) _ _ ⟨hg, gs, d, tk0, os⟩
    by_cases lt1 : i < n1
    · refine wpAny_bind (D1.item i _ _ _ lt1 s1g fun x1 q1 tk1 hx1 sn1 hs1 => wpAny_pure ?_)
      replace hs1 : Heap.SameBut i1 hg q1 := hs1
      have e2 : i = n2 := by omega
      refine wpAny_pure ?_
      refine wpAny_bind (wpAny_bind (wpAny_holding ?_))
      show wpAny _ _ (Builtin.SmallTypes.nextOf (.ref i2) >>= _) _ _ ⟨q1, gs, d, tk1, os⟩
      refine wpAny_bind (D2.done ⟨q1, gs, d, tk1, os⟩ _ _ (by rw [← e2]; exact D2.over s2g hs1 S.sep1_2) fun q e hq he => ?_)
      exact hE q tk1 e (fun c o cz _ c1 c2 x => hq _ _ c2 (hs1.extBut _ _ c1 (sg.extBut _ _ cz x))) he
    · have e1 : i = n1 := by omega
      refine wpAny_bind (D1.done ⟨hg, gs, d, tk0, os⟩ _ _ (by rw [← e1]; exact s1g) fun q e hq he => ?_)
      exact hE q tk0 e (fun c o cz _ c1 _ x => hq _ _ c1 (sg.extBut _ _ cz x)) he
  | true =>
    simp only [if_true]
    refine wpAny_bind (wpAny_rule ?_)
    refine wpAny_bind (wpAny_field hzg rfl (x := .ref TO) rfl ?_)
    refine wpAny_bind (wpAny_setField_rec hzg (by simp) fun r0 hz0 hs0 => ?_)
    replace hz0 : Zr r0 z TI TO .ellipsis f' := hz0
    replace hs0 : Heap.SameBut z hg r0 := hs0
    refine wpAny_bind ?_
    simp only [List.zipIdx_cons, List.zipIdx_nil, List.forIn_cons, List.forIn_nil]
    refine wpAny_bind (wpAny_bind (wpAny_onRaise ?_))
    show wpAny _ _ (Builtin.SmallTypes.nextOf (.ref i1) >>= _) _ _ ⟨r0, gs, d, tk0, os⟩
    by_cases lt1 : i < n1
    · refine wpAny_bind (D1.item i _ _ _ lt1 (D1.over s1g hs0 S.zf1) fun x1 p1 tk1 hx1 sn1 hp1 => wpAny_pure ?_)
      replace hp1 : Heap.SameBut i1 r0 p1 := hp1
      have hU1 : IsTupOf2 p1 TO a1 a2 := hp1.extBut _ _ S.Ti1 (hs0.extBut _ _ S.TOz hTOg)
      refine wpAny_bind (wpAny_seqItems (s := ⟨p1, gs, d, tk1, os⟩) hU1 rfl ?_)
      refine wpAny_bind (updateSeq_IsTupOf2 (s := ⟨p1, gs, d, tk1, os⟩) hU1 fun r1 hT1 hs1 => ?_)
      replace hT1 : IsTupOf2 r1 TO x1 a2 := hT1
      replace hs1 : Heap.SameBut TO p1 r1 := hs1
      refine wpAny_bind (wpAny_letGo (wpAny_pure ?_))
      have e2 : i = n2 := by omega
      refine wpAny_bind (wpAny_bind (wpAny_onRaise ?_))
      show wpAny _ _ (Builtin.SmallTypes.nextOf (.ref i2) >>= _) _ _ ⟨r1, gs, d, tk1, os⟩
      refine wpAny_bind (D2.done ⟨r1, gs, d, tk1, os⟩ _ _ (by rw [← e2]; exact D2.over (D2.over (D2.over s2g hs0 S.zf2) hp1 S.sep1_2) hs1 S.Tf2) fun q e hq he => ?_)
      replace hq : Heap.ExtBut i2 r1 q := hq
      obtain ⟨oe, hoe, hce⟩ := he
      replace hoe : q.get? e = some oe := hoe
      have hzq : Zr q z TI TO .ellipsis f' := hq _ _ S.zi2 (hs1.extBut _ _ S.TOz.symm (hp1.extBut _ _ S.zi1 hz0))
      have hez : e ≠ z := fun x => by subst x; rw [hzq] at hoe; cases hoe; simp at hce
      refine wpAny_setField_rec (s := ⟨q, gs, d, tk1, os⟩) hzq (by simp) fun q' _ hq' => ?_
      replace hq' : Heap.SameBut z q q' := hq'
      exact hE q' tk1 e (fun c o cz cT c1 c2 x => hq'.extBut _ _ cz (hq _ _ c2 (hs1.extBut _ _ cT (hp1.extBut _ _ c1 (hs0.extBut _ _ cz (sg.extBut _ _ cz x)))))) ⟨oe, hq'.extBut _ _ hez hoe, hce⟩
    · have e1 : i = n1 := by omega
      refine wpAny_bind (D1.done ⟨r0, gs, d, tk0, os⟩ _ _ (by rw [← e1]; exact D1.over s1g hs0 S.zf1) fun q e hq he => ?_)
      replace hq : Heap.ExtBut i1 r0 q := hq
      obtain ⟨oe, hoe, hce⟩ := he
      replace hoe : q.get? e = some oe := hoe
      have hzq : Zr q z TI TO .ellipsis f' := hq _ _ S.zi1 hz0
      have hez : e ≠ z := fun x => by subst x; rw [hzq] at hoe; cases hoe; simp at hce
      refine wpAny_setField_rec (s := ⟨q, gs, d, tk0, os⟩) hzq (by simp) fun q' _ hq' => ?_
      replace hq' : Heap.SameBut z q q' := hq'
      exact hE q' tk0 e (fun c o cz _ c1 _ x => hq'.extBut _ _ cz (hq _ _ c1 (hs0.extBut _ _ cz (sg.extBut _ _ cz x)))) ⟨oe, hq'.extBut _ _ hez hoe, hce⟩
/-- the next pair with its number -/
theorem ez_item {e : Addr} {old : Value} {Q : Option Value → Shared → Prop} (S : ZipSep2 z TI TO i1 i2 fp1 fp2) (D1 : Draws prog w A.in1.in1 i1 fp1 n1 P1 St1) (D2 : Draws prog w A.in1.in1 i2 fp2 n2 P2 St2) (he : IsEnum s.heap e z i old)
    (ee : e ≠ z ∧ e ≠ TI ∧ e ≠ TO ∧ e ≠ i1 ∧ e ≠ i2 ∧ e ∉ fp1 ∧ e ∉ fp2) (hz : Zr s.heap z TI TO f0 f) (h0 : Out0 f0)
    (hTI : IsTupOf2 s.heap TI (.ref i1) (.ref i2)) (hTO : IsTupOf2 s.heap TO a1 a2) (st1 : St1 i s.heap) (st2 : St2 i s.heap) (lt1 : i < n1) (lt2 : i < n2)
    (hQ : ∀ x1 x2 hm h' tk g0 g b1 b2, P1 i x1 → P2 i x2 → IsTupOf2 hm s.heap.objs.size x1 x2 → hm.objs.size = s.heap.objs.size + 1 → (∀ c o, c ≠ z → c ≠ TO → c ≠ i1 → c ≠ i2 → s.heap.get? c = some o → hm.get? c = some o) →
      IsEnumOut h' e z ((i : Int) + 1) (.ref s.heap.objs.size) (s.heap.objs.size + 1) → Zr h' z TI TO g0 g → Out0 g0 → IsTupOf2 h' TI (.ref i1) (.ref i2) → IsTupOf2 h' TO b1 b2 → St1 (i + 1) h' → St2 (i + 1) h' →
      h'.get? (s.heap.objs.size + 1) = some { cls := .type "tuple", data := .seq #[.int i tk, .ref s.heap.objs.size] } → (∀ c o, c ≠ e → hm.get? c = some o → h'.get? c = some o) → Q (some (.ref (s.heap.objs.size + 1))) { s with heap := h', toks := tk + 1 }) :
    wpAny (model prog w) A (pyNext (.ref e)) Q E s := by
  have hT : s.TypeIs (.ref e) "enumerate" := ⟨_, he, rfl⟩
  unfold pyNext
  refine wpAny_bind (wpAny_attempt (wpAny_callSpecial?_slot (name := Str.ofString "__next__") hT F.slot_enumerate_next (wpAny_call_entry F.slot_enumerate_next hT F.entry_enumerate_next ?_ (F.args_enumerate_next_1 _))))
  obtain ⟨hp, gs, d, tk0, os⟩ := s
  show wpAny _ _ (field (.ref e) 2 >>= _) _ _ _
  refine wpAny_bind (wpAny_field he rfl (x := .ref z) rfl ?_)
  have hTz : Shared.TypeIs ⟨hp, gs, d, tk0, os⟩ (.ref z) "zip" := ⟨_, hz, rfl⟩
  refine wpAny_bind ?_
  unfold Builtin.SmallTypes.nextOf
  refine wpAny_bind (wpAny_callSpecial?_slot (name := Str.ofString "__next__") hTz F.slot_zip_next (wpAny_call_entry F.slot_zip_next hTz F.entry_zip_next (zx_item S D1 D2 hz h0 hTI hTO st1 st2 lt1 lt2 fun x1 x2 hm tk g0 g b1 b2 hx1 hx2 zm hg0 tom s1m s2m pm szm km => ?_) (F.args_zip_next_1 _)))
  refine wpAny_pure ?_
  replace zm : Zr hm z TI TO g0 g := zm
  replace pm : IsTupOf2 hm hp.objs.size x1 x2 := pm
  replace szm : hm.objs.size = hp.objs.size + 1 := szm
  replace km : ∀ c o, c ≠ z → c ≠ TO → c ≠ i1 → c ≠ i2 → hp.get? c = some o → hm.get? c = some o := km
  have he1 : IsEnum hm e z i old := km _ _ ee.1 ee.2.2.1 ee.2.2.2.1 ee.2.2.2.2.1 he
  show wpAny _ _ (field (.ref e) 3 >>= _) _ _ ⟨hm, gs, d, tk, os⟩
  refine wpAny_bind (wpAny_field he1 rfl (x := rawInt i) rfl ?_)
  show wpAny _ _ (field (.ref e) 4 >>= _) _ _ ⟨hm, gs, d, tk, os⟩
  refine wpAny_bind (wpAny_field he1 rfl (x := .none) rfl ?_)
  show wpAny _ _ (mkInt i >>= _) _ _ ⟨hm, gs, d, tk, os⟩
  refine wpAny_bind (wpAny_mkInt ?_)
  show wpAny _ _ (setField (.ref e) 3 (rawInt ((i : Int) + 1)) >>= _) _ _ ⟨hm, gs, d, tk + 1, os⟩
  refine wpAny_bind (wpAny_setField_rec he1 (by simp) fun r2 he2 hs2 => ?_)
  replace hs2 : Heap.SameBut e hm r2 := hs2
  replace he2 : IsEnum r2 e z ((i : Int) + 1) old := he2
  show wpAny _ _ (setField (.ref e) 4 .none >>= _) _ _ ⟨r2, gs, d, tk + 1, os⟩
  refine wpAny_bind (wpAny_setField_rec he2 (by simp) fun r3 he3 hs3 => ?_)
  replace hs3 : Heap.SameBut e r2 r3 := hs3
  replace he3 : IsEnum r3 e z ((i : Int) + 1) old := he3
  show wpAny _ _ (newTuple [.int i tk, .ref hp.objs.size] >>= _) _ _ ⟨r3, gs, d, tk + 1, os⟩
  refine wpAny_bind (wpAny_newTuple ?_)
  have he4 : IsEnum (r3.push { cls := .type "tuple", data := .seq #[.int i tk, .ref hp.objs.size] }) e z ((i : Int) + 1) old := Heap.get?_push_of_some _ he3
  generalize hh4 : r3.push { cls := .type "tuple", data := .seq #[.int i tk, .ref hp.objs.size] } = r4 at he4
  have hsz : r3.objs.size = hp.objs.size + 1 := by rw [hs3.1, hs2.1, szm]
  have hel : e < hp.objs.size := Heap.lt_size he
  have ht4 : r4.get? (hp.objs.size + 1) = some { cls := .type "tuple", data := .seq #[.int i tk, .ref hp.objs.size] } := by rw [← hh4, ← hsz]; exact Heap.get?_push_size _ rfl
  have hk4 : ∀ b o, b ≠ e → hm.get? b = some o → r4.get? b = some o := fun b o hbe hb => by
    rw [← hh4]; exact Heap.get?_push_of_some _ (hs3.extBut b o hbe (hs2.extBut b o hbe hb))
  show wpAny _ _ (Builtin.SmallTypes.ownedTupleIsFree (.ref e) >>= _) _ _ ⟨r4, gs, d, tk + 1, os⟩
  rw [hsz]
  clear hh4 he3 hs3 he2 hs2 hsz
  refine wpAny_bind ?_
  unfold Builtin.SmallTypes.ownedTupleIsFree
  refine wpAny_bind (wpAny_field he4 rfl (x := .none) rfl (wpAny_pure ?_))
  simp only [if_true]
  refine wpAny_bind (wpAny_rule ?_)
  refine wpAny_bind (wpAny_field he4 rfl (x := old) rfl ?_)
  refine wpAny_bind (wpAny_setField_rec he4 (by simp) fun r5 he5 hs5 => ?_)
  replace hs5 : Heap.SameBut e r4 r5 := hs5
  replace he5 : IsEnum r5 e z ((i : Int) + 1) (.ref hp.objs.size) := he5
  show wpAny _ _ (Builtin.SmallTypes.ownedTupleHandOut (.ref e) (.ref (hp.objs.size + 1)) >>= _) _ _ ⟨r5, gs, d, tk + 1, os⟩
  refine wpAny_bind ?_
  unfold Builtin.SmallTypes.ownedTupleHandOut
  refine wpAny_bind (wpAny_setField_rec he5 (by simp) fun r6 he6 hs6 => ?_)
  replace hs6 : Heap.SameBut e r5 r6 := hs6
  replace he6 : IsEnumOut r6 e z ((i : Int) + 1) (.ref hp.objs.size) (hp.objs.size + 1) := he6
  refine wpAny_setField_rec he6 (by simp) fun r7 he7 hs7 => ?_
  replace hs7 : Heap.SameBut e r6 r7 := hs7
  replace he7 : IsEnumOut r7 e z ((i : Int) + 1) (.ref hp.objs.size) (hp.objs.size + 1) := he7
  have up : ∀ b o, b ≠ e → r4.get? b = some o → r7.get? b = some o := fun b o hbe y => hs7.extBut b o hbe (hs6.extBut b o hbe (hs5.extBut b o hbe y))
  have up2 : ∀ b o, b ≠ e → hm.get? b = some o → r7.get? b = some o := fun b o hbe y => up b o hbe (hk4 b o hbe y)
  refine wpAny_bind (wpAny_letGo (wpAny_pure ⟨_, rfl, wpAny_pure ?_⟩))
  exact hQ x1 x2 hm r7 tk g0 g b1 b2 hx1 hx2 pm szm km he7 (up2 _ _ ee.1.symm zm) hg0 (up2 _ _ ee.2.1.symm (km _ _ S.TIz S.TITO S.TIi1 S.TIi2 hTI)) (up2 _ _ ee.2.2.1.symm tom)
    (D1.frame _ _ _ s1m fun b hb o y => up2 b o (fun q => ee.2.2.2.2.2.1 (q ▸ hb)) y) (D2.frame _ _ _ s2m fun b hb o y => up2 b o (fun q => ee.2.2.2.2.2.2 (q ▸ hb)) y) (up _ _ (Nat.ne_of_gt (Nat.lt_succ_of_lt hel)) ht4) up2
theorem ez_end {e : Addr} {k : Int} {old : Value} {Q : Option Value → Shared → Prop} (S : ZipSep2 z TI TO i1 i2 fp1 fp2) (D1 : Draws prog w A.in1.in1 i1 fp1 n1 P1 St1) (D2 : Draws prog w A.in1.in1 i2 fp2 n2 P2 St2) (he : IsEnum s.heap e z k old)
    (hz : Zr s.heap z TI TO f0 f) (h0 : Out0 f0) (hTI : IsTupOf2 s.heap TI (.ref i1) (.ref i2)) (hTO : IsTupOf2 s.heap TO a1 a2) (st1 : St1 i s.heap) (st2 : St2 i s.heap) (le1 : i ≤ n1) (le2 : i ≤ n2) (hend : i = n1 ∨ i = n2)
    (hQ : ∀ h' tk, (∀ c o, c ≠ z → c ≠ TO → c ≠ i1 → c ≠ i2 → s.heap.get? c = some o → h'.get? c = some o) → Q none { s with heap := h', toks := tk }) : wpAny (model prog w) A (pyNext (.ref e)) Q E s := by
  have hT : s.TypeIs (.ref e) "enumerate" := ⟨_, he, rfl⟩
  unfold pyNext
  refine wpAny_bind (wpAny_attempt (wpAny_callSpecial?_slot (name := Str.ofString "__next__") hT F.slot_enumerate_next (wpAny_call_entry F.slot_enumerate_next hT F.entry_enumerate_next ?_ (F.args_enumerate_next_1 _))))
  show wpAny _ _ (field (.ref e) 2 >>= _) _ _ _
  refine wpAny_bind (wpAny_field he rfl (x := .ref z) rfl ?_)
  have hTz : s.TypeIs (.ref z) "zip" := ⟨_, hz, rfl⟩
  refine wpAny_bind ?_
  unfold Builtin.SmallTypes.nextOf
  refine wpAny_bind (wpAny_callSpecial?_slot (name := Str.ofString "__next__") hTz F.slot_zip_next (wpAny_call_entry F.slot_zip_next hTz F.entry_zip_next (zx_end S D1 D2 hz h0 hTI hTO st1 st2 le1 le2 hend fun h' tk x hk hx => ?_) (F.args_zip_next_1 _)))
  obtain ⟨o, ho, hc⟩ := hx
  refine wpAny_bind (wpAny_isInstance (T := "StopIteration") (b := true) ⟨o, ho, hc⟩ isSubtype_stop ?_)
  exact wpAny_pure (hQ h' tk hk)
end
theorem meets_enum_zip (z TI TO : Addr) :
    Meets (Builtin.«enumerate.__new__» ⟨[.type "enumerate", .ref z], []⟩) (fun _ R s => IsZip s.heap z TI TO .none ∧
      R (.ok (.ret (.ref s.heap.objs.size))) { s with heap := s.heap.push { cls := .type "enumerate", data := .fields #[.none, .bool false, .ref z, rawInt 0, .none, .none] } }) :=
  .of_wp fun prog w A R s h => by
    obtain ⟨hp, g, d, tk, os⟩ := s
    obtain ⟨hl, h⟩ := h
    have hsub := sub_enumerate
    have hL : IsZip (Shared.heap ⟨hp, g, d, tk, os⟩) z TI TO .none := hl
    wp_walk using AutoSeq1.wpAny_loadPart' hl
    refine wpAny_stack_any fun st => wpAny_pure ?_
    split
    · rename_i c _ _ _ _ _
      cases (c == Value.type "enumerate")
      · wp_walk using AutoSeq1.wpAny_loadPart' hl, wpAny_pyIter_zip hL
        exact ⟨_, rfl, h⟩
      · wp_walk using AutoSeq1.wpAny_loadPart' hl, wpAny_pyIter_zip hL
        exact ⟨_, rfl, h⟩
    · wp_walk using AutoSeq1.wpAny_loadPart' hl, wpAny_pyIter_zip hL
      exact ⟨_, rfl, h⟩
theorem call_enum_zip {prog : Program} {w : World} {A : Around} {E : Value → Shared → Prop} {s : Shared} {z TI TO : Addr} {Q : Value → Shared → Prop} (hz : IsZip s.heap z TI TO .none)
    (h : ∀ h', IsEnum h' s.heap.objs.size z 0 .none → (∀ b o, s.heap.get? b = some o → h'.get? b = some o) → Q (.ref s.heap.objs.size) { s with heap := h' }) : wpAny (model prog w) A (call (.type "enumerate") [.ref z]) Q E s := by
  refine callType_new F.called_enumerate (by decide) (F.typeCall_enumerate_1 _) (F.newCall_enumerate_1 _) (fun obj => F.args_object_init_2 obj _) F.entry_enumerate_new
    (meets_enum_zip z TI TO) ⟨hz, ?_⟩
  have he : IsEnum (s.heap.push { cls := .type "enumerate", data := .fields #[.none, .bool false, .ref z, rawInt 0, .none, .none] }) s.heap.objs.size z 0 .none := Heap.get?_push_size _ rfl
  show _ ∧ _
  exact ⟨⟨_, he, rfl⟩, h _ he fun b o x => Heap.get?_push_of_some _ x⟩
/-- pairs of signs with their numbers -/
def Itez (x y : Str) : It :=
  ⟨fun i _ => i < x.cps.size ∧ i < y.cps.size, fun i H v H' => ∃ T U c d, v = .ref T ∧ H U = none ∧ H T = none ∧ T ≠ U ∧ H' = upd (upd H U (.tup [.str ⟨#[c]⟩, .str ⟨#[d]⟩])) T (.tup [.int (i : Nat), .ref U]) ∧ x.cps[i]? = some c ∧ y.cps[i]? = some d,
    fun i _ => x.cps.size ≤ i ∨ y.cps.size ≤ i⟩
def tnZ (x y : Str) (t u : Tok) (e z TI TO i1 i2 : Addr) (i : Nat) (h : Heap) : Prop :=
  (∃ old, IsEnum h e z ((i : Nat) : Int) old) ∧ (∃ f0 f, Zr h z TI TO f0 f ∧ Out0 f0) ∧ IsTupOf2 h TI (.ref i1) (.ref i2) ∧ (∃ a b, IsTupOf2 h TO a b) ∧ h.IsStrIter i1 (strIterType x) x t i ∧ h.IsStrIter i2 (strIterType y) y u i ∧ i ≤ x.cps.size ∧ i ≤ y.cps.size
theorem turn_ez {P : Program} {w : World} {K : PySem.W.Frag} {elts : List Expr} {kk : Nat} {tpos : Pos} (x y : Str) (t u : Tok) {e z TI TO i1 i2 : Addr} (S : ZipSep2 z TI TO i1 i2 [i1] [i2]) (ee : e ≠ z ∧ e ≠ TI ∧ e ≠ TO ∧ e ≠ i1 ∧ e ≠ i2) :
    Turn P w K (.Tuple elts kk tpos) (Itez x y) [e, z, TI, TO, i1, i2] e (tnZ x y t u e z TI TO i1 i2) where
  mem := by simp
  obj := fun i h st b hb => by
    obtain ⟨⟨old, he⟩, ⟨f0, f, hz, _⟩, hTI, ⟨a, c, hTO⟩, ⟨o1, g1, _, d1⟩, ⟨o2, g2, _, d2⟩, _⟩ := st
    have e' : b = e ∨ b = z ∨ b = TI ∨ b = TO ∨ b = i1 ∨ b = i2 := by simpa using hb
    rcases e' with q | q | q | q | q | q
    · rw [q]; exact ⟨_, he, fun v q => nomatch q⟩
    · rw [q]; exact ⟨_, hz, fun v q => nomatch q⟩
    · rw [q]; exact ⟨_, hTI, fun v q => nomatch q⟩
    · rw [q]; exact ⟨_, hTO, fun v q => nomatch q⟩
    · rw [q]; exact ⟨o1, g1, fun v q => by rw [d1] at q; cases q⟩
    · rw [q]; exact ⟨o2, g2, fun v q => by rw [d2] at q; cases q⟩
  keep := fun i h h' st k => by
    obtain ⟨⟨old, he⟩, ⟨f0, f, hz, h0⟩, hTI, ⟨a, c, hTO⟩, ⟨o1, g1, r1⟩, ⟨o2, g2, r2⟩, l1, l2⟩ := st
    exact ⟨⟨old, k e (by simp) _ he⟩, ⟨f0, f, k z (by simp) _ hz, h0⟩, k TI (by simp) _ hTI, ⟨a, c, k TO (by simp) _ hTO⟩, ⟨o1, k i1 (by simp) _ g1, r1⟩, ⟨o2, k i2 (by simp) _ g2, r2⟩, l1, l2⟩
  item := by
    intro X hP hw hK hc i pins s σ H E I hf st hg
    subst hP hw hK
    obtain ⟨⟨old, he⟩, ⟨f0, f, hz, h0⟩, hTI, ⟨a, b, hTO⟩, h1, h2, _, _⟩ := st
    obtain ⟨lt1, lt2⟩ := hg
    have hh : X.A.handled = none := I.ok.hd hc
    have D1 := drawsStr (prog := X.prog) (w := X.w) (A := X.A.in1.in1) hh i1 x t
    have D2 := drawsStr (prog := X.prog) (w := X.w) (A := X.A.in1.in1) hh i2 y u
    have hel : e < s.heap.objs.size := Heap.lt_size he
    refine ez_item S D1 D2 he ⟨ee.1, ee.2.1, ee.2.2.1, ee.2.2.2.1, ee.2.2.2.2, by simpa using ee.2.2.2.1, by simpa using ee.2.2.2.2⟩ hz h0 hTI hTO h1 h2 lt1 lt2
      fun x1 x2 hm h' tk g0 g b1 b2 hx1 hx2 pm szm km ho zz zo tI tO s1 s2 hT up => ?_
    obtain ⟨c, v, hcx, rfl⟩ := hx1
    obtain ⟨d, w', hdy, rfl⟩ := hx2
    refine ⟨_, rfl, wpAny_letOwnedTupleGo_enum (s := { s with heap := h', toks := tk + 1 }) ho fun h'' he' sb => ?_⟩
    have ch : ∀ q, q ∈ [e, z, TI, TO, i1, i2] → q < s.heap.objs.size := fun q hq => by
      have e' : q = e ∨ q = z ∨ q = TI ∨ q = TO ∨ q = i1 ∨ q = i2 := by simpa using hq
      rcases e' with r | r | r | r | r | r
      · rw [r]; exact hel
      · rw [r]; exact Heap.lt_size hz
      · rw [r]; exact Heap.lt_size hTI
      · rw [r]; exact Heap.lt_size hTO
      · rw [r]; obtain ⟨_, g1, _⟩ := h1; exact Heap.lt_size g1
      · rw [r]; obtain ⟨_, g2, _⟩ := h2; exact Heap.lt_size g2
    have newU : ObjOk X.prog X.w (upd H s.heap.objs.size (.tup [.str ⟨#[c]⟩, .str ⟨#[d]⟩])) hm s.heap.objs.size (.tup [.str ⟨#[c]⟩, .str ⟨#[d]⟩]) :=
      ⟨by show 2 ≤ sizeLine; decide, [.str ⟨#[c]⟩ v, .str ⟨#[d]⟩ w'], .cons ⟨_, rfl⟩ (.cons ⟨_, rfl⟩ .nil), ⟨_, pm, rfl, _, rfl⟩⟩
    have I1 : Inv X pins σ (upd H s.heap.objs.size (.tup [.str ⟨#[c]⟩, .str ⟨#[d]⟩])) { s with heap := hm, toks := tk + 1 } :=
      I.turnedNew (ch := [e, z, TI, TO, i1, i2]) (fun b o hb q => km b o (fun z' => hb (by simp [z'])) (fun z' => hb (by simp [z'])) (fun z' => hb (by simp [z'])) (fun z' => hb (by simp [z'])) q) hf (Nat.le_refl _) newU
    have hf1 : ∀ b ∈ [e, z, TI, TO, i1, i2], FpOk X pins (upd H s.heap.objs.size (.tup [.str ⟨#[c]⟩, .str ⟨#[d]⟩])) b := fun b hb => by
      obtain ⟨q1, q2⟩ := hf b hb
      exact ⟨by rw [upd_ne (Nat.ne_of_lt (ch b hb))]; exact q1, q2⟩
    have hT2 : h''.get? (s.heap.objs.size + 1) = some { cls := .type "tuple", data := .seq #[.int i tk, .ref s.heap.objs.size] } := (sb.2 _ (Nat.ne_of_gt (Nat.lt_succ_of_lt hel))).trans hT
    have newT : ObjOk X.prog X.w (upd (upd H s.heap.objs.size (.tup [.str ⟨#[c]⟩, .str ⟨#[d]⟩])) (s.heap.objs.size + 1) (.tup [.int (i : Nat), .ref s.heap.objs.size])) h'' (s.heap.objs.size + 1) (.tup [.int (i : Nat), .ref s.heap.objs.size]) :=
      ⟨by show 2 ≤ sizeLine; decide, [.int i tk, .ref s.heap.objs.size], .cons ⟨_, rfl⟩ (.cons rfl .nil), ⟨_, hT2, rfl, _, rfl⟩⟩
    have I2 : Inv X pins σ (upd (upd H s.heap.objs.size (.tup [.str ⟨#[c]⟩, .str ⟨#[d]⟩])) (s.heap.objs.size + 1) (.tup [.int (i : Nat), .ref s.heap.objs.size])) { s with heap := h'', toks := tk + 1 } :=
      I1.turnedNew (t' := tk + 1) (ch := [e, z, TI, TO, i1, i2]) (fun b o hb q => (sb.2 b (fun z' => hb (by simp [z']))).trans (up b o (fun z' => hb (by simp [z'])) q)) hf1 (by show hm.objs.size ≤ _; rw [szm]; exact Nat.le_refl _) newT
    have e1 : ((i + 1 : Nat) : Int) = (i : Int) + 1 := by omega
    have hn1 : H s.heap.objs.size = none := I.hok.fresh (Nat.le_refl _)
    have hn2 : H (s.heap.objs.size + 1) = none := I.hok.fresh (Nat.le_succ _)
    have ne : ∀ q, q ≠ e → ∀ o, h'.get? q = some o → h''.get? q = some o := fun q hq o h => (sb.2 q hq).trans h
    refine ⟨.ref (s.heap.objs.size + 1), _, I2, rfl, ⟨_, s.heap.objs.size, c, d, rfl, hn1, hn2, Nat.succ_ne_self _, rfl, hcx, hdy⟩, ⟨⟨_, by rw [e1]; exact he'⟩, ⟨g0, g, ne _ ee.1.symm _ zz, zo⟩, ne _ ee.2.1.symm _ tI, ⟨b1, b2, ne _ ee.2.2.1.symm _ tO⟩, ?_, ?_, lt1, lt2⟩, fun b hb => ?_⟩
    · obtain ⟨o, q, r⟩ := s1
      exact ⟨o, ne _ ee.2.2.2.1.symm _ q, r⟩
    · obtain ⟨o, q, r⟩ := s2
      exact ⟨o, ne _ ee.2.2.2.2.symm _ q, r⟩
    · rw [upd_ne (Nat.ne_of_lt (Nat.lt_succ_of_lt (ch b hb))), upd_ne (Nat.ne_of_lt (ch b hb))]
      exact (hf b hb).1
  done := by
    intro X hP hw hK hc i pins s σ H E I hf st hg
    subst hP hw hK
    obtain ⟨⟨old, he⟩, ⟨f0, f, hz, h0⟩, hTI, ⟨a, b, hTO⟩, h1, h2, l1, l2⟩ := st
    have hh : X.A.handled = none := I.ok.hd hc
    have D1 := drawsStr (prog := X.prog) (w := X.w) (A := X.A.in1.in1) hh i1 x t
    have D2 := drawsStr (prog := X.prog) (w := X.w) (A := X.A.in1.in1) hh i2 y u
    refine ez_end S D1 D2 he hz h0 hTI hTO h1 h2 l1 l2 (hg.imp (fun q => Nat.le_antisymm l1 q) fun q => Nat.le_antisymm l2 q) fun h' tk eb => ⟨rfl, ?_⟩
    exact I.turnedL (t' := tk) (ch := [e, z, TI, TO, i1, i2]) (fun b o hb q => eb b o (fun z' => hb (by simp [z'])) (fun z' => hb (by simp [z'])) (fun z' => hb (by simp [z'])) (fun z' => hb (by simp [z'])) q) hf
  self := fun A i s Q E st h => let ⟨⟨_, he⟩, _⟩ := st; wpAny_pyIter_enum he h
/-- enumerate(zip(a, b)) of two texts -/
def iEnumZ (ta : TA) : TI := fun σ H R => ta σ H fun vs H1 => ∃ x y, vs = [.str x, .str y] ∧ R (Itez x y) H1
theorem pi_enumZ {X : Cx} {a b : Expr} {ta : TA} {p p2 pos pos2 tpos : Pos} {elts : List Expr} {kk : Nat} (hg : Gl X "enumerate") (hm : X.mg "enumerate" = none) (hg2 : Gl X "zip") (hm2 : X.mg "zip" = none) (ha : PA X [a, b] ta)
    (hs : starEach [a, b] X.env = (false, eval a X.env) :: starEach [b] X.env) (hpl : (backTo pos2 (starEach [b] X.env)).any (·.1) = false) :
    PI X (.Tuple elts kk tpos) (.Call (.Name "enumerate" p) [.Call (.Name "zip" p2) [a, b] [] pos2] [] pos) (iEnumZ ta) := by
  refine ⟨fun pins s σ H R I h => ?_⟩
  refine Call_ (ld_blt I hg hm boot_enumerate (PyProof.Rows.callWith_type1 ?_ (by rfl) (by rfl)))
  have e0 : starEach [.Call (.Name "zip" p2) [a, b] [] pos2] X.env = (false, eval (.Call (.Name "zip" p2) [a, b] [] pos2) X.env) :: starEach [] X.env := rfl
  rw [e0]
  show wpAny _ _ (spliced ((false, eval (.Call (.Name "zip" p2) [a, b] [] pos2) X.env) :: backTo pos (starEach [] X.env))) _ _ _
  refine Calls.spliced_cons ?_
  refine Call_ (ld_blt I hg2 hm2 PyProof.Rows.boot_zip (PyProof.Rows.callWith_type1 (thn (ha.run pos2 pins s σ H _ I h) fun us s1 ⟨vs, H1, I1, r1, q1⟩ => ?_) hs hpl))
  obtain ⟨x, y, ex, q⟩ := q1
  subst ex
  cases r1 with
  | cons r rr =>
    cases rr with
    | cons r' rr =>
      cases rr
      obtain ⟨t, rfl⟩ := r
      obtain ⟨u, rfl⟩ := r'
      refine zip_begins2 (begins_text x t) (begins_text y u) trivial trivial fun h1 hz hTI hTO g1 g2 hsz hk => ?_
      refine Calls.spliced_nil ?_
      refine call_enum_zip (s := { s1 with heap := h1 }) hz fun h2 he hk2 => wpAny_pyIter_enum he ?_
      replace he : IsEnum h2 h1.objs.size (s1.heap.objs.size + 4) 0 .none := he
      have I2 : Inv X pins σ H1 { s1 with heap := h2 } := I1.kept (t' := s1.toks) fun c o e => hk2 _ _ (hk _ _ e)
      have S : ZipSep2 (s1.heap.objs.size + 4) (s1.heap.objs.size + 2) (s1.heap.objs.size + 3) s1.heap.objs.size (s1.heap.objs.size + 1) [s1.heap.objs.size] [s1.heap.objs.size + 1] := by
        constructor <;> simp
      have fpk : ∀ c ∈ [h1.objs.size, s1.heap.objs.size + 4, s1.heap.objs.size + 2, s1.heap.objs.size + 3, s1.heap.objs.size, s1.heap.objs.size + 1], FpOk X pins H1 c := fun c hc => by
        have hle : s1.heap.objs.size ≤ c := by
          have e' : c = h1.objs.size ∨ c = s1.heap.objs.size + 4 ∨ c = s1.heap.objs.size + 2 ∨ c = s1.heap.objs.size + 3 ∨ c = s1.heap.objs.size ∨ c = s1.heap.objs.size + 1 := by simpa using hc
          rcases e' with z | z | z | z | z | z
          · rw [z, hsz]; exact Nat.le_add_right _ _
          · rw [z]; exact Nat.le_add_right _ _
          · rw [z]; exact Nat.le_add_right _ _
          · rw [z]; exact Nat.le_add_right _ _
          · rw [z]; exact Nat.le_refl _
          · rw [z]; exact Nat.le_add_right _ _
        exact I1.fpOk hle (I1.hok.fresh hle)
      refine ⟨h1.objs.size, [h1.objs.size, s1.heap.objs.size + 4, s1.heap.objs.size + 2, s1.heap.objs.size + 3, s1.heap.objs.size, s1.heap.objs.size + 1], _, _, H1, rfl, I2, turn_ez x y t u S (by rw [hsz]; simp), ?_, fpk, q⟩
      exact ⟨⟨.none, he⟩, ⟨.none, false, hk2 _ _ hz, .inl rfl⟩, hk2 _ _ hTI, ⟨.none, .none, hk2 _ _ hTO⟩, ⟨_, hk2 _ _ g1, rfl, rfl⟩, ⟨_, hk2 _ _ g2, rfl, rfl⟩, Nat.zero_le _, Nat.zero_le _⟩
end FX
set_option maxHeartbeats 2000000
namespace FX
variable [Wc]
open PySem PySem.Spec PyProof.Rows L2
section
variable {K : PySem.W.Frag} {F0 : Hp} {ω : Zs} {lk : Lk} {σ0 : SV} {xs ys : List PyData}
/-- the list at a stands for xs while the walk goes on -/
def Std (K : PySem.W.Frag) (F0 : Hp) (ω : Zs) (lk : Lk) (σ0 : SV) (a : Addr) (xs : List PyData) : Prop :=
  ∀ (F H : Hp) (τ : Zs) (ρ : FE) (σ : SV), Same F0 F → ρ.length = σ.length → Rp K F H (ω ++ ZE τ ρ σ) → lkOk lk ρ → (∀ p ∈ lk, σ[p.1]? = σ0[p.1]?) → ∃ ws, H a = some (.lst ws) ∧ DDs K F ws xs
theorem lk_mem : ∀ {lk : Lk} {ρ : FE} {p : Nat × Sl}, lkOk lk ρ → p ∈ lk → at_ ρ p.1 = p.2
  | q :: l, ρ, p, h, hp => by
    rcases List.mem_cons.mp hp with rfl | hp
    · exact h.1
    · exact lk_mem h.2 hp
  | [], _, _, _, hp => by cases hp
theorem lk_app : ∀ {l m : Lk} {ρ : FE}, lkOk l ρ → lkOk m ρ → lkOk (l ++ m) ρ
  | [], _, _, _, h => h
  | _ :: l, _, _, h, h2 => ⟨h.1, lk_app (l := l) h.2 h2⟩
theorem std_of {o : Op} {v : V} {ρ0 : FE} (hg : o.get ρ0 = some (.list xs)) (ha : opAt σ0 o v) (hz : ∀ p ∈ opZ o v, p ∈ ω) (hk : ∀ p ∈ lkOf o ρ0, p ∈ lk) {H0 : Hp} (hv : DV K F0 H0 v (.list xs)) : ∃ a, v = .ref a ∧ Std K F0 ω lk σ0 a xs := by
  obtain ⟨a, ws0, rfl, _, _⟩ := hv
  refine ⟨a, rfl, fun F H τ ρ σ hs hl R hlk hσ => ?_⟩
  cases o with
  | v r =>
    have q := R.ok _ (List.mem_append_left _ (hz (r.sl, some (.ref a)) (by simp [opZ])))
    have e : r.data = .list xs := Option.some.inj hg
    cases r with
    | d x =>
      have e : x = .list xs := e
      subst e
      cases (show DD K F (.ref a) (.list xs) from q) with
      | lst h1 h2 => exact ⟨_, R.sub _ _ h1, h2⟩
    | o zs =>
      have e : PyData.list zs = .list xs := e
      cases e
      obtain ⟨_, ws, h1, h2⟩ := q
      exact ⟨ws, h1, h2⟩
    | t zs => cases e
  | s i =>
    have hm : (i, at_ ρ0 i) ∈ lk := hk _ (by simp [lkOf])
    have e1 : at_ ρ i = at_ ρ0 i := lk_mem hlk hm
    have e2 : σ[i]? = some (some (.ref a)) := (hσ _ hm).trans ha
    have hg : (at_ ρ0 i).data = some (.list xs) := hg
    cases e : at_ ρ0 i with
    | no => rw [e] at hg; cases hg
    | h _ => rw [e] at hg; cases hg
    | d x =>
      rw [e] at hg e1
      cases hg
      obtain ⟨u, k1, k2⟩ := R.app.getD hl e1
      rw [e2] at k1
      cases k1
      cases k2 with
      | lst h1 h2 => exact ⟨_, R.sub _ _ h1, h2⟩
    | o zs =>
      rw [e] at hg e1
      cases hg
      obtain ⟨b, ws, k1, k2, k3⟩ := R.app.getO' hl e1
      rw [e2] at k1
      cases k1
      exact ⟨ws, k2, k3⟩
    | t zs => rw [e] at hg; cases hg
theorem wk_list {a : Addr} (h : Std K F0 ω lk σ0 a xs) : WkI K F0 ω lk σ0 (Itl K a) xs := fun F H τ ρ σ hs hl R hlk hσ => by
  obtain ⟨ws, h1, h2⟩ := h F H τ ρ σ hs hl R hlk hσ
  have sq : SqL K H a ws := .inl (.inl h1)
  refine ⟨fun i x hx => ?_, ⟨ws, sq, by rw [dps_len h2]; exact Nat.le_refl _⟩⟩
  obtain ⟨v, g1, g2⟩ := dps_get h2 hx
  refine ⟨⟨ws, v, sq, g1⟩, fun u H' hy => ?_⟩
  obtain ⟨rfl, hy⟩ := hy
  have := hy ws sq
  rw [g1] at this
  cases this
  exact made_now g2 R.sub
theorem wk_tup {a : Addr} {ws : List V} (h1 : SqT K F0 a ws) (h2 : DDs K F0 ws xs) : WkI K F0 ω lk σ0 (Itt K a) xs := fun F H τ ρ σ hs hl R hlk hσ => by
  have h2 := dps_mono hs _ _ h2
  have sq : SqT K H a ws := sqT_mono R.sub (sqT_mono hs h1)
  refine ⟨fun i x hx => ?_, ⟨ws, sq, by rw [dps_len h2]; exact Nat.le_refl _⟩⟩
  obtain ⟨v, g1, g2⟩ := dps_get h2 hx
  refine ⟨⟨ws, v, sq, g1⟩, fun u H' hy => ?_⟩
  obtain ⟨rfl, hy⟩ := hy
  have := hy ws sq
  rw [g1] at this
  cases this
  exact made_now g2 R.sub
theorem wk_keys {d : Addr} {o : Obj} {es : List Ent3} (h1 : F0 d = some (DctO d o es)) (h2 : ∀ x ∈ es, KD K F0 (.ref x.2.1) x.1) : WkI K F0 ω lk σ0 (ItkN d o es) ((kvsOf es).map (·.1)) := fun F H τ ρ σ hs hl R hlk hσ => by
  have hH : H d = some (DctO d o es) := R.sub _ _ (hs _ _ h1)
  have hlen : ((kvsOf es).map (·.1)).length = es.length := by simp [kvsOf]
  refine ⟨fun i x hx => ?_, ⟨hH, by rw [hlen]; exact Nat.le_refl _⟩⟩
  have hx' : (es[i]?).map (fun y => y.1) = some x := by
    rw [← hx]
    simp [kvsOf, Function.comp_def]
  obtain ⟨y, hy, rfl⟩ := Option.map_eq_some_iff.mp hx'
  refine ⟨⟨hH, (List.getElem?_eq_some_iff.mp hy).1⟩, fun u H' hu => ?_⟩
  obtain ⟨rfl, z, hz, rfl⟩ := hu
  rw [hy] at hz
  cases hz
  exact made_now (kd_dd _ _ (kd_mono hs _ _ (h2 y (List.mem_of_getElem? hy)))) R.sub
theorem wk_items {d : Addr} {o : Obj} {es : List Ent3} (h1 : F0 d = some (DctO d o es)) (h2 : ∀ x ∈ es, KD K F0 (.ref x.2.1) x.1) (ho : ∀ x ∈ es, scalar x.2.2 = true) : WkI K F0 ω lk σ0 (ItiN d o es) (pairsD (kvsOf es)) := fun F H τ ρ σ hs hl R hlk hσ => by
  have hH : H d = some (DctO d o es) := R.sub _ _ (hs _ _ h1)
  have hlen : (pairsD (kvsOf es)).length = es.length := by simp [pairsD, kvsOf]
  refine ⟨fun i x hx => ?_, ⟨hH, by rw [hlen]; exact Nat.le_refl _⟩⟩
  have hx' : (es[i]?).map (fun y => PyData.tuple [y.1, y.2.2]) = some x := by
    rw [← hx]
    simp [pairsD, kvsOf, Function.comp_def]
  obtain ⟨y, hy, rfl⟩ := Option.map_eq_some_iff.mp hx'
  have hm := List.mem_of_getElem? hy
  refine ⟨⟨hH, (List.getElem?_eq_some_iff.mp hy).1⟩, fun u H' hu => ?_⟩
  obtain ⟨T, z, hz, rfl, hT, rfl⟩ := hu
  rw [hy] at hz
  cases hz
  exact made_tup R.sub hT (.cons (kd_dd _ _ (kd_mono hs _ _ (h2 y hm))) (.cons (sc_dd (ho y hm)) .nil))
theorem strChars_get {z : Str} {i : Nat} {x : PyData} (h : (strChars z)[i]? = some x) : ∃ c, z.cps[i]? = some c ∧ x = .str ⟨#[c]⟩ := by
  unfold strChars at h
  rw [List.getElem?_map, Array.getElem?_toList] at h
  cases e : z.cps[i]? with
  | none => rw [e] at h; cases h
  | some c =>
    rw [e] at h
    exact ⟨c, rfl, (Option.some.inj h).symm⟩
theorem strChars_len (z : Str) : (strChars z).length = z.cps.size := by simp [strChars]
theorem wk_str {z : Str} : WkI K F0 ω lk σ0 (Its z) (strChars z) := fun F H τ ρ σ hs hl R hlk hσ => by
  refine ⟨fun i x hx => ?_, by rw [strChars_len]; exact Nat.le_refl _⟩
  obtain ⟨c, g1, rfl⟩ := strChars_get hx
  have hi : i < z.cps.size := (Array.getElem?_eq_some_iff.mp g1).1
  refine ⟨hi, fun u H' hy => ?_⟩
  obtain ⟨rfl, d, hd, rfl⟩ := hy
  rw [g1] at hd
  cases hd
  exact mk_str R.sub
theorem rangeD_len (lo : Int) : ∀ n, (rangeD lo n).length = n := fun n => by
  induction n generalizing lo with
  | zero => rfl
  | succ n ih => simp [rangeD, ih]
theorem rangeD_get {n i : Nat} {lo : Int} {x : PyData} (h : (rangeD lo n)[i]? = some x) : i < n ∧ x = .int (lo + i) := by
  induction n generalizing lo i with
  | zero => simp [rangeD] at h
  | succ n ih =>
    cases i with
    | zero =>
      simp [rangeD] at h
      exact ⟨Nat.succ_pos _, by rw [← h]; simp⟩
    | succ i =>
      simp only [rangeD, List.getElem?_cons_succ] at h
      obtain ⟨h1, h2⟩ := ih h
      refine ⟨Nat.succ_lt_succ h1, ?_⟩
      rw [h2]
      exact congrArg PyData.int (by omega)
theorem wk_range {lo : Int} {n : Nat} : WkI K F0 ω lk σ0 (Itr lo n) (rangeD lo n) := fun F H τ ρ σ hs hl R hlk hσ => by
  refine ⟨fun i x hx => ?_, by rw [rangeD_len]; exact Nat.le_refl _⟩
  obtain ⟨g1, rfl⟩ := rangeD_get hx
  refine ⟨g1, fun u H' hy => ?_⟩
  obtain ⟨rfl, rfl⟩ := hy
  exact mk_int R.sub
theorem zipD_get : ∀ {xs ys : List PyData} {i : Nat} {p : PyData}, (zipD xs ys)[i]? = some p → ∃ x y, xs[i]? = some x ∧ ys[i]? = some y ∧ p = .tuple [x, y]
  | x :: xs, y :: ys, 0, p, h => by
    simp [zipD] at h
    exact ⟨x, y, rfl, rfl, h.symm⟩
  | x :: xs, y :: ys, i + 1, p, h => by
    simp only [zipD, List.getElem?_cons_succ] at h ⊢
    exact zipD_get h
  | [], _, _, _, h => by simp [zipD] at h
  | _ :: _, [], _, _, h => by simp [zipD] at h
theorem zipD_len : ∀ xs ys : List PyData, (zipD xs ys).length = min xs.length ys.length
  | x :: xs, y :: ys => by
    simp [zipD, zipD_len xs ys]
  | [], _ => by simp [zipD]
  | _ :: _, [] => by simp [zipD]
theorem wk_zip {a b : Addr} (ha : Std K F0 ω lk σ0 a xs) (hb : Std K F0 ω lk σ0 b ys) : WkI K F0 ω lk σ0 (Itz K a b) (zipD xs ys) := fun F H τ ρ σ hs hl R hlk hσ => by
  obtain ⟨ws, h1, h2⟩ := ha F H τ ρ σ hs hl R hlk hσ
  obtain ⟨us, h3, h4⟩ := hb F H τ ρ σ hs hl R hlk hσ
  have s1 : SqL K H a ws := .inl (.inl h1)
  have s2 : SqL K H b us := .inl (.inl h3)
  refine ⟨fun i x hx => ?_, ⟨ws, us, s1, s2, by
    rw [zipD_len, dps_len h2, dps_len h4]
    omega⟩⟩
  obtain ⟨x1, x2, g1, g2, rfl⟩ := zipD_get hx
  obtain ⟨v, k1, k2⟩ := dps_get h2 g1
  obtain ⟨u, k3, k4⟩ := dps_get h4 g2
  refine ⟨⟨ws, us, v, u, s1, s2, k1, k3⟩, fun z H' hy => ?_⟩
  obtain ⟨T, y1, y2, rfl, hT, rfl, e1, e2⟩ := hy
  have q1 := e1 ws s1
  have q2 := e2 us s2
  rw [k1] at q1
  rw [k3] at q2
  cases q1
  cases q2
  exact made_tup R.sub hT (.cons k2 (.cons k4 .nil))
theorem enumD_get : ∀ {xs : List PyData} {i n : Nat} {p : PyData}, (enumD xs n)[i]? = some p → ∃ x, xs[i]? = some x ∧ p = .tuple [.int ((n + i : Nat) : Int), x]
  | x :: xs, 0, n, p, h => by
    simp [enumD] at h
    exact ⟨x, rfl, by rw [← h]; simp⟩
  | x :: xs, i + 1, n, p, h => by
    simp only [enumD, List.getElem?_cons_succ] at h ⊢
    obtain ⟨y, h1, h2⟩ := enumD_get h
    exact ⟨y, h1, by rw [h2, show n + 1 + i = n + (i + 1) by omega]⟩
  | [], _, _, _, h => by simp [enumD] at h
theorem enumD_len : ∀ (xs : List PyData) (n : Nat), (enumD xs n).length = xs.length
  | [], _ => rfl
  | x :: xs, n => by simp [enumD, enumD_len xs]
theorem wk_enum {a : Addr} (ha : Std K F0 ω lk σ0 a xs) : WkI K F0 ω lk σ0 (Ite K a) (enumD xs 0) := fun F H τ ρ σ hs hl R hlk hσ => by
  obtain ⟨ws, h1, h2⟩ := ha F H τ ρ σ hs hl R hlk hσ
  have s1 : SqL K H a ws := .inl (.inl h1)
  refine ⟨fun i x hx => ?_, ⟨ws, s1, by
    rw [enumD_len, dps_len h2]
    exact Nat.le_refl _⟩⟩
  obtain ⟨x1, g1, rfl⟩ := enumD_get hx
  obtain ⟨v, k1, k2⟩ := dps_get h2 g1
  refine ⟨⟨ws, v, s1, k1⟩, fun z H' hy => ?_⟩
  obtain ⟨T, y1, rfl, hT, rfl, e1⟩ := hy
  have q1 := e1 ws s1
  rw [k1] at q1
  cases q1
  refine made_tup R.sub hT (.cons ?_ (.cons k2 .nil))
  rw [Nat.zero_add]
  exact .int _
theorem wk_enumS {z : Str} : WkI K F0 ω lk σ0 (Itse z) (enumD (strChars z) 0) := fun F H τ ρ σ hs hl R hlk hσ => by
  refine ⟨fun i x hx => ?_, by show z.cps.size ≤ _; rw [enumD_len, strChars_len]; exact Nat.le_refl _⟩
  obtain ⟨x1, g1, rfl⟩ := enumD_get hx
  obtain ⟨c, g2, rfl⟩ := strChars_get g1
  refine ⟨(Array.getElem?_eq_some_iff.mp g2).1, fun v H' hy => ?_⟩
  obtain ⟨T, d, rfl, hT, rfl, e1⟩ := hy
  rw [g2] at e1
  cases e1
  refine made_tup R.sub hT (.cons ?_ (.cons (.str _) .nil))
  rw [Nat.zero_add]
  exact .int _
theorem wk_enumZ {x y : Str} : WkI K F0 ω lk σ0 (Itez x y) (enumD (zipD (strChars x) (strChars y)) 0) := fun F H τ ρ σ hs hl R hlk hσ => by
  refine ⟨fun i p hx => ?_, ?_⟩
  · obtain ⟨p1, g1, rfl⟩ := enumD_get hx
    obtain ⟨a, b, g2, g3, rfl⟩ := zipD_get g1
    obtain ⟨c, g4, rfl⟩ := strChars_get g2
    obtain ⟨d, g5, rfl⟩ := strChars_get g3
    refine ⟨⟨(Array.getElem?_eq_some_iff.mp g4).1, (Array.getElem?_eq_some_iff.mp g5).1⟩, fun v H' hy => ?_⟩
    obtain ⟨T, U, c', d', rfl, hU, hT, hne, rfl, e1, e2⟩ := hy
    rw [g4] at e1
    rw [g5] at e2
    cases e1
    cases e2
    rw [Nat.zero_add]
    have mU := made_tup (K := K) R.sub hU (.cons (.str ⟨#[c]⟩) (.cons (.str ⟨#[d]⟩) .nil))
    obtain ⟨F1, s1, s2, s3, n1, d1⟩ := mU
    have hT1 : upd H U (.tup [.str ⟨#[c]⟩, .str ⟨#[d]⟩]) T = none := by rw [upd_ne hne]; exact hT
    obtain ⟨F2, t1, t2, t3, n2, d2⟩ := made_tup s2 hT1 (.cons (.int (i : Nat)) (.cons d1 .nil))
    refine ⟨F2, Same.tr s1 t1, t2, Same.tr s3 t3, fun a h => ?_, d2⟩
    rcases n2 a h with q | q
    · rcases n1 a q with r | r
      · exact .inl r
      · exact .inr r
    · by_cases e : a = U
      · exact .inr (by rw [e]; exact hU)
      · rw [upd_ne e] at q
        exact .inr q
  · show x.cps.size ≤ _ ∨ y.cps.size ≤ _
    rw [enumD_len, zipD_len, strChars_len, strChars_len]
    omega
theorem rangeN_len (hi : Int) : ∀ n, (rangeN hi n).length = n := fun n => by
  induction n generalizing hi with
  | zero => rfl
  | succ n ih => simp [rangeN, ih]
theorem rangeN_get {n i : Nat} {hi : Int} {x : PyData} (h : (rangeN hi n)[i]? = some x) : i < n ∧ x = .int (hi + (i : Nat) * (-1)) := by
  induction n generalizing hi i with
  | zero => simp [rangeN] at h
  | succ n ih =>
    cases i with
    | zero =>
      simp [rangeN] at h
      exact ⟨Nat.succ_pos _, by rw [← h]; simp⟩
    | succ i =>
      simp only [rangeN, List.getElem?_cons_succ] at h
      obtain ⟨h1, h2⟩ := ih h
      refine ⟨Nat.succ_lt_succ h1, ?_⟩
      rw [h2]
      exact congrArg PyData.int (by omega)
theorem wk_rangeN {hi : Int} {n : Nat} : WkI K F0 ω lk σ0 (Itc hi (-1) n) (rangeN hi n) := fun F H τ ρ σ hs hl R hlk hσ => by
  refine ⟨fun i x hx => ?_, by rw [rangeN_len]; exact Nat.le_refl _⟩
  obtain ⟨g1, rfl⟩ := rangeN_get hx
  refine ⟨g1, fun u H' hy => ?_⟩
  obtain ⟨rfl, rfl⟩ := hy
  exact mk_int R.sub
end
section
variable {X : Cx} {ce : ExcT} {Wx : WX} {G : Gm}
theorem i_var {i : Nat} {x : Str} {tg : Expr} {pos : Pos} (hN : X.N[i]? = some x) (hv : Vis X.env.scope x) (hd : (x == ("__debug__" : Str)) = false) (hcd : (x == ("__classdict__" : Str)) = false) :
    PI X tg (.Name x pos) (liftI X.K ce Wx (WI G (.seq (.var i)))) := by
  refine PI.imp (pi_any (pe_var hN hv hd hcd)) ?_
  rintro σ H Q ⟨F, τ, ρ, Q0, E0, hl, R, q, hQ, hE⟩
  have q : (match (at_ ρ i).data with
      | some (.dict kvs) => dkd kvs = true ∧ Q0 (kvs.map (·.1)) [] (ρ.set i (.d (.dict kvs)))
      | some x => (match itemsOf x with
        | some xs => Q0 xs [(i, at_ ρ i)] ρ
        | none => False)
      | none => False : Prop) := q
  by_cases hd : ∃ kvs, (at_ ρ i).data = some (.dict kvs)
  · obtain ⟨kvs, e⟩ := hd
    rw [e] at q
    replace q : dkd kvs = true ∧ Q0 (kvs.map (·.1)) [] (ρ.set i (.d (.dict kvs))) := q
    obtain ⟨hk, q⟩ := q
    have fin : ∀ (a : Addr) (F' : Hp), σ[i]? = some (some (V.ref a)) → Same F F' → Rp X.K F' H (ZE τ (ρ.set i (.d (.dict kvs))) σ) → DD X.K F' (.ref a) (.dict kvs) → ∃ v, σ[i]? = some (some v) ∧ ((∃ a, v = .ref a ∧ (∃ xs, SqL X.K H a xs) ∧ Q (Itl X.K a) H) ∨ (∃ a, v = .ref a ∧ (∃ xs, SqT X.K H a xs) ∧ Q (Itt X.K a) H) ∨ (∃ z, v = .str z ∧ Q (Its z) H) ∨ ∃ d o xs, v = .ref d ∧ H d = some (DctO d o xs) ∧ Q (ItkN d o xs) H) := by
      intro a F' k1 k2 k3 k4
      refine ⟨.ref a, k1, .inr (.inr (.inr ?_))⟩
      cases k4 with
      | scr ns _ h2 => subst h2; cases hk
      | ins c _ _ _ h4 => subst h4; cases hk
      | lit k n _ h2 => subst h2; cases k <;> cases hk
      | dct g1 g2 g3 =>
        subst g3
        exact ⟨a, _, _, rfl, k3.sub _ _ g1, hQ _ [] _ F' H _ [] q (by rw [List.length_set]; exact hl) k2 k3 trivial (wk_keys g1 g2)⟩
    cases e0 : at_ ρ i with
    | no => rw [e0] at e; cases e
    | h _ => rw [e0] at e; cases e
    | o _ => rw [e0] at e; cases e
    | t kv2 =>
      rw [e0] at e
      cases e
      obtain ⟨a, F', k1, k2, k3, k4⟩ := R.frzAtT hl e0
      exact fin a F' k1 k2 k3 k4
    | d y =>
      rw [e0] at e
      cases e
      obtain ⟨w, k1, k2⟩ := R.getD hl e0
      have es : ρ.set i (.d (.dict kvs)) = ρ := by
        obtain ⟨h1, h2⟩ := at_some e0 (by simp)
        obtain ⟨h3, h4⟩ := List.getElem?_eq_some_iff.mp h2
        rw [← h4]
        exact List.set_getElem_self h3
      have hw : ∃ a, w = .ref a := by
        cases k2 <;> exact ⟨_, rfl⟩
      obtain ⟨a, rfl⟩ := hw
      exact fin a F k1 (fun _ _ e => e) (by rw [es]; exact R) k2
  have hd0 := hd
  have ht : ¬ ∃ kvs, at_ ρ i = .t kvs := fun ⟨kvs, e⟩ => hd ⟨kvs, by rw [e]; rfl⟩
  have q : (match (at_ ρ i).data with
      | some x => (match itemsOf x with
        | some xs => Q0 xs [(i, at_ ρ i)] ρ
        | none => False)
      | none => False : Prop) := by
    cases e : (at_ ρ i).data with
    | none => rw [e] at q; exact q
    | some x =>
      rw [e] at q
      cases x with
      | dict kvs => exact (hd ⟨kvs, e⟩).elim
      | none => exact q
      | bool _ => exact q
      | int _ => exact q
      | str _ => exact q
      | list _ => exact q
      | tuple _ => exact q
  cases e1 : (at_ ρ i).data with
  | none => rw [e1] at q; exact q.elim
  | some d =>
    rw [e1] at q
    dsimp only at q
    cases e2 : itemsOf d with
    | none => rw [e2] at q; exact q.elim
    | some xs =>
      rw [e2] at q
      have lk1 : lkOk [(i, at_ ρ i)] ρ := ⟨rfl, trivial⟩
      have hv : ∃ v, σ[i]? = some (some v) := by
        cases e : at_ ρ i with
        | no => rw [e] at e1; cases e1
        | h _ => rw [e] at e1; cases e1
        | d y => exact let ⟨v, k, _⟩ := R.getD hl e; ⟨v, k⟩
        | o y => exact let ⟨a, _, k, _⟩ := R.getO' hl e; ⟨_, k⟩
        | t y => exact (ht ⟨y, e⟩).elim
      obtain ⟨v, hv⟩ := hv
      have dv : DV X.K F H v d := op_view (o := .s i) (ω := []) R (fun p hp => by cases hp) hl hv e1
      refine ⟨v, hv, ?_⟩
      rcases walk_val e2 dv R.sub with ⟨a, ws, rfl, rfl, h1⟩ | ⟨a, ws, rfl, rfl, h1, h2⟩ | ⟨z, rfl, rfl, rfl⟩ | ⟨a, kvs, rfl, _, rfl, _, rfl⟩
      · obtain ⟨b, hb, hstd⟩ := std_of (o := .s i) (F0 := F) (ω := []) (lk := [(i, at_ ρ i)]) (σ0 := σ) e1 hv (fun p hp => by cases hp) (fun p hp => hp) dv
        cases hb
        exact .inl ⟨a, rfl, ⟨ws, .inl (.inl h1)⟩, hQ xs _ ρ F H _ [] q hl (fun _ _ e => e) R lk1 (wk_list hstd)⟩
      · exact .inr (.inl ⟨a, rfl, ⟨ws, sqT_mono R.sub h1⟩, hQ xs _ ρ F H _ [] q hl (fun _ _ e => e) R lk1 (wk_tup h1 h2)⟩)
      · exact .inr (.inr (.inl ⟨z, rfl, hQ _ _ ρ F H _ [] q hl (fun _ _ e => e) R lk1 wk_str⟩))
      · exact (hd0 ⟨kvs, e1⟩).elim
theorem i_val {a : E} {tg e : Expr} {t : SmI} (he : SE X ce Wx G a e) (ht : t = fun ρ Q E => (W G a).v ρ (fun r ρ' => match itemsOf r.data with
      | some xs => Q xs [] ρ'
      | none => False) E) : PI X tg e (liftI X.K ce Wx t) := by
  subst ht
  refine PI.imp (pi_any he.v) ?_
  rintro σ H Q ⟨F, τ, ρ, Q0, E0, hl, R, q, hQ, hE⟩
  refine ⟨F, τ, ρ, _, E0, hl, R, q, fun r ρ1 F1 H1 v q1 l1 s1 R1 => ?_, hE⟩
  cases e2 : itemsOf r.data with
  | none => rw [e2] at q1; exact q1.elim
  | some xs =>
    rw [e2] at q1
    have dv : DV X.K F1 H1 v r.data := op_view (o := .v r) (ρ := ρ1) (σ := σ) (τ := τ) (ω := [(r.sl, some v)]) R1 (fun p hp => hp) l1 trivial rfl
    rcases walk_val e2 dv R1.sub with ⟨a, ws, h0, rfl, h1⟩ | ⟨a, ws, _, rfl, h1, h2⟩ | ⟨z, _, rfl, rfl⟩ | ⟨a, kvs, h0, hd, rfl, _, rfl⟩
    · rw [h0] at dv
      obtain ⟨b, hb, hstd⟩ := std_of (o := .v r) (ρ0 := ρ1) (F0 := F1) (ω := [(r.sl, some (.ref a))]) (lk := []) (σ0 := σ) (congrArg some h0) trivial (fun p hp => hp) (fun p hp => by cases hp) dv
      cases hb
      exact .inl ⟨a, rfl, ⟨ws, .inl (.inl h1)⟩, hQ xs _ ρ1 F1 H1 _ [(r.sl, some (.ref a))] q1 l1 s1 R1 trivial (wk_list hstd)⟩
    · exact .inr (.inl ⟨a, rfl, ⟨ws, sqT_mono R1.sub h1⟩, hQ xs _ ρ1 F1 H1 _ [_] q1 l1 s1 R1 trivial (wk_tup h1 h2)⟩)
    · exact .inr (.inr (.inl ⟨z, rfl, hQ _ _ ρ1 F1 H1 _ [_] q1 l1 s1 R1 trivial wk_str⟩))
    · obtain ⟨F2, s2, R2, d2⟩ := frz_one R1
      rw [h0] at d2
      refine .inr (.inr (.inr ?_))
      cases d2 with
      | scr ns _ h2 => subst h2; cases hd
      | ins c _ _ _ h4 => subst h4; cases hd
      | lit k n _ h2 => subst h2; cases k <;> cases hd
      | dct g1 g2 g3 =>
        subst g3
        exact ⟨a, _, _, rfl, R2.sub _ _ g1, hQ _ _ ρ1 F2 H1 _ [_] q1 l1 (Same.tr s1 s2) R2 trivial (wk_keys g1 g2)⟩
theorem i_items {a : E} {e : Expr} {apos cpos tpos : Pos} {elts : List Expr} {kk : Nat} (he : SE X ce Wx G a e) (hb : bareCall e = false) (hap : (apos.endLine == cpos.line) = true) : PI X (.Tuple elts kk tpos) (.Call (.Attribute e "items" apos) [] [] cpos) (liftI X.K ce Wx (WI G (.items a))) := by
  refine PI.imp (pi_itemsN he.v (attr_base hb) hap) ?_
  rintro σ H Q ⟨F, τ, ρ, Q0, E0, hl, R, q, hQ, hE⟩
  refine ⟨F, τ, ρ, _, E0, hl, R, q, fun r ρ1 F1 H1 v q1 l1 s1 R1 => ?_, hE⟩
  obtain ⟨F2, s2, R2, d2⟩ := frz_one R1
  split at q1
  · rename_i kvs e2
    obtain ⟨hd, q1⟩ := q1
    rw [e2] at d2
    cases d2 with
    | scr ns _ h2 => subst h2; cases hd
    | ins c _ _ _ h4 => subst h4; cases hd
    | lit k n _ h2 => subst h2; cases k <;> cases hd
    | dct g1 g2 g3 =>
      subst g3
      exact ⟨_, _, _, rfl, R2.sub _ _ g1, fun ho => hQ _ _ ρ1 F2 H1 _ [_] q1 l1 (Same.tr s1 s2) R2 trivial (wk_items g1 g2 ho)⟩
  · exact q1.elim
theorem i_rng1 {a : E} {tg e : Expr} {p pos : Pos} (hg : Gl X "range") (hm : X.mg "range" = none) (ha : SE X ce Wx G a e) : PI X tg (.Call (.Name "range" p) [e] [] pos) (liftI X.K ce Wx (WI G (.rng1 a))) := by
  refine PI.imp (pi_range1 hg hm (pa_cons ha.o pa_nil (star_cons ha.ns)) (star_cons ha.ns)) ?_
  rintro σ H Q ⟨F, τ, ρ, Q0, E0, hl, R, q, hQ, hE⟩
  refine ⟨F, τ, ρ, _, E0, hl, R, q, fun x ρ1 F1 H1 v q1 l1 s1 R1 a1 => ?_, hE⟩
  cases e1 : x.get ρ1 with
  | none => rw [e1] at q1; exact q1.elim
  | some d =>
    rw [e1] at q1
    try dsimp only at q1
    cases d <;> try exact False.elim q1
    case int j =>
      obtain rfl := dv_int (op_view R1 (fun p hp => hp) l1 a1 e1)
      obtain ⟨h1, h2, q1⟩ := q1
      exact ⟨j, rfl, h1, h2, hQ _ _ ρ1 F1 H1 _ _ q1 l1 s1 R1 trivial wk_range⟩
theorem i_rng2 {a b : E} {tg e f : Expr} {p pos : Pos} (hg : Gl X "range") (hm : X.mg "range" = none) (ha : SE X ce Wx G a e) (hb : SE X ce Wx G b f) : PI X tg (.Call (.Name "range" p) [e, f] [] pos) (liftI X.K ce Wx (WI G (.rng2 a b))) := by
  refine PI.imp (pi_range2 hg hm (pa_cons ha.o (pa_cons hb.o pa_nil (star_cons hb.ns)) (star_cons ha.ns)) (by rw [star_cons ha.ns, star_cons hb.ns]; rfl) (star_cons hb.ns)) ?_
  rintro σ H Q ⟨F, τ, ρ, Q0, E0, hl, R, q, hQ, hE⟩
  refine ⟨F, τ, ρ, _, E0, hl, R, q, fun x ρ1 F1 H1 v q1 l1 s1 R1 a1 => ?_, hE⟩
  refine ⟨F1, opZ x v ++ τ, ρ1, _, E0, l1, by rw [ZE, List.append_assoc]; exact R1, q1, fun y ρ2 F2 H2 w q2 l2 s2 R2 a2 => ?_, hE.sub s1⟩
  have R2' : Rp X.K F2 H2 (opsZ [x, y] [v, w] ++ ZE τ ρ2 σ) := by simpa [opsZ, ZE] using R2
  split at q2
  · rename_i i j e
    have dv := ops_view R2' (fun p hp => hp) l2 ⟨a1, a2, trivial⟩ e
    obtain rfl := dv_int dv.1
    obtain rfl := dv_int dv.2.1
    obtain ⟨h1, h2, h3, h4, q1⟩ := q2
    exact ⟨i, j, rfl, ⟨h1, h2, h3, h4⟩, hQ _ _ ρ2 F2 H2 _ _ q1 l2 (Same.tr s1 s2) R2' trivial wk_range⟩
  · exact q2.elim
theorem i_zip {a b : E} {e f : Expr} {p pos tpos : Pos} {elts : List Expr} {kk : Nat} (hg : Gl X "zip") (hm : X.mg "zip" = none) (ha : SE X ce Wx G a e) (hb : SE X ce Wx G b f) : PI X (.Tuple elts kk tpos) (.Call (.Name "zip" p) [e, f] [] pos) (liftI X.K ce Wx (WI G (.zip a b))) := by
  refine PI.imp (pi_zip hg hm (pa_cons ha.o (pa_cons hb.o pa_nil (star_cons hb.ns)) (star_cons ha.ns)) (star_cons ha.ns) (by rw [star_cons hb.ns]; rfl)) ?_
  rintro σ H Q ⟨F, τ, ρ, Q0, E0, hl, R, q, hQ, hE⟩
  refine ⟨F, τ, ρ, _, E0, hl, R, q, fun x ρ1 F1 H1 v q1 l1 s1 R1 a1 => ?_, hE⟩
  refine ⟨F1, opZ x v ++ τ, ρ1, _, E0, l1, by rw [ZE, List.append_assoc]; exact R1, q1, fun y ρ2 F2 H2 w q2 l2 s2 R2 a2 => ?_, hE.sub s1⟩
  have R2' : Rp X.K F2 H2 (opsZ [x, y] [v, w] ++ ZE τ ρ2 σ) := by simpa [opsZ, ZE] using R2
  split at q2
  · rename_i xs ys e
    have dv := ops_view R2' (fun p hp => hp) l2 ⟨a1, a2, trivial⟩ e
    have g1 : x.get ρ2 = some (.list xs) := by
      unfold gets at e
      cases k : x.get ρ2 with
      | none => rw [k] at e; cases e
      | some d =>
        rw [k] at e
        cases k2 : gets ρ2 [y] with
        | none => rw [k2] at e; cases e
        | some es =>
          rw [k2] at e
          cases e
          rfl
    have g2 : y.get ρ2 = some (.list ys) := by
      unfold gets at e
      rw [g1] at e
      unfold gets at e
      cases k : y.get ρ2 with
      | none => rw [k] at e; cases e
      | some d =>
        rw [k] at e
        simp only [gets] at e
        cases e
        rfl
    obtain ⟨a, rfl, st1⟩ := std_of (F0 := F2) (ω := opsZ [x, y] [v, w]) (lk := lkOf x ρ2 ++ lkOf y ρ2) (σ0 := σ) g1 a1 (fun p hp => by simp [opsZ, hp]) (fun p hp => List.mem_append_left _ hp) dv.1
    obtain ⟨b, rfl, st2⟩ := std_of (F0 := F2) (ω := opsZ [x, y] [.ref a, w]) (lk := lkOf x ρ2 ++ lkOf y ρ2) (σ0 := σ) g2 a2 (fun p hp => by simp [opsZ, hp]) (fun p hp => List.mem_append_right _ hp) dv.2.1
    obtain ⟨a', ws, e3, h1, _⟩ := dv.1
    obtain ⟨b', us, e4, h2, _⟩ := dv.2.1
    cases e3
    cases e4
    refine ⟨a, b, ws, us, rfl, .inl (.inl h1), .inl (.inl h2), hQ _ _ ρ2 F2 H2 _ _ q2 l2 (Same.tr s1 s2) R2' ?_ (wk_zip st1 st2)⟩
    refine lk_app ?_ ?_
    · cases x <;> simp [lkOf, lkOk]
    · cases y <;> simp [lkOf, lkOk]
  · exact q2.elim
theorem i_enum {a : E} {e : Expr} {p pos tpos : Pos} {elts : List Expr} {kk : Nat} (hg : Gl X "enumerate") (hm : X.mg "enumerate" = none) (ha : SE X ce Wx G a e) : PI X (.Tuple elts kk tpos) (.Call (.Name "enumerate" p) [e] [] pos) (liftI X.K ce Wx (WI G (.enum a))) := by
  refine PI.imp (pi_enum2 hg hm (pa_cons ha.o pa_nil (star_cons ha.ns)) (star_cons ha.ns)) ?_
  rintro σ H Q ⟨F, τ, ρ, Q0, E0, hl, R, q, hQ, hE⟩
  refine ⟨F, τ, ρ, _, E0, hl, R, q, fun x ρ1 F1 H1 v q1 l1 s1 R1 a1 => ?_, hE⟩
  cases e1 : x.get ρ1 with
  | none => rw [e1] at q1; exact q1.elim
  | some d =>
    rw [e1] at q1
    try dsimp only at q1
    cases d <;> try exact False.elim q1
    case list xs =>
      have dv := op_view R1 (fun p hp => hp) l1 a1 e1
      obtain ⟨a, rfl, st1⟩ := std_of (F0 := F1) (ω := opZ x v) (lk := lkOf x ρ1) (σ0 := σ) e1 a1 (fun p hp => hp) (fun p hp => hp) dv
      obtain ⟨a', ws, e3, h1, _⟩ := dv
      cases e3
      refine .inl ⟨a, ws, rfl, .inl (.inl h1), hQ _ _ ρ1 F1 H1 _ _ q1 l1 s1 R1 ?_ (wk_enum st1)⟩
      cases x <;> simp [lkOf, lkOk]
    case str z =>
      obtain rfl := dv_str (op_view R1 (fun p hp => hp) l1 a1 e1)
      exact .inr ⟨z, rfl, hQ _ _ ρ1 F1 H1 _ _ q1 l1 s1 R1 trivial wk_enumS⟩
theorem i_enumZ {a b : E} {e f : Expr} {p p2 pos pos2 tpos : Pos} {elts : List Expr} {kk : Nat} (hg : Gl X "enumerate") (hm : X.mg "enumerate" = none) (hg2 : Gl X "zip") (hm2 : X.mg "zip" = none) (ha : SE X ce Wx G a e) (hb : SE X ce Wx G b f) :
    PI X (.Tuple elts kk tpos) (.Call (.Name "enumerate" p) [.Call (.Name "zip" p2) [e, f] [] pos2] [] pos) (liftI X.K ce Wx (WI G (.enumZ a b))) := by
  refine PI.imp (pi_enumZ hg hm hg2 hm2 (pa_cons ha.o (pa_cons hb.o pa_nil (star_cons hb.ns)) (star_cons ha.ns)) (star_cons ha.ns) (by rw [star_cons hb.ns]; rfl)) ?_
  rintro σ H Q ⟨F, τ, ρ, Q0, E0, hl, R, q, hQ, hE⟩
  refine ⟨F, τ, ρ, _, E0, hl, R, q, fun x ρ1 F1 H1 v q1 l1 s1 R1 a1 => ?_, hE⟩
  refine ⟨F1, opZ x v ++ τ, ρ1, _, E0, l1, by rw [ZE, List.append_assoc]; exact R1, q1, fun y ρ2 F2 H2 w q2 l2 s2 R2 a2 => ?_, hE.sub s1⟩
  have R2' : Rp X.K F2 H2 (opsZ [x, y] [v, w] ++ ZE τ ρ2 σ) := by simpa [opsZ, ZE] using R2
  split at q2
  · rename_i s t e
    have dv := ops_view R2' (fun p hp => hp) l2 ⟨a1, a2, trivial⟩ e
    obtain rfl := dv_str dv.1
    obtain rfl := dv_str dv.2.1
    exact ⟨s, t, rfl, hQ _ _ ρ2 F2 H2 _ _ q2 l2 (Same.tr s1 s2) R2' trivial wk_enumZ⟩
  · exact q2.elim
theorem i_rngD {a b : E} {tg e f : Expr} {p pos p1 p2 : Pos} {n1 : Nat} (hg : Gl X "range") (hm : X.mg "range" = none) (ha : SE X ce Wx G a e) (hb : SE X ce Wx G b f) :
    PI X tg (.Call (.Name "range" p) [e, f, .UnaryOp .USub (.Constant (.int 1) n1 p1) p2] [] pos) (liftI X.K ce Wx (WI G (.rngD a b))) := by
  have hc : PE X (.UnaryOp .USub (.Constant (.int 1) n1 p1) p2) (liftO X.K ce Wx fun ρ Q E => Q (.v (.d (.int (-1)))) ρ) := by
    refine PE.imp (pe_un un_neg pe_int) ?_
    rintro σ H Q ⟨F, τ, ρ, Q0, E0, hl, R, q, hQ, hE⟩
    exact ⟨1, rfl, hQ _ ρ F H _ q hl (fun _ _ e => e) (R.consD (.int _)) trivial⟩
  refine PI.imp (pi_range3 hg hm (pa_cons ha.o (pa_cons hb.o (pa_cons hc pa_nil rfl) (star_cons hb.ns)) (star_cons ha.ns)) (star_cons ha.ns) (by rw [star_cons hb.ns]; rfl)) ?_
  rintro σ H Q ⟨F, τ, ρ, Q0, E0, hl, R, q, hQ, hE⟩
  refine ⟨F, τ, ρ, _, E0, hl, R, q, fun x ρ1 F1 H1 v q1 l1 s1 R1 a1 => ?_, hE⟩
  refine ⟨F1, opZ x v ++ τ, ρ1, _, E0, l1, by rw [ZE, List.append_assoc]; exact R1, q1, fun y ρ2 F2 H2 w q2 l2 s2 R2 a2 => ?_, hE.sub s1⟩
  have R2' : Rp X.K F2 H2 (opsZ [x, y] [v, w] ++ ZE τ ρ2 σ) := by simpa [opsZ, ZE] using R2
  refine ⟨F2, opsZ [x, y] [v, w] ++ τ, ρ2, fun o ρ' => o = .v (.d (.int (-1))) ∧ ρ' = ρ2, fun _ _ => False, l2, by rw [ZE, List.append_assoc]; exact R2', ⟨rfl, rfl⟩, fun z ρ3 F3 H3 w3 q3 l3 s3 R3 a3 => ?_, fun _ _ _ _ _ _ e => e.elim⟩
  obtain ⟨rfl, rfl⟩ := q3
  split at q2
  · rename_i i j e
    have R3' : Rp X.K F3 H3 (opsZ [x, y] [v, w] ++ ZE τ ρ3 σ) := by
      have := Rp.app (ω := opZ (.v (.d (.int (-1)))) w3) R3
      rw [ZE, List.append_assoc] at this
      exact this
    have dv := ops_view R3' (fun p hp => hp) l3 ⟨a1, a2, trivial⟩ e
    obtain rfl := dv_int dv.1
    obtain rfl := dv_int dv.2.1
    have hw : DD X.K F3 w3 (.int (-1)) := R3.head
    cases hw
    obtain ⟨h1, h2, h3, h4, q1⟩ := q2
    exact ⟨i, j, -1, (i - j).toNat, rfl, RgC.neg h1 h2 h3 h4, hQ _ _ ρ3 F3 H3 _ _ q1 l3 (Same.tr s1 (Same.tr s2 s3)) R3' trivial wk_rangeN⟩
  · exact q2.elim
end
end FX
set_option maxHeartbeats 2000000
namespace FX
variable [Wc]
open PySem PySem.Spec PyProof.Rows L2
section
variable {X : Cx} {ce : ExcT} {Wx : WX} {G : Gm}
/-! ### dicts with tuple keys as expressions -/
theorem cmpE_end {f : PF} {σ : SV} {Q : VK} {F F1 H1 : Hp} {τ : Zs} {ρ1 : FE} {v : V} {x : Op} {Q0 : KQ} (R1 : Rp X.K F1 H1 (opZ x v ++ ZE τ ρ1 σ)) (l1 : ρ1.length = σ.length) (s1 : Same F F1) (a1 : opAt σ x v)
    (q : (match gets ρ1 [x] with
      | some ds => psem f ds fun r => Q0 r ρ1
      | none => False : Prop))
    (hQ : ∀ r ρ' F' H' v, Q0 r ρ' → ρ'.length = σ.length → Same F F' → Rp X.K F' H' ((r.sl, some v) :: ZE τ ρ' σ) → Q v H') {p : Addr} {o : Obj} (hp : H1 p = none) : rE X.K f v (.ref p) (upd H1 p (DctO p o [])) Q := by
  refine ⟨p, o, rfl, upd_same, ?_⟩
  obtain ⟨F2, s2, R2⟩ := R1.made (made_dct (o := o) R1.sub hp)
  refine prim_end (F := F) (F1 := F2) (τ := ((.t [], some (.ref p)) :: τ)) (os := [x]) (vs := [v]) (Q0 := Q0) ?_ l1 (Same.tr s1 s2) ⟨a1, trivial⟩ q fun r ρ' F' H' z g l s R' => hQ r ρ' F' H' z g l s ?_
  · refine Rp.perm R2 ?_
    simp only [opsZ, ZE, List.nil_append, List.cons_append]
    exact List.perm_middle.symm
  · have : Rp X.K F' H' ((r.sl, some z) :: ([(Sl.t [], some (V.ref p))] ++ ZE τ ρ' σ)) := R'
    exact this.mid
theorem s_cmpE {f : PF} {op : CmpOp} {a : E} {x : Expr} {p pos : Pos} (hf : isCmp f = true) (ho : OpR X (compareOp op) (rE X.K f)) (ha : SE X ce Wx G a x) : SE X ce Wx G (.prim f (e1 a)) (.Compare x [op] [.Dict [] [] p] pos) := by
  have hv : PE X (.Compare x [op] [.Dict [] [] p] pos) (liftV X.K ce Wx (vPrim G f (e1 a))) := PE.imp (pe_cmpR ho ha.o pe_dct0 (nobeh rfl)) fun σ H Q ⟨F, τ, ρ, Q0, E0, hl, R, q, hQ, hE⟩ =>
    ⟨F, τ, ρ, _, E0, hl, R, q, fun o ρ1 F1 H1 v q1 l1 s1 R1 a1 => fun p ob hp => cmpE_end R1 l1 s1 a1 q1 hQ hp, hE⟩
  refine ⟨hv, o_of_v hv, PT.imp (pt_cmpR ho ha.o pe_dct0 (nobeh rfl)) ?_, hv, rfl⟩
  rintro σ H Q ⟨F, τ, ρ, Q0, E0, hl, R, q, hQ, hE⟩
  refine ⟨F, τ, ρ, _, E0, hl, R, q, fun o ρ1 F1 H1 v q1 l1 s1 R1 a1 => fun p ob hp => ?_, hE⟩
  have q3 : (match gets ρ1 [o] with
      | some ds => psem f ds fun r => (truthK (.v r) ρ1 fun b => Q0 b ρ1) ∧ ∃ b, r = .d (.bool b)
      | none => False : Prop) := by
    have q2 : (match gets ρ1 [o] with
        | some ds => psem f ds fun r => truthK (.v r) ρ1 fun b => Q0 b ρ1
        | none => False : Prop) := q1
    cases e : gets ρ1 [o] with
    | none => rw [e] at q2; exact q2
    | some ds => rw [e] at q2; exact psem_bool hf q2
  refine cmpE_end (Q0 := fun r ρ' => (truthK (.v r) ρ' fun b => Q0 b ρ') ∧ ∃ b, r = .d (.bool b)) R1 l1 s1 a1 q3 (fun r ρ' F' H' z g l s R' => ?_) hp
  obtain ⟨g1, b, rfl⟩ := g
  cases (show DD X.K F' z (.bool b) from R'.head)
  exact ⟨b, rfl, hQ b ρ' F' H' g1.2 l s R'.tail⟩
theorem s_dct0 {pos : Pos} : SE X ce Wx G .dct0 (.Dict [] [] pos) := by
  refine sm_ofV rfl rfl (PE.imp pe_dct0 ?_)
  rintro σ H Q ⟨F, τ, ρ, Q0, E0, hl, R, q, hQ, hE⟩ p o hp
  obtain ⟨F2, s2, R2⟩ := R.made (made_dct (o := o) R.sub hp)
  exact hQ _ ρ F2 _ _ q hl s2 R2
theorem s_dct1 {a b : E} {x y : Expr} {pos : Pos} (hu : X.A.units + 65 < cLine) (ha : SE X ce Wx G a x) (hb : SE X ce Wx G b y) : SE X ce Wx G (.dct1 a b) (.Dict [some x] [y] pos) := by
  refine sm_ofV rfl rfl (PE.imp (pe_dct1 hu ha.v hb.v) ?_)
  rintro σ H Q ⟨F, τ, ρ, Q0, E0, hl, R, q, hQ, hE⟩ p o hp
  obtain ⟨F1, s1, R1⟩ := R.made (made_dct (o := o) R.sub hp)
  refine ⟨F1, (.t [], some (.ref p)) :: τ, ρ, _, E0, hl, R1, q, fun r ρ2 F2 H2 v q2 l2 s2 R2 => ?_, XOK.sub (ω := [_]) hE s1⟩
  refine ⟨F2, (r.sl, some v) :: (.t [], some (.ref p)) :: τ, ρ2, _, E0, l2, R2, q2, fun r3 ρ3 F3 H3 w q3 l3 s3 R3 => ?_, XOK.sub (ω := [_]) (XOK.sub (ω := [_]) hE s1) s2⟩
  obtain ⟨k1, k2, q3⟩ := q3
  obtain ⟨F4, s4, R4, d4⟩ := frz_one R3
  have R4' : Rp X.K F4 H3 ((r.sl, some v) :: (.t [], some (.ref p)) :: ZE τ ρ3 σ) := R4.tail
  obtain ⟨F5, s5, R5, d5⟩ := frz_one R4'
  have R6 : Rp X.K F5 H3 ((.t [], some (.ref p)) :: ZE τ ρ3 σ) := R5.tail
  obtain ⟨hF, o2, xs2, g1, g2, g3⟩ := R6.head
  have hx2 : xs2 = [] := by
    cases xs2 with
    | nil => rfl
    | cons _ _ => cases g3
  subst hx2
  obtain ⟨kk, _, ks, ek⟩ := keyOk_kd k1
  rw [ek] at d5 k1 kk q3
  have d6 : DD X.K F5 w r3.data := dp_mono s5 _ _ d4
  obtain ⟨rfl, _⟩ := dd_sc d6 k2
  have kd5 : KD X.K F5 v (.tuple ks) := dd_kd _ _ d5 kk
  have kd5' := kd5
  cases kd5' with
  | @tup b _ _ _ _ =>
    refine ⟨o2, b, .tuple ks, r3.data, g1, rfl, kd_mono R6.sub _ _ kd5, k1, k2, rfl, fun o' => ?_⟩
    have R7 := R6.writeT (o' := o') (xs' := [(.tuple ks, b, r3.data)]) (fun z hz => by
      rw [List.mem_singleton.mp hz]
      exact kd5)
    exact hQ (.t [(.tuple ks, r3.data)]) ρ3 F5 _ _ q3 l3 (Same.tr s1 (Same.tr s2 (Same.tr s3 (Same.tr s4 s5)))) R7
theorem s_dupd {i : Nat} {a : E} {x : Str} {e : Expr} {p apos cpos : Pos} (hu : X.A.units + 65 < cLine) (hN : X.N[i]? = some x) (hv : Vis X.env.scope x) (hd : (x == ("__debug__" : Str)) = false) (hcd : (x == ("__classdict__" : Str)) = false) (ha : SE X ce Wx G a e)
    (hap : (apos.endLine == cpos.line) = true) : SE X ce Wx G (.dupd i a) (.Call (.Attribute (.Name x p) "update" apos) [e] [] cpos) := by
  have sa : SndEs X ce Wx G (e1 a) [e] := ⟨ha, trivial⟩
  refine sm_ofV rfl rfl (PE.imp (pe_bmN PySem.F.slot_dict_update PySem.F.type_dict_update (m_upd hu) (pe_var hN hv hd hcd) (pa_cons ha.v pa_nil (star_cons ha.ns)) (attr_base rfl) ?_ hap (star_cons ha.ns) (nostars sa.2)) ?_)
  · rw [allplain sa]
    rfl
  · rintro σ H Q ⟨F, τ, ρ, Q0, E0, hl, R, q, hQ, hE⟩
    obtain ⟨q0, q⟩ := q
    have h0 : ∃ kvs, at_ ρ i = .t kvs := by
      cases e : at_ ρ i with
      | t kvs => exact ⟨kvs, rfl⟩
      | no => rw [e] at q0; exact q0.elim
      | h _ => rw [e] at q0; exact q0.elim
      | d _ => rw [e] at q0; exact q0.elim
      | o _ => rw [e] at q0; exact q0.elim
    obtain ⟨kvs, e0⟩ := h0
    obtain ⟨a1, k1, k2, k3⟩ := R.getT' hl e0
    refine ⟨.ref a1, k1, ⟨a1, F, kvs, rfl, R.sub, k3⟩, F, τ, ρ, _, E0, hl, R, q, fun r ρ1 F1 H1 v q1 l1 s1 R1 => ?_, hE⟩
    obtain ⟨F2, s2, R2, d2⟩ := frz_one R1
    split at q1
    · rename_i more kvs1 e1 e2
      obtain ⟨c1, c2, c3, c4⟩ := q1
      rw [e1] at d2
      have R3 : Rp X.K F2 H1 (ZE τ ρ1 σ) := R2.tail
      obtain ⟨a3, f1, f2, o3, xs3, f3, f4, f5⟩ := R3.getT' l1 e2
      rw [k1] at f1
      cases f1
      subst f5
      cases d2 with
      | scr ns _ h2 => subst h2; cases c1
      | ins c _ _ _ h4 => subst h4; cases c1
      | lit k n _ h2 => subst h2; cases k <;> cases c1
      | dct g1 g2 g3 =>
        subst g3
        rename_i b o4 ys
        refine ⟨a1, o3, xs3, b, o4, ys, rfl, rfl, f3, fun y hy => kd_mono R3.sub _ _ (f4 y hy), R3.sub _ _ g1, fun y hy => kd_mono R3.sub _ _ (g2 y hy), fun z => ?_, fun z => ?_, ?_, fun o' => ?_⟩
        · subst z
          rw [g1] at f2
          cases f2
        · subst z
          exact c2 rfl
        · simpa [kvsOf] using c3
        · have R4 := R3.mutAtT (o' := o') (xs' := xmerge xs3 ys) l1 e2 k1 (xmerge_all (P := fun z => KD X.K F2 (.ref z.2.1) z.1) (fun x y hx hy => hx) ys xs3 f4 g2)
          rw [xmerge_kvs] at R4
          exact hQ _ _ F2 _ _ c4 (by rw [List.length_set]; exact l1) (Same.tr s1 s2) (R4.consD .non)
    · exact q1.elim
theorem dctA_of {F H : Hp} {v : V} {d : PyData} (hs : Same F H) (h : DV X.K F H v d) (e : tyM d = .dict) : ∃ a F kvs, v = .ref a ∧ Same F H ∧ DctA X.K F H a kvs := by
  cases d with
  | dict kvs =>
    have hd : dkd kvs = true := by
      have e : (if dkd kvs = true then Ty.dict else Ty.none) = Ty.dict := e
      split at e
      · assumption
      · cases e
    obtain ⟨a, rfl, h2⟩ := dv_dct hs hd h
    exact ⟨a, F, kvs, rfl, hs, h2⟩
  | none => cases e
  | bool _ => cases e
  | int _ => cases e
  | str _ => cases e
  | list _ => cases e
  | tuple _ => cases e
theorem s_dget {o : Expr} {a b : E} {as : Es} {e : Expr} {es : List Expr} {apos cpos : Pos} (hu : X.A.units + 65 < cLine) (ho : SE X ce Wx G a o) (ha : SndEs X ce Wx G (.cons b as) (e :: es)) (hb : bareCall o = false)
    (hl : es.length < 20) (hap : (apos.endLine == cpos.line) = true) : SE X ce Wx G (.meth .dict .dget a (.cons b as)) (.Call (.Attribute o "get" apos) (e :: es) [] cpos) := by
  refine sm_ofV rfl rfl (PE.imp (pe_bmN PySem.F.slot_dict_get PySem.F.type_dict_get (m_dget hu) ho.o (pa_os ha) (attr_base hb) ?_ hap (star_cons ha.1.ns) (nostars ha.2)) ?_)
  · rw [allplain ha]
    show (true && true && decide (es.length + 1 + 0 + 0 < 30)) = true
    simp
    omega
  · rintro σ H Q ⟨F, τ, ρ, Q0, E0, hl, R, q, hQ, hE⟩
    refine ⟨F, τ, ρ, _, E0, hl, R, q, fun x ρ1 F1 H1 v q1 l1 s1 R1 a1 => ?_, hE⟩
    obtain ⟨⟨d, e1, e2⟩, q1⟩ := q1
    refine ⟨dctA_of R1.sub (op_view R1 (fun p hp => hp) l1 a1 e1) e2, F1, opZ x v ++ τ, ρ1, _, E0, l1, by rw [ZE, List.append_assoc]; exact R1, q1, fun os ρ2 F2 H2 vs q2 l2 s2 R2 a2 => ?_, hE.sub s1⟩
    refine prim_end (os := x :: os) (vs := v :: vs) ?_ l2 (Same.tr s1 s2) ⟨a1, a2⟩ q2 hQ
    have : opsZ (x :: os) (v :: vs) ++ ZE τ ρ2 σ = opsZ os vs ++ ZE (opZ x v ++ τ) ρ2 σ := by simp [opsZ, ZE]
    rw [this]
    exact R2
end
end FX
set_option maxHeartbeats 2000000
namespace FX
variable [Wc]
open PySem PySem.Spec PyProof.Rows L2
section
variable {X : Cx} {K : PySem.W.Frag} {F H : Hp}
theorem rows_alike : ∀ xs ys : List Int, PySem.W.alikeAll (xs.map PyData.int) (ys.map PyData.int) = true
  | [], _ => by rw [List.map_nil, PySem.W.alikeAll]
  | _ :: _, [] => by rw [List.map_nil, List.map_cons, PySem.W.alikeAll]
  | x :: xs, y :: ys => by rw [List.map_cons, List.map_cons, PySem.W.alikeAll, rows_alike xs ys]; rfl
theorem row_depthA : ∀ xs : List Int, PyData.depthAll (xs.map PyData.int) = 0
  | [] => rfl
  | x :: xs => by rw [List.map_cons, PyData.depthAll, row_depthA xs]; rfl
theorem row_depth (xs : List Int) : (rowD xs).depth ≤ 1 := by
  unfold rowD
  rw [PyData.depth, row_depthA]
  exact Nat.le_refl _
theorem row_noDictA : ∀ xs : List Int, PyData.hasDictAll (xs.map PyData.int) = false
  | [] => rfl
  | x :: xs => by rw [List.map_cons, PyData.hasDictAll, row_noDictA xs]; rfl
theorem row_noDict (xs : List Int) : (rowD xs).hasDict = false := by
  unfold rowD
  rw [PyData.hasDict, row_noDictA]
theorem dds_each : ∀ {rows : List (List Int)} {vs : List V} {its : List Value}, DDs K F vs (rows.map rowD) → Vals vs its → PySem.W.EachIs (fun u r => ∃ v, RelV v u ∧ DD K F v (rowD r)) its rows
  | [], _, _, h, r => by
    cases h
    cases r
    exact .nil
  | x :: xs, _, _, h, r => by
    rw [List.map_cons] at h
    cases h with
    | cons h1 h2 =>
      cases r with
      | cons r1 r2 => exact .cons ⟨_, r1, h1⟩ (dds_each h2 r2)
theorem each_dds : ∀ {rows : List (List Int)} {its : List Value}, PySem.W.EachIs (fun u r => ∃ v, RelV v u ∧ DD K F v (rowD r)) its rows → ∃ vs, Vals vs its ∧ DDs K F vs (rows.map rowD)
  | _, _, .nil => ⟨[], .nil, .nil⟩
  | _, _, .cons ⟨v, h1, h2⟩ t => by
    obtain ⟨vs, g1, g2⟩ := each_dds t
    exact ⟨v :: vs, .cons h1 g1, .cons h2 g2⟩
theorem k_sortedR (hu : X.A.units + 65 < cLine) : CallR X (.builtin "sorted") (rP X.K .sortedR) := by
  intro pins s σ H xs us Q I r h
  obtain ⟨F, ds, hs, hd, h⟩ := h
  obtain ⟨x, p, rfl, rfl, hp⟩ := one_of hd h (fun h => h) (fun p q es h => by cases p <;> exact h)
  cases p <;> try exact False.elim h
  case list ys =>
    obtain ⟨a, vs, rfl, h1, h2⟩ := hp
    obtain ⟨rows, rfl, h3⟩ := h
    obtain ⟨its, rv, hl, hz⟩ := I.list (.inl (.inl h1))
    obtain ⟨u, rfl, ru⟩ := vals1 r
    obtain rfl : u = Value.ref a := ru
    have hlen : rows.length = vs.length := by rw [dps_len h2, List.length_map]
    have e0 := dds_each h2 rv
    refine PySem.W.sorted_data (enc := rowD) hl.isList e0 (e0.mono fun u b ⟨v, g1, g2⟩ => Dp.reads I (rowD b) v u (dd_dp _ _ (dp_mono hs _ _ g2) (row_noDict b)) g1) ?_ (.inr ?_) (by rw [hlen]; exact hz) (fun b _ => ?_) fun out hlo hout => ?_
    · intro d hd d' hd'
      obtain ⟨b, _, rfl⟩ := List.mem_map.mp hd
      obtain ⟨b', _, rfl⟩ := List.mem_map.mp hd'
      unfold rowD
      rw [PySem.W.alike]
      exact rows_alike b b'
    · intro d hd
      obtain ⟨b, _, rfl⟩ := List.mem_map.mp hd
      refine ⟨fun e => ?_, fun xs e => ?_⟩
      · cases e
      · cases e
    · have := row_depth b
      omega
    · obtain ⟨ws, g1, g2⟩ := each_dds hout
      obtain ⟨ep, he'⟩ := PyProof.Rows.sortedAll_at s.heap its out.toArray
      have e1 : rows.mergeSort (PySem.W.dataLe false rowD) = rows.mergeSort (fun p q => decide (p ≤ q)) := by
        rw [show PySem.W.dataLe false rowD = fun p q => decide (p ≤ q) from PySem.W.dataLe_rows fun x => x]
      rw [e1] at g2
      have hn : H (s.heap.objs.size + 1) = none := I.hok.fresh (Nat.le_succ _)
      refine ⟨.ref _, upd H (s.heap.objs.size + 1) (.lst ws), I.laid (t' := s.toks) (fun _ _ => PyProof.Rows.sortedAll_old) (Nat.le_succ _) ⟨?_, out, ep, g1, he'⟩, rfl, h3 _ _ (made_lst hs hn g2)⟩
      rw [g1.length, hlo, hlen]
      exact hz
theorem row_plainA : ∀ xs : List Int, PyData.plainAll (xs.map PyData.int) = true
  | [] => rfl
  | x :: xs => by rw [List.map_cons, PyData.plainAll, row_plainA xs]; rfl
theorem row_plain (xs : List Int) : (rowD xs).plain = true := by
  unfold rowD
  rw [PyData.plain, row_plainA]
theorem rows_plainA : ∀ xs : List (List Int), PyData.plainAll (xs.map rowD) = true
  | [] => rfl
  | x :: xs => by rw [List.map_cons, PyData.plainAll, rows_plainA xs, row_plain]; rfl
theorem eqvA_row : ∀ xs ys : List Int, PyData.eqvAll (xs.map PyData.int) (ys.map PyData.int) = decide (xs = ys)
  | [], [] => rfl
  | [], _ :: _ => by simp [PyData.eqvAll]
  | _ :: _, [] => by simp [PyData.eqvAll]
  | x :: xs, y :: ys => by
    rw [List.map_cons, List.map_cons, PyData.eqvAll, eqvA_row xs ys, PyData.eqv]
    by_cases h1 : x = y <;> by_cases h2 : xs = ys <;> simp [h1, h2]
theorem eqv_row (xs ys : List Int) : PyData.eqv (rowD xs) (rowD ys) = decide (xs = ys) := by
  unfold rowD
  rw [PyData.eqv, eqvA_row]
theorem countP_rows (r : List Int) : ∀ rows : List (List Int), (rows.map rowD).countP (fun y => PyData.eqv y (rowD r)) = rows.count r
  | [] => rfl
  | x :: xs => by
    rw [List.map_cons, List.countP_cons, countP_rows r xs, List.count_cons, eqv_row]
    by_cases h : x = r <;> simp [h]
theorem m_countR (hu : X.A.units + 65 < cLine) : MtR X "list.count" (fun x xs => rP X.K .lcount (x :: xs)) := by
  intro pins s σ H x xs v us Q I rx rs h
  have h0 := h
  obtain ⟨F, ds, hs, hd, h⟩ := h
  obtain ⟨x', y, p, q, e, rfl, hp, hq⟩ := two_of hd h (fun h => h) (fun p h => by cases p <;> exact h) (fun p q r es h => by cases p <;> cases q <;> exact h)
  cases e
  cases p <;> cases q <;> try exact False.elim h
  case list.int ys i =>
    obtain rfl := dv_int hq
    exact m_count pins s σ H _ _ v us Q I rx rs ⟨h0, i, rfl⟩
  case list.list ys zs =>
    obtain ⟨rows, r, rfl, e2, h1⟩ := h
    rw [e2] at hq
    obtain ⟨a, vs, rfl, g1, g2⟩ := hp
    obtain rfl : v = Value.ref a := rx
    obtain ⟨its, rv, hl, hz⟩ := I.list (.inl (.inl g1))
    obtain ⟨u, rfl, ru⟩ := vals1 rs
    obtain ⟨bs, r1⟩ := Dp.reads I (rowD r) _ u (hq.dp hs (row_noDict r)) ru
    have nd : PyData.hasDictAll (rows.map rowD) = false := by
      have : ∀ rows : List (List Int), PyData.hasDictAll (rows.map rowD) = false := by
        intro rows
        induction rows with
        | nil => rfl
        | cons x xs ih => rw [List.map_cons, PyData.hasDictAll, ih, row_noDict]; rfl
      exact this rows
    obtain ⟨as, r2⟩ := Dp.readsAll I (rows.map rowD) vs its (dds_dp _ _ (dps_mono hs _ _ g2) nd) rv
    refine PySem.SeqAt.count_list_data (xs := rows.map rowD) (d := rowD r) hl.isList (by simpa using r2) r1 (rows_plainA rows) (row_plain r) ?_ ?_
    · have := row_depth r
      omega
    · rw [countP_rows]
      exact ⟨.int _, H, I.tok _, ⟨_, rfl⟩, h1 _ _ (mk_int hs)⟩
end
end FX
set_option maxHeartbeats 2000000
namespace FX
variable [Wc]
open PySem PySem.Spec PyProof.Rows L2
def agree (vs : List Nat) (σ σ' : SV) : Prop := ∀ i, i ∉ vs → σ'[i]? = σ[i]?
theorem agree.refl {vs : List Nat} {σ : SV} : agree vs σ σ := fun _ _ => rfl
theorem agree.trans {vs ws : List Nat} {σ σ1 σ2 : SV} (a : agree vs σ σ1) (b : agree ws σ1 σ2) : agree (vs ++ ws) σ σ2 := fun i hi => (b i fun h => hi (List.mem_append_right _ h)).trans (a i fun h => hi (List.mem_append_left _ h))
theorem agree.mono {vs ws : List Nat} {σ σ1 : SV} (a : agree vs σ σ1) (h : ∀ i ∈ vs, i ∈ ws) : agree ws σ σ1 := fun i hi => a i fun k => hi (h i k)
/-- where one may store: a local name, or a cell of one's own -/
def tgtB (fn : Str → Bool) (sc : Scope) (x : Str) : Bool := match sc.names.lookup x with
  | some .local => true
  | some .cell => fn x
  | _ => false
def isTgt : Expr → Bool
  | .Name _ _ => true
  | .Tuple _ _ _ => true
  | _ => false
mutual
def chkT (N : List Str) (fn : Str → Bool) (sc : Scope) : T → Expr → Bool
  | .nm i, .Name x _ => decide (N[i]? = some x) && tgtB fn sc x
  | .tp ts, .Tuple es _ _ => chkTs N fn sc ts es
  | _, _ => false
def chkTs (N : List Str) (fn : Str → Bool) (sc : Scope) : Ts → List Expr → Bool
  | .nil, [] => true
  | .cons t ts, e :: es => isTgt e && chkT N fn sc t e && chkTs N fn sc ts es
  | _, _ => false
end
theorem tgt_loc {fn : Str → Bool} {sc : Scope} {x : Str} (h : tgtB fn sc x = true) : Loc sc x ∧ (fn x = true ∨ sc.names.lookup x = some .local) := by
  unfold tgtB at h
  split at h
  · rename_i e
    exact ⟨.inl e, .inr e⟩
  · rename_i e
    exact ⟨.inr e, .inl h⟩
  · cases h
section
variable {X : Cx}
def gL (K : PySem.W.Frag) (t : T) : TG := fun v σ H Q => ∃ F τ ρ d ρ', ρ.length = σ.length ∧ Rp K F H ((.d d, some v) :: ZE τ ρ σ) ∧ t.put d ρ = some ρ' ∧
  (∀ σ', ρ'.length = σ'.length → σ'.length = σ.length → agree t.vars σ σ' → Rp K F H (ZE τ ρ' σ') → Q σ' H)
def gLs (K : PySem.W.Frag) (ts : Ts) : TGs := fun vs σ H Q => ∃ F τ ρ ds ρ', ρ.length = σ.length ∧ Rp K F H (ZE τ ρ σ) ∧ DDs K F vs ds ∧ ts.put ds ρ = some ρ' ∧
  (∀ σ', ρ'.length = σ'.length → σ'.length = σ.length → agree ts.vars σ σ' → Rp K F H (ZE τ ρ' σ') → Q σ' H)
theorem PG.imp {tg : Expr} {t t' : TG} (p : PG X tg t) (h : ∀ v σ H Q, t' v σ H Q → t v σ H Q) : PG X tg t' := ⟨fun pins s σ H v u Q I r q => p.run pins s σ H v u Q I r (h v σ H Q q)⟩
theorem PGs.imp {tg : List Expr} {t t' : TGs} (p : PGs X tg t) (h : ∀ v σ H Q, t' v σ H Q → t v σ H Q) : PGs X tg t' := ⟨fun pins s σ H v u Q I r q => p.run pins s σ H v u Q I r (h v σ H Q q)⟩
theorem store_nm {K : PySem.W.Frag} {F H : Hp} {τ : Zs} {ρ : FE} {σ : SV} {s : Sl} {w : Option V} {i : Nat} (R : Rp K F H ((s, w) :: ZE τ ρ σ)) (hl : ρ.length = σ.length) : Rp K F H (ZE τ (ρ.set i s) (σ.set i w)) := by
  by_cases hi : i < ρ.length
  · exact R.storeAt hl hi
  · rw [List.set_eq_of_length_le (by omega), List.set_eq_of_length_le (by omega)]
    exact R.tail
theorem agree_set {σ : SV} {i : Nat} {w : Option V} : agree [i] σ (σ.set i w) := fun j hj => by
  rw [List.getElem?_set_ne (fun e => hj (by simp [e]))]
theorem each_len : ∀ {N : List Str} {fn : Str → Bool} {sc : Scope} {env : Env} {ts : Ts} {es : List Expr}, chkTs N fn sc ts es = true → (assignEach es env).length = es.length ∧ (assignEach es env).findIdx? (·.1) = none
  | _, _, _, _, .nil, [], _ => ⟨rfl, rfl⟩
  | N, fn, sc, env, .cons t ts, e :: es, h => by
    unfold chkTs at h
    simp only [Bool.and_eq_true] at h
    obtain ⟨h1, h2⟩ := each_len (env := env) h.2
    have e0 : assignEach (e :: es) env = (false, assign e env) :: assignEach es env := by
      cases e <;> first | rfl | (have := h.1.1; cases this)
    rw [e0]
    exact ⟨by simp [h1], by simp [List.findIdx?_cons, h2]⟩
  | _, _, _, _, .nil, _ :: _, h => by simp [chkTs] at h
  | _, _, _, _, .cons _ _, [], h => by simp [chkTs] at h
theorem put_len : ∀ {N : List Str} {fn : Str → Bool} {sc : Scope} {ts : Ts} {es : List Expr} {ds : List PyData} {ρ ρ' : FE}, chkTs N fn sc ts es = true → ts.put ds ρ = some ρ' → ds.length = es.length
  | _, _, _, .nil, [], ds, _, _, _, h => by
    cases ds with
    | nil => rfl
    | cons _ _ => simp [Ts.put] at h
  | N, fn, sc, .cons t ts, e :: es, ds, ρ, ρ', h, hp => by
    unfold chkTs at h
    simp only [Bool.and_eq_true] at h
    cases ds with
    | nil => simp [Ts.put] at hp
    | cons d ds =>
      simp only [Ts.put, Option.bind_eq_some_iff] at hp
      obtain ⟨ρ1, _, h2⟩ := hp
      simp [put_len h.2 h2]
  | _, _, _, .nil, _ :: _, _, _, _, h, _ => by simp [chkTs] at h
  | _, _, _, .cons _ _, [], _, _, _, h, _ => by simp [chkTs] at h
mutual
theorem g_T (hc : X.calm = true) (hN : X.N.Nodup) : ∀ (t : T) (e : Expr), chkT X.N X.fn X.env.scope t e = true → PG X e (gL X.K t)
  | .nm i, .Name x pos, h => by
    unfold chkT at h
    simp only [Bool.and_eq_true, decide_eq_true_eq] at h
    obtain ⟨h1, h2⟩ := tgt_loc h.2
    refine PG.imp (pg_name hN h.1 h1 h2) ?_
    rintro v σ H Q ⟨F, τ, ρ, d, ρ', hl, R, hp, hQ⟩
    cases hp
    exact hQ _ (by simp [hl]) (by simp) agree_set (store_nm R hl)
  | .tp ts, .Tuple es k pos, h => by
    unfold chkT at h
    obtain ⟨h1, h2⟩ := each_len (env := X.env) h
    refine PG.imp (pg_tup hc (g_Ts hc hN ts es h) h1 h2) ?_
    rintro v σ H Q ⟨F, τ, ρ, d, ρ', hl, R, hp, hQ⟩
    cases d <;> try (simp [T.put] at hp; done)
    case tuple ds =>
      have hp : ts.put ds ρ = some ρ' := hp
      cases (show DD X.K F v (.tuple ds) from R.head) with
      | @tup a ws _ k1 k2 => exact ⟨a, ws, rfl, sqT_mono R.sub k1, by rw [dps_len k2]; exact put_len h hp, F, τ, ρ, ds, ρ', hl, R.tail, k2, hp, hQ⟩
  | .nm _, .BoolOp .., h | .nm _, .NamedExpr .., h | .nm _, .BinOp .., h | .nm _, .UnaryOp .., h | .nm _, .Lambda .., h | .nm _, .IfExp .., h | .nm _, .Dict .., h | .nm _, .Set .., h | .nm _, .ListComp .., h | .nm _, .SetComp .., h | .nm _, .DictComp .., h
  | .nm _, .GeneratorExp .., h | .nm _, .Await .., h | .nm _, .Yield .., h | .nm _, .YieldFrom .., h | .nm _, .Compare .., h | .nm _, .Call .., h | .nm _, .FormattedValue .., h | .nm _, .JoinedStr .., h | .nm _, .Constant .., h | .nm _, .Attribute .., h
  | .nm _, .Subscript .., h | .nm _, .Starred .., h | .nm _, .List .., h | .nm _, .Tuple .., h | .nm _, .Slice .., h => by simp [chkT] at h
  | .tp _, .BoolOp .., h | .tp _, .NamedExpr .., h | .tp _, .BinOp .., h | .tp _, .UnaryOp .., h | .tp _, .Lambda .., h | .tp _, .IfExp .., h | .tp _, .Dict .., h | .tp _, .Set .., h | .tp _, .ListComp .., h | .tp _, .SetComp .., h | .tp _, .DictComp .., h
  | .tp _, .GeneratorExp .., h | .tp _, .Await .., h | .tp _, .Yield .., h | .tp _, .YieldFrom .., h | .tp _, .Compare .., h | .tp _, .Call .., h | .tp _, .FormattedValue .., h | .tp _, .JoinedStr .., h | .tp _, .Constant .., h | .tp _, .Attribute .., h
  | .tp _, .Subscript .., h | .tp _, .Starred .., h | .tp _, .List .., h | .tp _, .Name .., h | .tp _, .Slice .., h => by simp [chkT] at h
theorem g_Ts (hc : X.calm = true) (hN : X.N.Nodup) : ∀ (ts : Ts) (es : List Expr), chkTs X.N X.fn X.env.scope ts es = true → PGs X es (gLs X.K ts)
  | .nil, [], _ => by
    refine PGs.imp pgs_nil ?_
    rintro vs σ H Q ⟨F, τ, ρ, ds, ρ', hl, R, hd, hp, hQ⟩
    cases ds with
    | nil =>
      cases hd
      cases hp
      exact ⟨rfl, hQ σ hl rfl agree.refl R⟩
    | cons _ _ => simp [Ts.put] at hp
  | .cons t ts, e :: es, h => by
    unfold chkTs at h
    simp only [Bool.and_eq_true] at h
    refine PGs.imp (pgs_cons (g_T hc hN t e h.1.2) (g_Ts hc hN ts es h.2) (by
      have := h.1.1
      cases e <;> first | rfl | cases this)) ?_
    rintro vs σ H Q ⟨F, τ, ρ, ds, ρ', hl, R, hd, hp, hQ⟩
    cases ds with
    | nil => simp [Ts.put] at hp
    | cons d ds =>
      cases hd with
      | @cons v vs _ _ k1 k2 =>
        simp only [Ts.put, Option.bind_eq_some_iff] at hp
        obtain ⟨ρ1, p1, p2⟩ := hp
        refine ⟨v, vs, rfl, F, τ, ρ, d, ρ1, hl, R.consD k1, p1, fun σ1 l1 l1' a1 R1 => ?_⟩
        exact ⟨F, τ, ρ1, ds, ρ', l1, R1, k2, p2, fun σ2 l2 l2' a2 R2 => hQ σ2 l2 (l2'.trans l1') (a1.trans a2) R2⟩
  | .nil, _ :: _, h => by simp [chkTs] at h
  | .cons _ _, [], h => by simp [chkTs] at h
end
end
end FX
set_option maxHeartbeats 2000000
namespace FX
variable [Wc]
open PySem PySem.Spec PyProof.Rows L2
/-- no exception -/
abbrev noW : WX := fun _ _ _ _ => False
theorem xok_no {K : PySem.W.Frag} {ce : ExcT} {W : WX} {F : Hp} {τ : Zs} {σ : SV} : XOK K ce W F τ σ noX := fun _ _ _ _ _ _ h => False.elim h
section
variable {K : PySem.W.Frag} {F H : Hp} {τ : Zs}
theorem wipeF_len (own : List Nat) (ρ : FE) : (wipeF own ρ).length = ρ.length := by
  induction own with
  | nil => rfl
  | cons i is ih => simp [wipeF, ih]
theorem wipeF_at {own : List Nat} {ρ : FE} {i : Nat} (h : i ∈ own) : (wipeF own ρ)[i]? = none ∨ (wipeF own ρ)[i]? = some .no := by
  induction own with
  | nil => cases h
  | cons j js ih =>
    unfold wipeF
    by_cases e : j = i
    · subst e
      by_cases hl : j < (wipeF js ρ).length
      · exact .inr (by rw [List.getElem?_set_self hl])
      · exact .inl (List.getElem?_eq_none (by simp; omega))
    · rw [List.getElem?_set_ne e]
      rcases List.mem_cons.mp h with h | h
      · exact absurd h.symm e
      · exact ih h
theorem wipe_get (σ : SV) {own : List Nat} {i : Nat} (h : i ∉ own) : (wipe σ own)[i]? = σ[i]? := wipe_out h
theorem wipe_eq {own : List Nat} : ∀ {σ σ' : SV}, σ'.length = σ.length → (∀ i, i ∉ own → σ'[i]? = σ[i]?) → wipe σ' own = wipe σ own := by
  intro σ σ' hl h
  have hin : ∀ (own : List Nat) (σ : SV) (i : Nat), i ∈ own → i < σ.length → (wipe σ own)[i]? = some none := by
    intro own
    induction own with
    | nil => intro _ _ h; cases h
    | cons j js ih =>
      intro σ i hi hlt
      unfold wipe
      by_cases e : j = i
      · subst e
        rw [List.getElem?_set_self (by rw [wipe_length]; exact hlt)]
      · rw [List.getElem?_set_ne e]
        rcases List.mem_cons.mp hi with hi | hi
        · exact absurd hi.symm e
        · exact ih σ i hi hlt
  apply List.ext_getElem?
  intro i
  by_cases hi : i ∈ own
  · by_cases hlt : i < σ.length
    · rw [hin own σ i hi hlt, hin own σ' i hi (by omega)]
    · rw [List.getElem?_eq_none (by rw [wipe_length]; omega), List.getElem?_eq_none (by rw [wipe_length]; omega)]
  · rw [wipe_get _ hi, wipe_get _ hi, h i hi]
theorem rp_wipeF (R : Rp K F H (ZE τ ρ σ)) (hl : ρ.length = σ.length) : ∀ own : List Nat, Rp K F H (ZE τ (wipeF own ρ) σ)
  | [] => R
  | i :: is => Rp.forget' (rp_wipeF R hl is) (by rw [wipeF_len]; exact hl)
/-- slots without a value may hold anything -/
theorem rp_swap : ∀ {ρ : FE} {σ σ' : SV}, σ'.length = σ.length → (∀ i : Nat, ρ[i]? = none ∨ ρ[i]? = some Sl.no ∨ σ'[i]? = σ[i]?) → ρ.length = σ.length → Rp K F H (ZE τ ρ σ) → Rp K F H (ZE τ ρ σ') := by
  intro ρ σ σ' hl h hn R
  have key : ∀ (ρ : FE) (σ σ' : SV), σ'.length = σ.length → ρ.length = σ.length → (∀ i : Nat, ρ[i]? = none ∨ ρ[i]? = some Sl.no ∨ σ'[i]? = σ[i]?) →
      (∀ p ∈ ρ.zip σ', SlotR K F H p.1 p.2 ∨ p ∈ ρ.zip σ) ∧ (ρ.zip σ').filterMap ownA = (ρ.zip σ).filterMap ownA := by
    intro ρ
    induction ρ with
    | nil => intro σ σ' _ _ _; simp
    | cons s ρ ih =>
      intro σ σ' h1 h2 h3
      cases σ with
      | nil => simp at h2
      | cons w σ =>
        cases σ' with
        | nil => simp at h1
        | cons w' σ' =>
          obtain ⟨k1, k2⟩ := ih σ σ' (by simpa using h1) (by simpa using h2) fun i => by simpa using h3 (i + 1)
          have h0 := h3 0
          simp only [List.getElem?_cons_zero] at h0
          have e0 : s = .no ∨ w' = w := by
            rcases h0 with h0 | h0 | h0
            · cases h0
            · exact .inl (Option.some.inj h0)
            · exact .inr (Option.some.inj h0)
          rcases e0 with rfl | rfl
          · refine ⟨fun p hp => ?_, ?_⟩
            · rw [List.zip_cons_cons] at hp
              rcases List.mem_cons.mp hp with rfl | hp
              · exact .inl trivial
              · exact (k1 p hp).imp id fun q => by rw [List.zip_cons_cons]; exact List.mem_cons_of_mem _ q
            · rw [List.zip_cons_cons, List.zip_cons_cons, List.filterMap_cons, List.filterMap_cons, k2]
              rfl
          · refine ⟨fun p hp => ?_, ?_⟩
            · rw [List.zip_cons_cons] at hp
              rcases List.mem_cons.mp hp with rfl | hp
              · exact .inr (by rw [List.zip_cons_cons]; exact List.mem_cons_self)
              · exact (k1 p hp).imp id fun q => by rw [List.zip_cons_cons]; exact List.mem_cons_of_mem _ q
            · rw [List.zip_cons_cons, List.zip_cons_cons, List.filterMap_cons, List.filterMap_cons, k2]
  obtain ⟨k1, k2⟩ := key ρ σ σ' hl hn h
  refine ⟨R.sub, fun p hp => ?_, ?_⟩
  · rcases List.mem_append.mp hp with hp | hp
    · exact R.ok p (List.mem_append_left _ hp)
    · exact (k1 p hp).elim id fun q => R.ok p (List.mem_append_right _ q)
  · have := R.nd
    rw [ZE, List.filterMap_append] at this ⊢
    rw [k2]
    exact this
/-- the owned list at the head grows by one -/
theorem rp_push {D : Addr} {acc : List PyData} {v : V} {d : PyData} {z : Zs} (R : Rp K F H ((.o acc, some (.ref D)) :: z)) (hd : DD K F v d) : ∃ ws, H D = some (.lst ws) ∧ ws.length = acc.length ∧ Rp K F (upd H D (.lst (ws ++ [v]))) ((.o (acc ++ [d]), some (.ref D)) :: z) := by
  obtain ⟨_, ws, h1, h2⟩ := R.head
  exact ⟨ws, h1, dps_len h2, R.write (dps_app h2 (.cons hd .nil))⟩
end
section
variable {K : PySem.W.Frag} {ce : ExcT} {Wx : WX} {G : Gm}
/-- the loop of a comprehension's clause, the new list at D -/
theorem lc_loop {own : List Nat} {elt : E} {t : T} {cond : Es} {σ : SV} {D : Addr} {F0 F1 H0 : Hp} {τ ω : Zs} {ρ1 : FE} {acc0 : List PyData} {lk : Lk} {J : It} {xs : List PyData} {Qk : List PyData → FE → Prop} {Qd : Hp → Prop}
    (hv : ∀ i ∈ t.vars, i ∈ own) (l1 : ρ1.length = σ.length) (R0 : Rp K F1 H0 ((.o acc0, some (.ref D)) :: (ω ++ ZE τ (wipeF own ρ1) σ))) (lk0 : lkOk lk (wipeF own ρ1)) (wk : WkI K F0 ω lk σ J xs) (s0 : Same F0 F1)
    (q1 : compL lk t.put (fun ρ K => (Ws G cond).andT ρ K noX) (fun ρ K => (W G elt).v ρ K noX) own xs acc0 (wipeF own ρ1) Qk)
    (hd : ∀ F2 ρ2 acc H2, Qk acc (wipeF own ρ2) → ρ2.length = σ.length → Same F1 F2 → Rp K F2 H2 ((.o acc, some (.ref D)) :: (ω ++ ZE τ (wipeF own ρ2) σ)) → Qd H2) :
    ∃ W0 : Nat → Nat → Hp → Prop, (∃ m, W0 0 m H0) ∧ ∀ i m H, W0 i m H →
      (J.stop i H ∧ Qd H) ∨ (J.go i H ∧ ∃ Nx : Hp → Prop, (∀ H', Nx H' → ∃ m', m' < m ∧ W0 (i + 1) m' H') ∧ ∀ x H', J.yld i H x H' → gL K t x (wipe σ own) H' fun σ2 H2 => wipe σ2 own = wipe σ own ∧ liftT K ce noW (Ws G cond).andT σ2 H2 fun b H3 =>
        if b = true then liftV K ce noW (W G elt).v σ2 H3 fun y H4 => ∃ acc, H4 D = some (.lst acc) ∧ acc.length < sizeLine ∧ Nx (upd H4 D (.lst (acc ++ [y]))) else Nx H3) := by
  refine ⟨fun i m H2 => m = xs.length - i ∧ i ≤ xs.length ∧ ∃ F2 ρ2 acc, Same F1 F2 ∧ ρ2.length = σ.length ∧ Rp K F2 H2 ((.o acc, some (.ref D)) :: (ω ++ ZE τ (wipeF own ρ2) σ)) ∧ lkOk lk (wipeF own ρ2) ∧
    compL lk t.put (fun ρ K => (Ws G cond).andT ρ K noX) (fun ρ K => (W G elt).v ρ K noX) own (xs.drop i) acc (wipeF own ρ2) Qk, ⟨xs.length, by simp, Nat.zero_le _, ?_⟩, ?_⟩
  · exact ⟨F1, ρ1, acc0, fun _ _ e => e, l1, R0, lk0, by simpa using q1⟩
  · rintro i m H2 ⟨rfl, hi2, F2, ρ2, acc, s2, l2, R2, lk2, q2⟩
    have hlw : (wipeF own ρ2).length = σ.length := by rw [wipeF_len]; exact l2
    have wk2 := wk F2 H2 ((.o acc, some (.ref D)) :: τ) (wipeF own ρ2) σ (Same.tr s0 s2) hlw (R2.perm (by simpa [ZE] using List.perm_middle.symm)) lk2 fun _ _ => rfl
    by_cases hlt : i < xs.length
    · have hx : xs[i]? = some xs[i] := List.getElem?_eq_getElem hlt
      have hdrop : xs.drop i = xs[i] :: xs.drop (i + 1) := by rw [List.drop_eq_getElem_cons hlt]
      obtain ⟨go, yl⟩ := wk2.1 i _ hx
      rw [hdrop] at q2
      refine .inr ⟨go, fun H' => ∃ F3 ρ3 acc3, Same F1 F3 ∧ ρ3.length = σ.length ∧ Rp K F3 H' ((.o acc3, some (.ref D)) :: (ω ++ ZE τ (wipeF own ρ3) σ)) ∧ lkOk lk (wipeF own ρ3) ∧
        compL lk t.put (fun ρ K => (Ws G cond).andT ρ K noX) (fun ρ K => (W G elt).v ρ K noX) own (xs.drop (i + 1)) acc3 (wipeF own ρ3) Qk,
        fun H' hn => ⟨xs.length - (i + 1), by omega, rfl, hlt, hn⟩, fun v H' hy => ?_⟩
      obtain ⟨F3, s3, R3⟩ := R2.made (yl v H' hy)
      -- the store
      have q3 : (match t.put xs[i] (wipeF own ρ2) with
          | none => False
          | some ρ1 => (Ws G cond).andT ρ1 (fun b ρ2 => if b = true then (W G elt).v ρ2 (fun r ρ3 => acc.length < sizeLine ∧ lkOk lk (wipeF own ρ3) ∧
              compL lk t.put (fun ρ K => (Ws G cond).andT ρ K noX) (fun ρ K => (W G elt).v ρ K noX) own (xs.drop (i + 1)) (acc ++ [r.data]) (wipeF own ρ3) Qk) noX
            else lkOk lk (wipeF own ρ2) ∧ compL lk t.put (fun ρ K => (Ws G cond).andT ρ K noX) (fun ρ K => (W G elt).v ρ K noX) own (xs.drop (i + 1)) acc (wipeF own ρ2) Qk) noX : Prop) := q2
      cases ep : t.put xs[i] (wipeF own ρ2) with
      | none => rw [ep] at q3; exact q3.elim
      | some ρ4 =>
        rw [ep] at q3
        have hwl : (wipe σ own).length = σ.length := wipe_length σ _
        refine ⟨F3, (.o acc, some (.ref D)) :: (ω ++ τ), wipeF own ρ2, xs[i], ρ4, by rw [hlw, hwl], ?_, ep, fun σ5 l5 l5' a5 R5 => ?_⟩
        · have R3' : Rp K F3 H' (ZE (((Rs.d xs[i]).sl, some v) :: (.o acc, some (.ref D)) :: (ω ++ τ)) (wipeF own ρ2) σ) := by simpa [ZE] using R3
          refine rp_swap (by rw [hwl]) (fun j => ?_) hlw R3'
          by_cases hj : j ∈ own
          · rcases wipeF_at (ρ := ρ2) hj with h | h
            · exact .inl h
            · exact .inr (.inl h)
          · exact .inr (.inr (wipe_get σ hj))
        · have ag5 : ∀ j, j ∉ own → σ5[j]? = σ[j]? := fun j hj => (a5 j fun h => hj (hv j h)).trans (wipe_get σ hj)
          have l5s : σ5.length = σ.length := l5'.trans hwl
          refine ⟨?_, F3, (.o acc, some (.ref D)) :: (ω ++ τ), ρ4, _, noX, l5, R5, q3, fun b ρ6 F6 H6 q6 l6 s6 R6 => ?_, xok_no⟩
          · have e1 := wipe_eq (own := own) l5s ag5
            exact e1
          · have back : ∀ (F7 : Hp) (H7 : Hp) (acc7 : List PyData) (ρ7 : FE), ρ7.length = σ5.length → Rp K F7 H7 (ZE ((.o acc7, some (.ref D)) :: (ω ++ τ)) ρ7 σ5) → Rp K F7 H7 ((.o acc7, some (.ref D)) :: (ω ++ ZE τ (wipeF own ρ7) σ)) := fun F7 H7 acc7 ρ7 l7 R7 => by
              have R8 := rp_wipeF R7 l7 own
              have R9 : Rp K F7 H7 (ZE ((.o acc7, some (.ref D)) :: (ω ++ τ)) (wipeF own ρ7) σ) := by
                refine rp_swap l5s.symm (fun j => ?_) (by rw [wipeF_len]; exact l7) R8
                by_cases hj : j ∈ own
                · rcases wipeF_at (ρ := ρ7) hj with h | h
                  · exact .inl h
                  · exact .inr (.inl h)
                · exact .inr (.inr (ag5 j hj).symm)
              simpa [ZE] using R9
            have sF : Same F1 F6 := Same.tr s2 (Same.tr s3 s6)
            cases b with
            | false =>
              rw [if_neg Bool.false_ne_true] at q6
              show (if false = true then _ else _)
              rw [if_neg Bool.false_ne_true]
              exact ⟨F6, ρ6, acc, sF, l6.trans l5s, back F6 H6 acc ρ6 l6 R6, q6.1, q6.2⟩
            | true =>
              rw [if_pos rfl] at q6
              show (if true = true then _ else _)
              rw [if_pos rfl]
              refine ⟨F6, (.o acc, some (.ref D)) :: (ω ++ τ), ρ6, _, noX, l6, R6, q6, fun r ρ7 F7 H7 y q7 l7 s7 R7 => ?_, xok_no⟩
              obtain ⟨hz, lk7, q7⟩ := q7
              obtain ⟨F8, s8, R8, d8⟩ := frz_one R7
              have R9 : Rp K F8 H7 ((.o acc, some (.ref D)) :: ((ω ++ τ) ++ ρ7.zip σ5)) := by simpa [ZE] using R8.tail
              obtain ⟨ws, w1, w2, w3⟩ := rp_push R9 d8
              refine ⟨ws, w1, by rw [w2]; exact hz, F8, ρ7, acc ++ [r.data], Same.tr sF (Same.tr s7 s8), l7.trans l5s, back F8 _ _ ρ7 l7 (by simpa [ZE] using w3), lk7, q7⟩
    · have hi3 : i = xs.length := by omega
      subst hi3
      have e0 : xs.drop xs.length = [] := List.drop_length
      rw [e0] at q2
      exact .inl ⟨wk2.2, hd F2 ρ2 acc H2 q2 l2 s2 R2⟩
/-- [elt for t in it if cond] -/
theorem lc_imp {own : List Nat} {elt : E} {t : T} {it : I} {cond : Es} (hv : ∀ i ∈ t.vars, i ∈ own) {σ : SV} {H : Hp} {Q : VK} (h : liftV K ce Wx (W G (.comp own elt t it cond)).v σ H Q) :
    tLc (liftI K ce Wx (WI G it)) (gL K t) (liftT K ce noW (Ws G cond).andT) (liftV K ce noW (W G elt).v) own σ H Q := by
  obtain ⟨F, τ, ρ, Q0, E0, hl, R, q, hQ, hE⟩ := h
  refine ⟨F, τ, ρ, _, E0, hl, R, q, fun xs lk ρ1 F1 H1 J ω q1 l1 s1 R1 lk1 wk => ?_, hE⟩
  obtain ⟨lk0, q1⟩ := q1
  intro D hD
  have R2 : Rp K F1 H1 (ω ++ ZE τ (wipeF own ρ1) σ) := by
    have := rp_wipeF (τ := ω ++ τ) (ρ := ρ1) (σ := σ) (by simpa [ZE] using R1) l1 own
    simpa [ZE] using this
  obtain ⟨F2, g1, g2⟩ := R2.made (made_lst (xs := []) (vs := []) R2.sub hD .nil)
  exact lc_loop hv l1 g2 lk0 wk g1 q1 fun F3 ρ3 acc H3 q3 l3 s3 R3 => hQ _ _ F3 H3 _ q3 (by rw [wipeF_len]; exact l3) (Same.tr s1 (Same.tr g1 s3)) R3.mid
/-- .. with two clauses -/
theorem lc2_imp {own own1 : List Nat} {elt : E} {t t1 : T} {it it1 : I} {cond cond1 : Es} (hv : ∀ i ∈ t.vars, i ∈ own) (hv1 : ∀ i ∈ t1.vars, i ∈ own1) {σ : SV} {H : Hp} {Q : VK} (h : liftV K ce Wx (W G (.comp2 own own1 elt t it cond t1 it1 cond1)).v σ H Q) :
    tLc2 (liftI K ce Wx (WI G it)) (gL K t) (liftT K ce noW (Ws G cond).andT) (liftI K ce noW (WI G it1)) (gL K t1) (liftT K ce noW (Ws G cond1).andT) (liftV K ce noW (W G elt).v) own own1 σ H Q := by
  obtain ⟨F, τ, ρ, Q0, E0, hl, R, q, hQ, hE⟩ := h
  refine ⟨F, τ, ρ, _, E0, hl, R, q, fun xs lk ρ1 F1 H1 J ω q1 l1 s1 R1 lk1 wk => ?_, hE⟩
  obtain ⟨lk0, q1⟩ := q1
  intro D hD
  have R2 : Rp K F1 H1 (ω ++ ZE τ (wipeF own ρ1) σ) := by
    have := rp_wipeF (τ := ω ++ τ) (ρ := ρ1) (σ := σ) (by simpa [ZE] using R1) l1 own
    simpa [ZE] using this
  obtain ⟨Fb, g1, g2⟩ := R2.made (made_lst (xs := []) (vs := []) R2.sub hD .nil)
  generalize hin : (fun (acc : List PyData) (ρ : FE) (K : List PyData → FE → Prop) => (WI G it1) ρ (fun ys lk1 ρ2 =>
        lkOk lk1 (wipeF own1 ρ2) ∧ compL lk1 t1.put (fun ρ K => (Ws G cond1).andT ρ K noX) (fun ρ K => (W G elt).v ρ K noX) own1 ys acc (wipeF own1 ρ2) K) noX) = inner at q1
  refine ⟨fun i m H2 => m = xs.length - i ∧ i ≤ xs.length ∧ ∃ F2 ρ2 acc, Same Fb F2 ∧ ρ2.length = σ.length ∧ Rp K F2 H2 ((.o acc, some (.ref D)) :: (ω ++ ZE τ (wipeF own ρ2) σ)) ∧ lkOk lk (wipeF own ρ2) ∧
    compL2 lk t.put (fun ρ K => (Ws G cond).andT ρ K noX) inner own (xs.drop i) acc (wipeF own ρ2) (fun ys ρ2 => Q0 (.o ys) ρ2), ⟨xs.length, by simp, Nat.zero_le _, ?_⟩, ?_⟩
  · exact ⟨Fb, ρ1, [], fun _ _ e => e, l1, g2, lk0, by simpa using q1⟩
  · rintro i m H2 ⟨rfl, hi2, F2, ρ2, acc, s2, l2, R2, lk2, q2⟩
    have hlw : (wipeF own ρ2).length = σ.length := by rw [wipeF_len]; exact l2
    have wk2 := wk F2 H2 ((.o acc, some (.ref D)) :: τ) (wipeF own ρ2) σ (Same.tr g1 s2) hlw (R2.perm (by simpa [ZE] using List.perm_middle.symm)) lk2 fun _ _ => rfl
    by_cases hlt : i < xs.length
    · have hx : xs[i]? = some xs[i] := List.getElem?_eq_getElem hlt
      have hdrop : xs.drop i = xs[i] :: xs.drop (i + 1) := by rw [List.drop_eq_getElem_cons hlt]
      obtain ⟨go, yl⟩ := wk2.1 i _ hx
      rw [hdrop] at q2
      refine .inr ⟨go, fun H' => ∃ F3 ρ3 acc3, Same Fb F3 ∧ ρ3.length = σ.length ∧ Rp K F3 H' ((.o acc3, some (.ref D)) :: (ω ++ ZE τ (wipeF own ρ3) σ)) ∧ lkOk lk (wipeF own ρ3) ∧
        compL2 lk t.put (fun ρ K => (Ws G cond).andT ρ K noX) inner own (xs.drop (i + 1)) acc3 (wipeF own ρ3) (fun ys ρ2 => Q0 (.o ys) ρ2),
        fun H' hn => ⟨xs.length - (i + 1), by omega, rfl, hlt, hn⟩, fun v H' hy => ?_⟩
      obtain ⟨F3, s3, R3⟩ := R2.made (yl v H' hy)
      have q3 : (match t.put xs[i] (wipeF own ρ2) with
          | none => False
          | some ρ1 => (Ws G cond).andT ρ1 (fun b ρ2 => if b = true then inner acc ρ2 (fun acc2 ρ3 => lkOk lk (wipeF own ρ3) ∧
              compL2 lk t.put (fun ρ K => (Ws G cond).andT ρ K noX) inner own (xs.drop (i + 1)) acc2 (wipeF own ρ3) (fun ys ρ2 => Q0 (.o ys) ρ2))
            else lkOk lk (wipeF own ρ2) ∧ compL2 lk t.put (fun ρ K => (Ws G cond).andT ρ K noX) inner own (xs.drop (i + 1)) acc (wipeF own ρ2) (fun ys ρ2 => Q0 (.o ys) ρ2)) noX : Prop) := q2
      cases ep : t.put xs[i] (wipeF own ρ2) with
      | none => rw [ep] at q3; exact q3.elim
      | some ρ4 =>
        rw [ep] at q3
        have hwl : (wipe σ own).length = σ.length := wipe_length σ _
        refine ⟨F3, (.o acc, some (.ref D)) :: (ω ++ τ), wipeF own ρ2, xs[i], ρ4, by rw [hlw, hwl], ?_, ep, fun σ5 l5 l5' a5 R5 => ?_⟩
        · have R3' : Rp K F3 H' (ZE (((Rs.d xs[i]).sl, some v) :: (.o acc, some (.ref D)) :: (ω ++ τ)) (wipeF own ρ2) σ) := by simpa [ZE] using R3
          refine rp_swap (by rw [hwl]) (fun j => ?_) hlw R3'
          by_cases hj : j ∈ own
          · rcases wipeF_at (ρ := ρ2) hj with h | h
            · exact .inl h
            · exact .inr (.inl h)
          · exact .inr (.inr (wipe_get σ hj))
        · have ag5 : ∀ j, j ∉ own → σ5[j]? = σ[j]? := fun j hj => (a5 j fun h => hj (hv j h)).trans (wipe_get σ hj)
          have l5s : σ5.length = σ.length := l5'.trans hwl
          refine ⟨wipe_eq (own := own) l5s ag5, F3, (.o acc, some (.ref D)) :: (ω ++ τ), ρ4, _, noX, l5, R5, q3, fun b ρ6 F6 H6 q6 l6 s6 R6 => ?_, xok_no⟩
          have back : ∀ (F7 : Hp) (H7 : Hp) (acc7 : List PyData) (ρ7 : FE), ρ7.length = σ5.length → Rp K F7 H7 (ZE ((.o acc7, some (.ref D)) :: (ω ++ τ)) ρ7 σ5) → Rp K F7 H7 ((.o acc7, some (.ref D)) :: (ω ++ ZE τ (wipeF own ρ7) σ)) := fun F7 H7 acc7 ρ7 l7 R7 => by
            have R8 := rp_wipeF R7 l7 own
            have R9 : Rp K F7 H7 (ZE ((.o acc7, some (.ref D)) :: (ω ++ τ)) (wipeF own ρ7) σ) := by
              refine rp_swap l5s.symm (fun j => ?_) (by rw [wipeF_len]; exact l7) R8
              by_cases hj : j ∈ own
              · rcases wipeF_at (ρ := ρ7) hj with h | h
                · exact .inl h
                · exact .inr (.inl h)
              · exact .inr (.inr (ag5 j hj).symm)
            simpa [ZE] using R9
          have sF : Same Fb F6 := Same.tr s2 (Same.tr s3 s6)
          cases b with
          | false =>
            rw [if_neg Bool.false_ne_true] at q6
            show (if false = true then _ else _)
            rw [if_neg Bool.false_ne_true]
            exact ⟨F6, ρ6, acc, sF, l6.trans l5s, back F6 H6 acc ρ6 l6 R6, q6.1, q6.2⟩
          | true =>
            rw [if_pos rfl] at q6
            show (if true = true then _ else _)
            rw [if_pos rfl]
            rw [← hin] at q6
            refine ⟨F6, (.o acc, some (.ref D)) :: (ω ++ τ), ρ6, _, noX, l6, R6, q6, fun ys lk7 ρ7 F7 H7 J1 ω1 q7 l7 s7 R7 k7 wk7 => ?_, xok_no⟩
            obtain ⟨lk8, q7⟩ := q7
            have R8 : Rp K F7 H7 ((.o acc, some (.ref D)) :: (ω1 ++ ZE (ω ++ τ) (wipeF own1 ρ7) σ5)) := by
              have := rp_wipeF (τ := ω1 ++ ((.o acc, some (.ref D)) :: (ω ++ τ))) (ρ := ρ7) (σ := σ5) (by simpa [ZE] using R7) l7 own1
              refine Rp.perm this ?_
              simp only [ZE, List.append_assoc, List.cons_append]
              exact List.perm_middle
            rw [hin] at q7
            refine lc_loop hv1 l7 R8 lk8 wk7 (fun _ _ e => e) q7 fun F9 ρ9 acc9 H9 q9 l9 s9 R9 => ?_
            have R10 : Rp K F9 H9 (ZE ((.o acc9, some (.ref D)) :: (ω ++ τ)) (wipeF own1 ρ9) σ5) := R9.mid
            exact ⟨F9, wipeF own1 ρ9, acc9, Same.tr sF (Same.tr s7 s9), by rw [wipeF_len]; exact l9.trans l5s, back F9 H9 acc9 _ (by rw [wipeF_len]; exact l9) R10, q9.1, q9.2⟩
    · have hi3 : i = xs.length := by omega
      subst hi3
      have e0 : xs.drop xs.length = [] := List.drop_length
      rw [e0] at q2
      have q2 : Q0 (.o acc) (wipeF own ρ2) := q2
      exact .inl ⟨wk2.2, hQ _ _ F2 H2 _ q2 hlw (Same.tr s1 (Same.tr g1 s2)) R2.mid⟩
end
end FX
set_option maxHeartbeats 2000000
namespace FX
variable [Wc]
open PySem PySem.Spec PyProof.Rows L2
/-- what the reading's ends give the machine's ends -/
structure DOk (K : PySem.W.Frag) (ce : ExcT) (Wx : WX) (asg : List Nat) (F : Hp) (τ : Zs) (σ : SV) (D0 : FEnds) (D : Ends) : Prop where
  nx : ∀ ρ' F' H' σ', D0.nx ρ' → ρ'.length = σ'.length → σ'.length = σ.length → agree asg σ σ' → Same F F' → Rp K F' H' (ZE τ ρ' σ') → D.nx σ' H'
  bk : ∀ ρ' F' H' σ', D0.bk ρ' → ρ'.length = σ'.length → σ'.length = σ.length → agree asg σ σ' → Same F F' → Rp K F' H' (ZE τ ρ' σ') → D.bk σ' H'
  ct : ∀ ρ' F' H' σ', D0.ct ρ' → ρ'.length = σ'.length → σ'.length = σ.length → agree asg σ σ' → Same F F' → Rp K F' H' (ZE τ ρ' σ') → D.ct σ' H'
  rt : ∀ r ρ' F' H' σ' v, D0.rt r ρ' → ρ'.length = σ'.length → σ'.length = σ.length → agree asg σ σ' → Same F F' → Rp K F' H' ((r.sl, some v) :: ZE τ ρ' σ') → D.rt v H'
  ex : ∀ x ρ' F' H' σ' cls d, D0.ex x ρ' → ρ'.length = σ'.length → σ'.length = σ.length → agree asg σ σ' → Same F F' → Rp K F' H' (ZE τ ρ' σ') → ExcR ce x cls d H' → Wx cls d σ' H'
def liftS (K : PySem.W.Frag) (ce : ExcT) (Wx : WX) (asg : List Nat) (t : FE → FEnds → Prop) : TS := fun D σ H => ∃ F τ ρ D0, ρ.length = σ.length ∧ Rp K F H (ZE τ ρ σ) ∧ t ρ D0 ∧ DOk K ce Wx asg F τ σ D0 D
section
variable {K : PySem.W.Frag} {ce : ExcT} {Wx : WX} {as bs : List Nat} {F F1 : Hp} {τ ω : Zs} {σ σ1 : SV} {D0 : FEnds} {D : Ends}
theorem agree.step {a b : List Nat} (ha : agree a σ σ1) (h1 : ∀ i ∈ a, i ∈ as) (h2 : ∀ i ∈ b, i ∈ as) {σ2 : SV} (hb : agree b σ1 σ2) : agree as σ σ2 := fun i hi => (hb i fun h => hi (h2 i h)).trans (ha i fun h => hi (h1 i h))
theorem DOk.step (d : DOk K ce Wx as F τ σ D0 D) {a b : List Nat} (ha : agree a σ σ1) (h1 : ∀ i ∈ a, i ∈ as) (h2 : ∀ i ∈ b, i ∈ as) (hl : σ1.length = σ.length) (hs : Same F F1) : DOk K ce Wx b F1 (ω ++ τ) σ1 D0 D where
  nx := fun ρ' F' H' σ' q l1 l2 g s R => d.nx ρ' F' H' σ' q l1 (l2.trans hl) (ha.step h1 h2 g) (Same.tr hs s) (by unfold ZE at R; rw [List.append_assoc] at R; exact R.app)
  bk := fun ρ' F' H' σ' q l1 l2 g s R => d.bk ρ' F' H' σ' q l1 (l2.trans hl) (ha.step h1 h2 g) (Same.tr hs s) (by unfold ZE at R; rw [List.append_assoc] at R; exact R.app)
  ct := fun ρ' F' H' σ' q l1 l2 g s R => d.ct ρ' F' H' σ' q l1 (l2.trans hl) (ha.step h1 h2 g) (Same.tr hs s) (by unfold ZE at R; rw [List.append_assoc] at R; exact R.app)
  rt := fun r ρ' F' H' σ' v q l1 l2 g s R => d.rt r ρ' F' H' σ' v q l1 (l2.trans hl) (ha.step h1 h2 g) (Same.tr hs s) (by unfold ZE at R; rw [List.append_assoc] at R; exact R.mid)
  ex := fun x ρ' F' H' σ' cls dd q l1 l2 g s R hx => d.ex x ρ' F' H' σ' cls dd q l1 (l2.trans hl) (ha.step h1 h2 g) (Same.tr hs s) (by unfold ZE at R; rw [List.append_assoc] at R; exact R.app) hx
theorem DOk.xok (d : DOk K ce Wx as F τ σ D0 D) : XOK K ce Wx F τ σ D0.ex := fun x ρ' F' H' cls dd q l s R hx => d.ex x ρ' F' H' σ cls dd q l rfl agree.refl s R hx
end
section
variable {X : Cx} {ce : ExcT} {Wx : WX} {G : Gm}
abbrev SSt (X : Cx) (ce : ExcT) (Wx : WX) (G : Gm) (a : S) (st : Stmt) : Prop := PS X st (liftS X.K ce Wx a.asgs (WS G a))
abbrev SSs (X : Cx) (ce : ExcT) (Wx : WX) (G : Gm) (a : S) (sts : List Stmt) : Prop := PSs X sts (liftS X.K ce Wx a.asgs (WS G a))
theorem ss_skip : SSs X ce Wx G .skip [] := PSs.imp pss_nil fun D σ H ⟨F, τ, ρ, D0, hl, R, q, d⟩ => d.nx ρ F H σ q hl rfl agree.refl (fun _ _ e => e) R
theorem ss_seq {a b : S} {st : Stmt} {rest : List Stmt} (h1 : SSt X ce Wx G a st) (h2 : SSs X ce Wx G b rest) : SSs X ce Wx G (.seq a b) (st :: rest) := by
  refine PSs.imp (pss_cons h1 h2) ?_
  rintro D σ H ⟨F, τ, ρ, D0, hl, R, q, d⟩
  refine ⟨F, τ, ρ, _, hl, R, q, ?_, ?_, ?_, ?_, ?_⟩
  · exact fun ρ' F' H' σ' q' l1 l2 g s R' => ⟨F', τ, ρ', D0, l1, R', q', d.step (ω := []) g (fun i h => List.mem_append_left _ h) (fun i h => List.mem_append_right _ h) l2 s⟩
  all_goals
    have d2 : DOk X.K ce Wx a.asgs F τ σ D0 D := d.step (ω := []) (a := []) agree.refl (fun i h => by cases h) (fun i h => List.mem_append_left _ h) rfl (fun _ _ e => e)
  · exact d2.bk
  · exact d2.ct
  · exact d2.rt
  · exact d2.ex
theorem st_pass {pos : Pos} : SSt X ce Wx G .pass (.Pass pos) := PS.imp ps_pass fun D σ H ⟨F, τ, ρ, D0, hl, R, q, d⟩ => d.nx ρ F H σ q hl rfl agree.refl (fun _ _ e => e) R
theorem st_doc {x : Str} {j : Nat} {pos pos' : Pos} : SSt X ce Wx G .pass (.Expr (.Constant (.str x) j pos) pos') := PS.imp ps_doc fun D σ H ⟨F, τ, ρ, D0, hl, R, q, d⟩ => d.nx ρ F H σ q hl rfl agree.refl (fun _ _ e => e) R
theorem st_brk {pos : Pos} : SSt X ce Wx G .brk (.Break pos) := PS.imp ps_break fun D σ H ⟨F, τ, ρ, D0, hl, R, q, d⟩ => d.bk ρ F H σ q hl rfl agree.refl (fun _ _ e => e) R
theorem st_cnt {pos : Pos} : SSt X ce Wx G .cnt (.Continue pos) := PS.imp ps_continue fun D σ H ⟨F, τ, ρ, D0, hl, R, q, d⟩ => d.ct ρ F H σ q hl rfl agree.refl (fun _ _ e => e) R
theorem st_retN {pos : Pos} : SSt X ce Wx G .retN (.Return none pos) := PS.imp ps_retN fun D σ H ⟨F, τ, ρ, D0, hl, R, q, d⟩ => d.rt _ ρ F H σ .non q hl rfl agree.refl (fun _ _ e => e) (R.consD .non)
theorem st_never {st : Stmt} : SSt X ce Wx G .never st := PS.imp ps_never fun D σ H ⟨F, τ, ρ, D0, hl, R, q, d⟩ => q.elim
theorem ss_never {sts : List Stmt} : SSs X ce Wx G .never sts := PSs.imp pss_never fun D σ H ⟨F, τ, ρ, D0, hl, R, q, d⟩ => q.elim
theorem st_ex {a : E} {e : Expr} {pos : Pos} (ha : SE X ce Wx G a e) (hc : isComp e = false) : SSt X ce Wx G (.ex a) (.Expr e pos) := by
  refine PS.imp (ps_expr ha.o (no_swap hc)) ?_
  rintro D σ H ⟨F, τ, ρ, D0, hl, R, q, d⟩
  exact ⟨F, τ, ρ, _, D0.ex, hl, R, q, fun o ρ' F' H' v q' l' s' R' a' => d.nx ρ' F' H' σ q' l' rfl agree.refl s' R'.app, d.xok⟩
theorem st_ret {a : E} {e : Expr} {pos : Pos} (ha : SE X ce Wx G a e) : SSt X ce Wx G (.ret a) (.Return (some e) pos) := by
  refine PS.imp (ps_ret ha.m) ?_
  rintro D σ H ⟨F, τ, ρ, D0, hl, R, q, d⟩
  exact ⟨F, τ, ρ, _, D0.ex, hl, R, q, fun o ρ' F' H' v q' l' s' R' => d.rt _ ρ' F' H' σ v q' l' rfl agree.refl s' R', d.xok⟩
theorem st_retv {a : E} {e : Expr} {pos : Pos} (ha : SE X ce Wx G a e) : SSt X ce Wx G (.retv a) (.Return (some e) pos) := by
  refine PS.imp (ps_ret ha.v) ?_
  rintro D σ H ⟨F, τ, ρ, D0, hl, R, q, d⟩
  exact ⟨F, τ, ρ, _, D0.ex, hl, R, q, fun o ρ' F' H' v q' l' s' R' => d.rt _ ρ' F' H' σ v q' l' rfl agree.refl s' R', d.xok⟩
theorem st_ifs {c : E} {a b : S} {e : Expr} {x y : List Stmt} {pos : Pos} (hc : SE X ce Wx G c e) (ha : SSs X ce Wx G a x) (hb : SSs X ce Wx G b y) : SSt X ce Wx G (.ifs c a b) (.If e x y pos) := by
  refine PS.imp (ps_if hc.t ha hb) ?_
  rintro D σ H ⟨F, τ, ρ, D0, hl, R, q, d⟩
  refine ⟨F, τ, ρ, _, D0.ex, hl, R, q, fun k ρ' F' H' q' l' s' R' => ?_, d.xok⟩
  cases k with
  | true =>
    rw [if_pos rfl] at q' ⊢
    exact ⟨F', τ, ρ', D0, l', R', q', d.step (ω := []) (a := []) agree.refl (fun i h => by cases h) (fun i h => List.mem_append_left _ h) rfl s'⟩
  | false =>
    rw [if_neg Bool.false_ne_true] at q' ⊢
    exact ⟨F', τ, ρ', D0, l', R', q', d.step (ω := []) (a := []) agree.refl (fun i h => by cases h) (fun i h => List.mem_append_right _ h) rfl s'⟩

/-! ### stores -/
theorem store_rs {t : T} {r : Rs} {ρ ρ' : FE} (h : t.store r ρ = some ρ') : (∃ i, t = .nm i ∧ ρ' = ρ.set i r.sl) ∨ t.put r.data ρ = some ρ' := by
  cases t with
  | nm i =>
    cases r with
    | d x => exact .inr h
    | o xs => exact .inl ⟨i, rfl, (Option.some.inj h).symm⟩
    | t xs => exact .inl ⟨i, rfl, (Option.some.inj h).symm⟩
  | tp ts =>
    cases r with
    | d x => exact .inr h
    | o xs => exact .inr h
    | t xs => exact .inr h
theorem lift_asgN {i : Nat} {te : TE} {t : FE → KQ → KX → Prop} (hte : ∀ σ H Q, liftV X.K ce Wx t σ H Q → te σ H Q) (D : Ends) (σ : SV) (H : Hp)
    (h : liftS X.K ce Wx [i] (fun ρ D => t ρ (fun r ρ1 => match (T.nm i).store r ρ1 with
      | some ρ2 => D.nx ρ2
      | none => False) D.ex) D σ H) : tAsg te (gName i) D σ H := by
  obtain ⟨F, τ, ρ, D0, hl, R, q, d⟩ := h
  refine hte σ H _ ⟨F, τ, ρ, _, D0.ex, hl, R, q, fun r ρ' F' H' v q' l' s' R' => ?_, d.xok⟩
  have e : (T.nm i).store r ρ' = some (ρ'.set i r.sl) := by cases r <;> rfl
  rw [e] at q'
  exact d.nx _ F' H' (σ.set i (some v)) q' (by simp [l']) (by simp) agree_set s' (store_nm R' l')
theorem st_asgN {i : Nat} {x : Str} {a : E} {e : Expr} {p pos : Pos} (hN : X.N.Nodup) (hi : X.N[i]? = some x) (ht : tgtB X.fn X.env.scope x = true) (ha : SE X ce Wx G a e) (hs : swapsWith e (some (.Name x p)) pos.line X.env = pure false) : SSt X ce Wx G (.asg (.nm i) a) (.Assign [.Name x p] e pos) := by
  obtain ⟨h1, h2⟩ := tgt_loc ht
  exact PS.imp (ps_set hN hi h1 ha.v hs h2) fun D σ H h => lift_asgN (fun _ _ _ z => z) D σ H h
theorem st_asgTup {ts : Ts} {a : E} {es : List Expr} {k : Nat} {e : Expr} {p pos : Pos} (hc : X.calm = true) (hN : X.N.Nodup) (ht : chkT X.N X.fn X.env.scope (.tp ts) (.Tuple es k p) = true) (ha : SE X ce Wx G a e) (hco : isComp e = false)
    (hw : swappedStores [.Tuple es k p] e X.env = pure none) : SSt X ce Wx G (.asg (.tp ts) a) (.Assign [.Tuple es k p] e pos) := by
  refine PS.imp (ps_asg ha.v (g_T hc hN _ _ ht) (no_swap (t := some (.Tuple es k p)) (l := pos.line) (env := X.env) hco) hw) ?_
  rintro D σ H ⟨F, τ, ρ, D0, hl, R, q, d⟩
  refine ⟨F, τ, ρ, _, D0.ex, hl, R, q, fun r ρ' F' H' v q' l' s' R' => ?_, d.xok⟩
  have e : (T.tp ts).store r ρ' = (T.tp ts).put r.data ρ' := by cases r <;> rfl
  rw [e] at q'
  cases e2 : (T.tp ts).put r.data ρ' with
  | none => rw [e2] at q'; exact q'.elim
  | some ρ2 =>
    rw [e2] at q'
    obtain ⟨F2, g1, g2, _⟩ := frz_one R'
    exact ⟨F2, τ, ρ', r.data, ρ2, l', g2, e2, fun σ2 k1 k2 k3 k4 => d.nx ρ2 F2 H' σ2 q' k1 k2 k3 (Same.tr s' g1) k4⟩
theorem st_asg2 {i j : Nat} {x y : Str} {as : Es} {a b : Expr} {px py pt pt2 pos : Pos} {kt k2 : Nat} (hc : X.calm = true) (hN : X.N.Nodup) (hi : X.N[i]? = some x) (hj : X.N[j]? = some y) (hij : i ≠ j) (hx : X.env.scope.names.lookup x = some .local) (hy : X.env.scope.names.lookup y = some .local)
    (ha : SndEs X ce Wx G as [a, b]) (hw : swappedStores [.Tuple [.Name x px, .Name y py] kt pt] (.Tuple [a, b] k2 pt2) X.env = pure (some [x, y])) :
    SSt X ce Wx G (.asgT (.cons (.nm i) (.cons (.nm j) .nil)) as) (.Assign [.Tuple [.Name x px, .Name y py] kt pt] (.Tuple [a, b] k2 pt2) pos) := by
  refine PS.imp (ps_par hc hN hi hj hij hx hy (pa_rs ha) hw rfl) ?_
  rintro D σ H ⟨F, τ, ρ, D0, hl, R, q, d⟩
  refine ⟨F, τ, ρ, _, D0.ex, hl, R, q, fun rs ρ' F' H' vs q' l' s' R' n' => ?_, d.xok⟩
  have st : ∀ (r1 r2 : Rs) (ρ : FE), Ts.store (.cons (.nm i) (.cons (.nm j) .nil)) [r1, r2] ρ = some ((ρ.set i r1.sl).set j r2.sl) := fun r1 r2 ρ => by cases r1 <;> cases r2 <;> rfl
  match rs, vs, n', R', q' with
  | [r1, r2], [v, w], _, R', q' =>
    rw [st] at q'
    refine ⟨v, w, rfl, d.nx _ F' H' _ q' (by simp [l']) (by simp) ?_ s' ?_⟩
    · exact fun n hn => by
        have h1 : n ≠ i := fun e => hn (by subst e; exact List.mem_cons_self)
        have h2 : n ≠ j := fun e => hn (by subst e; exact List.mem_cons_of_mem _ List.mem_cons_self)
        rw [List.getElem?_set_ne (Ne.symm h2), List.getElem?_set_ne (Ne.symm h1)]
    · have R1 : Rp X.K F' H' ((r1.sl, some v) :: ((r2.sl, some w) :: ZE τ ρ' σ)) := Rp.perm R' (List.Perm.swap _ _ _)
      have R2 : Rp X.K F' H' (ZE ((r2.sl, some w) :: τ) (ρ'.set i r1.sl) (σ.set i (some v))) := store_nm (τ := (r2.sl, some w) :: τ) R1 l'
      exact store_nm (τ := τ) R2 (by simp [l'])
  | [], _, _, _, q' => exact False.elim q'
  | [r1], _, _, _, q' =>
    exact False.elim (by
      have : Ts.store (.cons (.nm i) (.cons (.nm j) .nil)) [r1] ρ' = none := by cases r1 <;> rfl
      rw [this] at q'
      exact q')
  | r1 :: r2 :: r3 :: rs, _, _, _, q' =>
    exact False.elim (by
      have : Ts.store (.cons (.nm i) (.cons (.nm j) .nil)) (r1 :: r2 :: r3 :: rs) ρ' = none := by cases r1 <;> cases r2 <;> rfl
      rw [this] at q'
      exact q')
  | [_, _], [], n', _, _ => simp at n'
  | [_, _], [_], n', _, _ => simp at n'
  | [_, _], _ :: _ :: _ :: _, n', _, _ => simp at n'
theorem st_asg3 {i j l : Nat} {x y z : Str} {as : Es} {a b c : Expr} {px py pz pt pt2 pos : Pos} {kt k2 : Nat} (hc : X.calm = true) (hN : X.N.Nodup) (hi : X.N[i]? = some x) (hj : X.N[j]? = some y) (hk : X.N[l]? = some z) (hij : i ≠ j) (hil : i ≠ l) (hjl : j ≠ l)
    (hx : X.env.scope.names.lookup x = some .local) (hy : X.env.scope.names.lookup y = some .local) (hz : X.env.scope.names.lookup z = some .local)
    (ha : SndEs X ce Wx G as [a, b, c]) (hw : swappedStores [.Tuple [.Name x px, .Name y py, .Name z pz] kt pt] (.Tuple [a, b, c] k2 pt2) X.env = pure (some [x, y, z])) :
    SSt X ce Wx G (.asgT (.cons (.nm i) (.cons (.nm j) (.cons (.nm l) .nil))) as) (.Assign [.Tuple [.Name x px, .Name y py, .Name z pz] kt pt] (.Tuple [a, b, c] k2 pt2) pos) := by
  refine PS.imp (ps_par3 hc hN hi hj hk hij hil hjl hx hy hz (pa_rs ha) hw rfl) ?_
  rintro D σ H ⟨F, τ, ρ, D0, hl, R, q, d⟩
  refine ⟨F, τ, ρ, _, D0.ex, hl, R, q, fun rs ρ' F' H' vs q' l' s' R' n' => ?_, d.xok⟩
  have st : ∀ (r1 r2 r3 : Rs) (ρ : FE), Ts.store (.cons (.nm i) (.cons (.nm j) (.cons (.nm l) .nil))) [r1, r2, r3] ρ = some (((ρ.set i r1.sl).set j r2.sl).set l r3.sl) := fun r1 r2 r3 ρ => by cases r1 <;> cases r2 <;> cases r3 <;> rfl
  have bad : ∀ {P : Prop} (rs : List Rs), rs.length ≠ 3 → (match Ts.store (.cons (.nm i) (.cons (.nm j) (.cons (.nm l) .nil))) rs ρ' with
      | some ρ2 => D0.nx ρ2
      | none => False : Prop) → P := fun {P} rs hn q => by
    exfalso
    match rs, hn, q with
    | [], _, q => exact q
    | [r1], _, q => cases r1 <;> exact q
    | [r1, r2], _, q => cases r1 <;> cases r2 <;> exact q
    | [r1, r2, r3], hn, _ => exact hn rfl
    | r1 :: r2 :: r3 :: r4 :: rs, _, q => cases r1 <;> cases r2 <;> cases r3 <;> exact q
  by_cases h3 : rs.length = 3
  · match rs, vs, n', R', q', h3 with
    | [r1, r2, r3], [u, v, w], _, R', q', _ =>
      rw [st] at q'
      refine ⟨u, v, w, rfl, d.nx _ F' H' _ q' (by simp [l']) (by simp) ?_ s' ?_⟩
      · exact fun n hn => by
          have h1 : n ≠ i := fun e => hn (by subst e; exact List.mem_cons_self)
          have h2 : n ≠ j := fun e => hn (by subst e; exact List.mem_cons_of_mem _ List.mem_cons_self)
          have h4 : n ≠ l := fun e => hn (by subst e; exact List.mem_cons_of_mem _ (List.mem_cons_of_mem _ List.mem_cons_self))
          rw [List.getElem?_set_ne (Ne.symm h4), List.getElem?_set_ne (Ne.symm h2), List.getElem?_set_ne (Ne.symm h1)]
      · have R1 : Rp X.K F' H' ((r1.sl, some u) :: ZE ((r2.sl, some v) :: (r3.sl, some w) :: τ) ρ' σ) := by
          refine Rp.perm R' ?_
          simp only [rsZ, ZE, List.nil_append, List.append_assoc, List.cons_append]
          refine ((List.Perm.swap _ _ _).cons _).trans ?_
          refine (List.Perm.swap _ _ _).trans ?_
          exact (List.Perm.swap _ _ _).cons _
        have R2 : Rp X.K F' H' ((r2.sl, some v) :: ZE ((r3.sl, some w) :: τ) (ρ'.set i r1.sl) (σ.set i (some u))) := store_nm R1 l'
        have R3 : Rp X.K F' H' ((r3.sl, some w) :: ZE τ ((ρ'.set i r1.sl).set j r2.sl) ((σ.set i (some u)).set j (some v))) := store_nm R2 (by simp [l'])
        exact store_nm R3 (by simp [l'])
    | [_, _, _], [], n', _, _, _ => simp at n'
    | [_, _, _], [_], n', _, _, _ => simp at n'
    | [_, _, _], [_, _], n', _, _, _ => simp at n'
    | [_, _, _], _ :: _ :: _ :: _ :: _, n', _, _, _ => simp at n'
  · exact bad rs h3 q'
theorem same_updN {H : Hp} {a : Addr} {o : HO} (h : H a = none) : Same H (upd H a o) := same_upd0 h
theorem st_asg2c {i j : Nat} {x y : Str} {as : Es} {a b : Expr} {px py pt pt2 pos : Pos} {kt k2 : Nat} (hc : X.calm = true) (hN : X.N.Nodup) (hi : X.N[i]? = some x) (hj : X.N[j]? = some y) (hx : tgtB X.fn X.env.scope x = true) (hy : tgtB X.fn X.env.scope y = true)
    (ha : SndEs X ce Wx G as [a, b]) (hw : swappedStores [.Tuple [.Name x px, .Name y py] kt pt] (.Tuple [a, b] k2 pt2) X.env = pure none) :
    SSt X ce Wx G (.asgT (.cons (.nm i) (.cons (.nm j) .nil)) as) (.Assign [.Tuple [.Name x px, .Name y py] kt pt] (.Tuple [a, b] k2 pt2) pos) := by
  obtain ⟨x1, x2⟩ := tgt_loc hx
  obtain ⟨y1, y2⟩ := tgt_loc hy
  refine PS.imp (ps_asg (pe_tup (pa_rs ha)) (pg_tup hc (pgs_cons (pg_name hN hi x1 x2) (pgs_cons (pg_name hN hj y1 y2) pgs_nil)) rfl rfl) rfl hw rfl) ?_
  rintro D σ H ⟨F, τ, ρ, D0, hl, R, q, d⟩
  refine ⟨F, τ, ρ, _, D0.ex, hl, R, q, fun rs ρ' F' H' vs q' l' s' R' n' => ?_, d.xok⟩
  have st : ∀ (r1 r2 : Rs) (ρ : FE), Ts.store (.cons (.nm i) (.cons (.nm j) .nil)) [r1, r2] ρ = some ((ρ.set i r1.sl).set j r2.sl) := fun r1 r2 ρ => by cases r1 <;> cases r2 <;> rfl
  match rs, vs, n', R', q' with
  | [r1, r2], [v, w], _, R', q' =>
    rw [st] at q'
    refine ⟨show 2 ≤ sizeLine by decide, fun p hp => ⟨p, [v, w], rfl, .inl (.inl (by simp [upd])), rfl, v, [w], rfl, w, [], rfl, rfl, ?_⟩⟩
    have sm : Same H' (upd H' p (.tup [v, w])) := same_updN hp
    have R0 := Rp.grow R' (fun _ _ e => e) (Same.tr R'.sub sm) sm fun _ h => .inl h
    refine d.nx _ F' _ _ q' (by simp [l']) (by simp) ?_ s' ?_
    · exact fun n hn => by
        have h1 : n ≠ i := fun e => hn (by subst e; exact List.mem_cons_self)
        have h2 : n ≠ j := fun e => hn (by subst e; exact List.mem_cons_of_mem _ List.mem_cons_self)
        rw [List.getElem?_set_ne (Ne.symm h2), List.getElem?_set_ne (Ne.symm h1)]
    · have R1 : Rp X.K F' (upd H' p (.tup [v, w])) ((r1.sl, some v) :: ((r2.sl, some w) :: ZE τ ρ' σ)) := Rp.perm R0 (List.Perm.swap _ _ _)
      have R2 : Rp X.K F' (upd H' p (.tup [v, w])) (ZE ((r2.sl, some w) :: τ) (ρ'.set i r1.sl) (σ.set i (some v))) := store_nm (τ := (r2.sl, some w) :: τ) R1 l'
      exact store_nm (τ := τ) R2 (by simp [l'])
  | [], _, _, _, q' => exact False.elim q'
  | [r1], _, _, _, q' =>
    exact False.elim (by
      have : Ts.store (.cons (.nm i) (.cons (.nm j) .nil)) [r1] ρ' = none := by cases r1 <;> rfl
      rw [this] at q'
      exact q')
  | r1 :: r2 :: r3 :: rs, _, _, _, q' =>
    exact False.elim (by
      have : Ts.store (.cons (.nm i) (.cons (.nm j) .nil)) (r1 :: r2 :: r3 :: rs) ρ' = none := by cases r1 <;> cases r2 <;> rfl
      rw [this] at q'
      exact q')
  | [_, _], [], n', _, _ => simp at n'
  | [_, _], [_], n', _, _ => simp at n'
  | [_, _], _ :: _ :: _ :: _, n', _, _ => simp at n'
theorem st_asg3c {i j l : Nat} {x y z : Str} {as : Es} {a b c : Expr} {px py pz pt pt2 pos : Pos} {kt k2 : Nat} (hc : X.calm = true) (hN : X.N.Nodup) (hi : X.N[i]? = some x) (hj : X.N[j]? = some y) (hk : X.N[l]? = some z)
    (hx : tgtB X.fn X.env.scope x = true) (hy : tgtB X.fn X.env.scope y = true) (hz : tgtB X.fn X.env.scope z = true)
    (ha : SndEs X ce Wx G as [a, b, c]) (hw : swappedStores [.Tuple [.Name x px, .Name y py, .Name z pz] kt pt] (.Tuple [a, b, c] k2 pt2) X.env = pure none) :
    SSt X ce Wx G (.asgT (.cons (.nm i) (.cons (.nm j) (.cons (.nm l) .nil))) as) (.Assign [.Tuple [.Name x px, .Name y py, .Name z pz] kt pt] (.Tuple [a, b, c] k2 pt2) pos) := by
  obtain ⟨x1, x2⟩ := tgt_loc hx
  obtain ⟨y1, y2⟩ := tgt_loc hy
  obtain ⟨z1, z2⟩ := tgt_loc hz
  refine PS.imp (ps_asg (pe_tup (pa_rs ha)) (pg_tup hc (pgs_cons (pg_name hN hi x1 x2) (pgs_cons (pg_name hN hj y1 y2) (pgs_cons (pg_name hN hk z1 z2) pgs_nil))) rfl rfl) rfl hw rfl) ?_
  rintro D σ H ⟨F, τ, ρ, D0, hl, R, q, d⟩
  refine ⟨F, τ, ρ, _, D0.ex, hl, R, q, fun rs ρ' F' H' vs q' l' s' R' n' => ?_, d.xok⟩
  have st : ∀ (r1 r2 r3 : Rs) (ρ : FE), Ts.store (.cons (.nm i) (.cons (.nm j) (.cons (.nm l) .nil))) [r1, r2, r3] ρ = some (((ρ.set i r1.sl).set j r2.sl).set l r3.sl) := fun r1 r2 r3 ρ => by cases r1 <;> cases r2 <;> cases r3 <;> rfl
  have bad : ∀ {P : Prop} (rs : List Rs), rs.length ≠ 3 → (match Ts.store (.cons (.nm i) (.cons (.nm j) (.cons (.nm l) .nil))) rs ρ' with
      | some ρ2 => D0.nx ρ2
      | none => False : Prop) → P := fun {P} rs hn q => by
    exfalso
    match rs, hn, q with
    | [], _, q => exact q
    | [r1], _, q => cases r1 <;> exact q
    | [r1, r2], _, q => cases r1 <;> cases r2 <;> exact q
    | [r1, r2, r3], hn, _ => exact hn rfl
    | r1 :: r2 :: r3 :: r4 :: rs, _, q => cases r1 <;> cases r2 <;> cases r3 <;> exact q
  by_cases h3 : rs.length = 3
  · match rs, vs, n', R', q', h3 with
    | [r1, r2, r3], [u, v, w], _, R', q', _ =>
      rw [st] at q'
      refine ⟨show 3 ≤ sizeLine by decide, fun p hp => ⟨p, [u, v, w], rfl, .inl (.inl (by simp [upd])), rfl, u, [v, w], rfl, v, [w], rfl, w, [], rfl, rfl, ?_⟩⟩
      have sm : Same H' (upd H' p (.tup [u, v, w])) := same_updN hp
      have R0 := Rp.grow R' (fun _ _ e => e) (Same.tr R'.sub sm) sm fun _ h => .inl h
      refine d.nx _ F' _ _ q' (by simp [l']) (by simp) ?_ s' ?_
      · exact fun n hn => by
          have h1 : n ≠ i := fun e => hn (by subst e; exact List.mem_cons_self)
          have h2 : n ≠ j := fun e => hn (by subst e; exact List.mem_cons_of_mem _ List.mem_cons_self)
          have h4 : n ≠ l := fun e => hn (by subst e; exact List.mem_cons_of_mem _ (List.mem_cons_of_mem _ List.mem_cons_self))
          rw [List.getElem?_set_ne (Ne.symm h4), List.getElem?_set_ne (Ne.symm h2), List.getElem?_set_ne (Ne.symm h1)]
      · have R1 : Rp X.K F' (upd H' p (.tup [u, v, w])) ((r1.sl, some u) :: ZE ((r2.sl, some v) :: (r3.sl, some w) :: τ) ρ' σ) := by
          refine Rp.perm R0 ?_
          simp only [rsZ, ZE, List.nil_append, List.append_assoc, List.cons_append]
          refine ((List.Perm.swap _ _ _).cons _).trans ?_
          refine (List.Perm.swap _ _ _).trans ?_
          exact (List.Perm.swap _ _ _).cons _
        have R2 : Rp X.K F' (upd H' p (.tup [u, v, w])) ((r2.sl, some v) :: ZE ((r3.sl, some w) :: τ) (ρ'.set i r1.sl) (σ.set i (some u))) := store_nm R1 l'
        have R3 : Rp X.K F' (upd H' p (.tup [u, v, w])) ((r3.sl, some w) :: ZE τ ((ρ'.set i r1.sl).set j r2.sl) ((σ.set i (some u)).set j (some v))) := store_nm R2 (by simp [l'])
        exact store_nm R3 (by simp [l'])
    | [_, _, _], [], n', _, _, _ => simp at n'
    | [_, _, _], [_], n', _, _, _ => simp at n'
    | [_, _, _], [_, _], n', _, _, _ => simp at n'
    | [_, _, _], _ :: _ :: _ :: _ :: _, n', _, _, _ => simp at n'
  · exact bad rs h3 q'
theorem set_either (hu : X.A.units + 65 < cLine) : PSet X (fun o i v H Q => rSetL o i v H Q ∨ rSetN X.K o i v H Q) := by
  intro pins s σ H o i v ov iv u Q I ro ri rv h
  rcases h with h | h
  · exact set_list pins s σ H o i v ov iv u Q I ro ri rv h
  · exact set_dct hu pins s σ H o i v ov iv u Q I ro ri rv h
/-- a store into an owned list, its value plain data -/
def gSetK (K : PySem.W.Frag) (ce : ExcT) (Wx : WX) (wo : FE → (Op → FE → Prop) → KX → Prop) (i : Nat) : TG := fun v σ H Q => ∃ F τ ρ d K0 Ex, ρ.length = σ.length ∧ Rp K F H (ZE ((.d d, some v) :: τ) ρ σ) ∧ setK wo i d ρ K0 Ex ∧
  (∀ ρ' F' H', K0 ρ' → ρ'.length = σ.length → Same F F' → Rp K F' H' (ZE ((.d d, some v) :: τ) ρ' σ) → Q σ H') ∧ XOK K ce Wx F τ σ Ex
theorem pg_setK {i : Nat} {x : Str} {ix : E} {u : Expr} {px p : Pos} (hi : X.N[i]? = some x) (hv : Vis X.env.scope x) (hd : (x == ("__debug__" : Str)) = false) (hcd : (x == ("__classdict__" : Str)) = false) (hix : SE X ce Wx G ix u)
    (has : ∀ v, assign (.Subscript (.Name x px) u p) X.env v = (do
      let ov ← holding [v] (eval (.Name x px) X.env)
      let iv ← holding [v, ov] (eval u X.env)
      standAt p
      holding [v, ov, iv] (setItem ov iv v)
      release [v, ov, iv] [])) : PG X (.Subscript (.Name x px) u p) (gSetK X.K ce Wx (W G ix).o i) := by
  have pn : PE X (.Name x px) (tVar i) := pe_var hi hv hd hcd
  have pg := pg_sub pn hix.o set_list has
  refine ⟨fun pins s σ H v w Q I r ⟨F, τ, ρ, d, K0, Ex, hl, R, ⟨q0, q1⟩, hK, hE⟩ => pg.run pins s σ H v w Q I r ?_⟩
  have h0 : ∃ a1, σ[i]? = some (some (V.ref a1)) := by
    cases e0 : at_ ρ i with
    | no => rw [e0] at q0; exact q0.elim
    | h _ => rw [e0] at q0; exact q0.elim
    | d _ => rw [e0] at q0; exact q0.elim
    | o xs0 => exact let ⟨a1, _, k1, _⟩ := R.getO' hl e0; ⟨a1, k1⟩
    | t xs0 => rw [e0] at q0; exact q0.elim
  obtain ⟨a1, k1⟩ := h0
  refine ⟨.ref a1, k1, F, (.d d, some v) :: τ, ρ, _, Ex, hl, R, q1, fun y ρ2 F2 H2 w q2 l2 s2 R2 a2 => ?_, XOK.sub (ω := [_]) hE (fun _ _ e => e)⟩
  have dv := fun z h => op_view (d := z) R2 (fun p hp => hp) l2 a2 h
  cases e1 : y.get ρ2 with
  | none => rw [e1] at q2; exact q2.elim
  | some z =>
    cases e2 : at_ ρ2 i with
    | no => rw [e1, e2] at q2; cases z <;> exact q2.elim
    | h _ => rw [e1, e2] at q2; cases z <;> exact q2.elim
    | d _ => rw [e1, e2] at q2; cases z <;> exact q2.elim
    | t _ => rw [e1, e2] at q2; cases z <;> exact q2.elim
    | o xs =>
      rw [e1, e2] at q2
      cases z <;> try exact q2.elim
      case int j =>
        obtain ⟨n, n1, n2⟩ := q2
        obtain rfl := dv_int (dv _ e1)
        have R3 : Rp X.K F2 H2 (ZE ((.d d, some v) :: τ) ρ2 σ) := R2.app
        obtain ⟨a3, vs3, g1, g2, g3⟩ := R3.getO' l2 e2
        rw [k1] at g1
        cases g1
        refine ⟨a1, vs3, j, n, rfl, rfl, g2, by rw [dps_len g3]; exact n1, ?_⟩
        have d4 : DD X.K F2 v d := R3.head
        have R6 := R3.mutAt l2 e2 k1 (dps_set d4 n g3)
        exact hK _ F2 _ n2 (by simp [l2]) s2 R6
/-- x[i], x[j] = e, e a display of two -/
theorem st_setI2 {i : Nat} {x y : Str} {ix iy a : E} {u w e : Expr} {px p py q pt pos : Pos} {kt : Nat} (hc : X.calm = true) (hi : X.N[i]? = some x) (hv : Vis X.env.scope x) (hd : (x == ("__debug__" : Str)) = false) (hcd : (x == ("__classdict__" : Str)) = false) (hxy : x = y) (hix : SE X ce Wx G ix u) (hiy : SE X ce Wx G iy w) (ha : SE X ce Wx G a e) (hco : isComp e = false)
    (hw : swappedStores [.Tuple [.Subscript (.Name x px) u p, .Subscript (.Name y py) w q] kt pt] e X.env = pure none)
    (has : ∀ v, assign (.Subscript (.Name x px) u p) X.env v = (do
      let ov ← holding [v] (eval (.Name x px) X.env)
      let iv ← holding [v, ov] (eval u X.env)
      standAt p
      holding [v, ov, iv] (setItem ov iv v)
      release [v, ov, iv] []))
    (hat : ∀ v, assign (.Subscript (.Name x py) w q) X.env v = (do
      let ov ← holding [v] (eval (.Name x py) X.env)
      let iv ← holding [v, ov] (eval w X.env)
      standAt q
      holding [v, ov, iv] (setItem ov iv v)
      release [v, ov, iv] [])) : SSt X ce Wx G (.setI2 i ix iy a) (.Assign [.Tuple [.Subscript (.Name x px) u p, .Subscript (.Name y py) w q] kt pt] e pos) := by
  subst hxy
  refine PS.imp (ps_asg ha.v (pg_tup hc (pgs_cons (pg_setK (ce := ce) (Wx := Wx) hi hv hd hcd hix has) (pgs_cons (pg_setK (ce := ce) (Wx := Wx) hi hv hd hcd hiy hat) pgs_nil)) rfl rfl) (no_swap (t := some (.Tuple [.Subscript (.Name x px) u p, .Subscript (.Name x py) w q] kt pt)) (l := pos.line) (env := X.env) hco) hw) ?_
  rintro D σ H ⟨F, τ, ρ, D0, hl, R, q, d⟩
  refine ⟨F, τ, ρ, _, D0.ex, hl, R, q, fun r ρ1 F1 H1 v q1 l1 s1 R1 => ?_, d.xok⟩
  obtain ⟨F2, f1, R2, d2⟩ := frz_one (z := ZE τ ρ1 σ) R1
  cases er : r.data with
  | tuple ds =>
    rw [er] at q1 d2
    match ds, q1, d2 with
    | [d1, d2'], q1, d2 =>
      cases d2 with
      | tup h1 h2 =>
        cases h2 with
        | cons x1 h2 =>
          cases h2 with
          | cons x2 h2 =>
            cases h2
            rename_i a vA vB
            have R3 : Rp X.K F2 H1 (ZE τ ρ1 σ) := R2.tail
            refine ⟨a, [vA, vB], rfl, sqT_mono R3.sub h1, rfl, vA, [vB], rfl, F2, τ, ρ1, d1, _, D0.ex, l1, R3.consD x1, q1, fun ρ2 F3 H2 q2 l2 s2 R4 => ?_, XOK.le d.xok (Same.tr s1 f1)⟩
            have R5 : Rp X.K F3 H2 (ZE τ ρ2 σ) := R4.tail
            refine ⟨vB, [], rfl, F3, τ, ρ2, d2', _, D0.ex, l2, R5.consD (dp_mono s2 _ _ x2), q2, fun ρ3 F4 H3 q3 l3 s3 R6 => ⟨rfl, ?_⟩, XOK.le d.xok (Same.tr s1 (Same.tr f1 s2))⟩
            exact d.nx ρ3 F4 H3 σ q3 l3 rfl agree.refl (Same.tr s1 (Same.tr f1 (Same.tr s2 s3))) R6.tail
    | [], q1, _ => exact q1.elim
    | [_], q1, _ => exact q1.elim
    | _ :: _ :: _ :: _, q1, _ => exact q1.elim
  | none => rw [er] at q1; exact q1.elim
  | bool _ => rw [er] at q1; exact q1.elim
  | int _ => rw [er] at q1; exact q1.elim
  | str _ => rw [er] at q1; exact q1.elim
  | list _ => rw [er] at q1; exact q1.elim
  | dict _ => rw [er] at q1; exact q1.elim
/-- xs[i] = v -/
theorem st_setI {i : Nat} {x : Str} {ix a : E} {u e : Expr} {px p pos : Pos} (hu : X.A.units + 65 < cLine) (hi : X.N[i]? = some x) (hv : Vis X.env.scope x) (hd : (x == ("__debug__" : Str)) = false) (hcd : (x == ("__classdict__" : Str)) = false) (hix : SE X ce Wx G ix u) (ha : SE X ce Wx G a e) (hsl : isSlice u = false) (hco : isComp e = false)
    (has : ∀ v, assign (.Subscript (.Name x px) u p) X.env v = (do
      let ov ← holding [v] (eval (.Name x px) X.env)
      let iv ← holding [v, ov] (eval u X.env)
      standAt p
      holding [v, ov, iv] (setItem ov iv v)
      release [v, ov, iv] [])) : SSt X ce Wx G (.setI i ix a) (.Assign [.Subscript (.Name x px) u p] e pos) := by
  have pn : PE X (.Name x px) (tVar i) := pe_var hi hv hd hcd
  refine PS.imp (ps_asg ha.v (pg_sub pn hix.o (set_either hu) has) (no_swap (t := some (.Subscript (.Name x px) u p)) (l := pos.line) (env := X.env) hco) rfl) ?_
  rintro D σ H ⟨F, τ, ρ, D0, hl, R, q, d⟩
  refine ⟨F, τ, ρ, _, D0.ex, hl, R, q, fun r ρ1 F1 H1 v q1 l1 s1 R1 => ?_, d.xok⟩
  obtain ⟨q0, q1⟩ := q1
  have R1' : Rp X.K F1 H1 (ZE ((r.sl, some v) :: τ) ρ1 σ) := R1
  have h0 : ∃ a1, σ[i]? = some (some (V.ref a1)) := by
    cases e0 : at_ ρ1 i with
    | no => rw [e0] at q0; exact q0.elim
    | h _ => rw [e0] at q0; exact q0.elim
    | d _ => rw [e0] at q0; exact q0.elim
    | o xs0 => exact let ⟨a1, _, k1, _⟩ := R1'.getO' l1 e0; ⟨a1, k1⟩
    | t xs0 => exact let ⟨a1, k1, _⟩ := R1'.getT' l1 e0; ⟨a1, k1⟩
  obtain ⟨a1, k1⟩ := h0
  refine ⟨.ref a1, k1, F1, (r.sl, some v) :: τ, ρ1, _, D0.ex, l1, R1, q1, fun y ρ2 F2 H2 w q2 l2 s2 R2 a2 => ?_, XOK.sub (ω := [_]) d.xok s1⟩
  have dv := fun z h => op_view (d := z) R2 (fun p hp => hp) l2 a2 h
  cases e1 : y.get ρ2 with
  | none => rw [e1] at q2; exact q2.elim
  | some z =>
    cases e2 : at_ ρ2 i with
    | no => rw [e1, e2] at q2; cases z <;> exact q2.elim
    | h _ => rw [e1, e2] at q2; cases z <;> exact q2.elim
    | d _ => rw [e1, e2] at q2; cases z <;> exact q2.elim
    | o xs =>
      rw [e1, e2] at q2
      cases z <;> try exact q2.elim
      case int j =>
        obtain ⟨n, n1, n2⟩ := q2
        obtain rfl := dv_int (dv _ e1)
        have R3 : Rp X.K F2 H2 (ZE ((r.sl, some v) :: τ) ρ2 σ) := R2.app
        obtain ⟨a3, vs3, g1, g2, g3⟩ := R3.getO' l2 e2
        rw [k1] at g1
        cases g1
        refine .inl ⟨a1, vs3, j, n, rfl, rfl, g2, by rw [dps_len g3]; exact n1, ?_⟩
        obtain ⟨F4, f1, R4, d4⟩ := frz_one (z := ZE τ ρ2 σ) R3
        have R5 : Rp X.K F4 H2 (ZE τ ρ2 σ) := R4.tail
        have R6 := R5.mutAt l2 e2 k1 (dps_set d4 n (dps_mono f1 _ _ g3))
        exact d.nx _ F4 _ σ n2 (by simp [l2]) rfl agree.refl (Same.tr s1 (Same.tr s2 f1)) R6
    | t kvs =>
      rw [e1, e2] at q2
      replace q2 : keyOk z = true ∧ scalar r.data = true ∧ kvs.length < sizeLine ∧ D0.nx (ρ2.set i (.t (dputK kvs z r.data))) := by cases z <;> exact q2
      obtain ⟨n1, n2, n3, n4⟩ := q2
      have R3 : Rp X.K F2 H2 (ZE ((r.sl, some v) :: τ) ρ2 σ) := R2.app
      have hz : DD X.K F2 w z := by
        obtain ⟨_, _, ks, rfl⟩ := keyOk_kd n1
        exact dv _ e1
      obtain ⟨F4, f1, R4, d4⟩ := frz_one (z := ZE τ ρ2 σ) R3
      have R5 : Rp X.K F4 H2 (ZE τ ρ2 σ) := R4.tail
      obtain ⟨a3, g1, g2, o3, xs3, g3, g4, g5⟩ := R5.getT' l2 e2
      rw [k1] at g1
      cases g1
      subst g5
      obtain ⟨kz, _, ks, ez⟩ := keyOk_kd n1
      subst ez
      obtain ⟨rfl, _⟩ := dd_sc d4 n2
      have kd4 : KD X.K F4 w (.tuple ks) := dd_kd _ _ (dp_mono f1 _ _ hz) kz
      have kd4' := kd4
      cases kd4' with
      | @tup b _ _ _ _ =>
        refine .inr ⟨a1, o3, xs3, b, .tuple ks, r.data, rfl, g3, fun y hy => kd_mono R5.sub _ _ (g4 y hy), rfl, kd_mono R5.sub _ _ kd4, n1, n2, rfl, by simpa [kvsOf] using n3, fun o' => ?_⟩
        have R6 := R5.mutAtT (o' := o') (xs' := xput xs3 (.tuple ks) b r.data) l2 e2 k1 (xput_all (P := fun z => KD X.K F4 (.ref z.2.1) z.1) g4 kd4 fun x hx => hx)
        rw [xput_kvs] at R6
        exact d.nx _ F4 _ σ n4 (by simp [l2]) rfl agree.refl (Same.tr s1 (Same.tr s2 f1)) R6
/-! ### += -/
theorem ip_list : PIp X .Add rExt2 := iop_ext
theorem st_aug {i : Nat} {x : Str} {f : PF} {op : Operator} {a : E} {e : Expr} {px pos : Pos} (hN : X.N.Nodup) (hi : X.N[i]? = some x) (ht : tgtB X.fn X.env.scope x = true) (ha : SE X ce Wx G a e) (ho : (f = .add ∧ op = .Add) ∨ (f = .sub ∧ op = .Sub)) :
    SSt X ce Wx G (.aug i f a) (.AugAssign (.Name x px) op e pos) := by
  obtain ⟨h1, h2⟩ := tgt_loc ht
  have ip : PIp X op (fun x y H Q => (ipI (fun i j => if f = .add then i + j else i - j) x y H Q) ∨ (f = .add ∧ (rExt2 x y H Q ∨ ∃ a b, x = .str a ∧ y = .str b ∧ a.length + b.length ≤ sizeLine ∧ Q (.str (a ++ b)) H))) := by
    intro pins s σ H x y v u Q I rx ry h
    rcases h with h | ⟨rfl, h⟩
    · rcases ho with ⟨rfl, rfl⟩ | ⟨rfl, rfl⟩
      · exact ip_add pins s σ H x y v u Q I rx ry h
      · exact ip_sub pins s σ H x y v u Q I rx ry h
    · rcases ho with ⟨_, rfl⟩ | ⟨h1, _⟩
      · rcases h with h | h
        · exact ip_list pins s σ H x y v u Q I rx ry h
        · exact iop_add_str pins s σ H x y v u Q I rx ry h
      · cases h1
  refine PS.imp (ps_aug hN hi h1 ha.o ip h2) ?_
  rintro D σ H ⟨F, τ, ρ, D0, hl, R, q, d⟩
  rw [WS] at q
  cases e0 : at_ ρ i with
  | no => rw [e0] at q; exact q.elim
  | h _ => rw [e0] at q; exact q.elim
  | t z => rw [e0] at q; exact q.elim
  | d z =>
    rw [e0] at q
    obtain ⟨v, k1, k2⟩ := R.getD hl e0
    cases z <;> try exact q.elim
    case int m =>
      refine ⟨v, k1, F, τ, ρ, _, D0.ex, hl, R, q, fun y ρ1 F1 H1 w q1 l1 s1 R1 a1 => ?_, d.xok⟩
      have dv := fun z h => op_view (d := z) R1 (fun p hp => hp) l1 a1 h
      cases e1 : y.get ρ1 with
      | none => rw [e1] at q1; exact q1.elim
      | some p =>
        rw [e1] at q1
        have hz : ∃ n : Int, p = .int n ∧ D0.nx (ρ1.set i (.d (.int (if f = .add then m + n else m - n)))) := by
          rcases ho with ⟨rfl, _⟩ | ⟨rfl, _⟩
          · cases p <;> first
              | exact ⟨_, rfl, q1⟩
              | exact False.elim q1
          · cases p <;> first
              | exact ⟨_, rfl, q1⟩
              | exact False.elim q1
        obtain ⟨n, rfl, q2⟩ := hz
        cases k2
        obtain rfl := dv_int (dv _ e1)
        refine .inl ⟨m, n, rfl, rfl, d.nx _ F1 H1 _ q2 (by simp [l1]) (by simp) agree_set s1 ?_⟩
        exact store_nm (R1.app.consD (.int _)) l1
    case str z =>
      obtain ⟨hf, q⟩ := q
      subst hf
      refine ⟨v, k1, F, τ, ρ, _, D0.ex, hl, R, q, fun y ρ1 F1 H1 w q1 l1 s1 R1 a1 => ?_, d.xok⟩
      have dv := fun z h => op_view (d := z) R1 (fun p hp => hp) l1 a1 h
      cases e1 : y.get ρ1 with
      | none => rw [e1] at q1; exact q1.elim
      | some p =>
        rw [e1] at q1
        cases p <;> try exact False.elim q1
        case str t =>
          obtain ⟨n1, n2⟩ := q1
          cases k2
          obtain rfl := dv_str (dv _ e1)
          refine .inr ⟨rfl, .inr ⟨z, t, rfl, rfl, n1, d.nx _ F1 H1 _ n2 (by simp [l1]) (by simp) agree_set s1 ?_⟩⟩
          exact store_nm (R1.app.consD (.str _)) l1
  | o xs0 =>
    rw [e0] at q
    obtain ⟨hf, q9⟩ := q
    subst hf
    obtain ⟨a1, vs1, k1, k2, _⟩ := R.getO' hl e0
    refine ⟨.ref a1, k1, F, τ, ρ, _, D0.ex, hl, R, q9, fun y ρ1 F1 H1 w q1 l1 s1 R1 aa1 => ?_, d.xok⟩
    have dv := fun z h => op_view (d := z) R1 (fun p hp => hp) l1 aa1 h
    cases e1 : y.get ρ1 with
    | none => rw [e1] at q1; exact q1.elim
    | some p =>
      cases e2 : at_ ρ1 i with
      | no => rw [e1, e2] at q1; cases p <;> exact q1.elim
      | h _ => rw [e1, e2] at q1; cases p <;> exact q1.elim
      | d _ => rw [e1, e2] at q1; cases p <;> exact q1.elim
      | t _ => rw [e1, e2] at q1; cases p <;> exact q1.elim
      | o xs =>
        rw [e1, e2] at q1
        cases p <;> try exact q1.elim
        case list ys =>
          obtain ⟨n1, n2⟩ := q1
          obtain ⟨b, ws, rfl, b1, b2⟩ := dv _ e1
          have R2 : Rp X.K F1 H1 (ZE τ ρ1 σ) := R1.app
          obtain ⟨a3, vs3, g1, g2, g3⟩ := R2.getO' l1 e2
          rw [k1] at g1
          cases g1
          refine .inr ⟨rfl, .inl ⟨a1, b, vs3, ws, rfl, rfl, g2, b1, by rw [dps_len g3, dps_len b2]; exact n1, ?_⟩⟩
          have R3 := R2.mutAt l1 e2 k1 (dps_app g3 b2)
          have es : σ.set i (some (V.ref a1)) = σ := set_same k1
          show D.nx (σ.set i (some (V.ref a1))) _
          rw [es]
          exact d.nx _ F1 _ σ n2 (by simp [l1]) rfl agree.refl s1 R3
/-! ### loops -/
theorem st_whl {c : E} {b : S} {e : Expr} {x : List Stmt} {pos : Pos} (hp : PassesOwn (model X.prog X.w) X.A X.env X.xe) (hc : SE X ce Wx G c e) (hb : SSs X ce Wx G b x) : SSt X ce Wx G (.whl c b) (.While e x [] pos) := by
  refine PS.imp (ps_while hp hc.t hb) ?_
  rintro D σ H ⟨F, τ, ρ, D0, hl, R, q, d⟩
  obtain ⟨J, ⟨n0, j0⟩, q⟩ := q
  refine ⟨fun n σ' H' => ∃ F' ρ', ρ'.length = σ'.length ∧ σ'.length = σ.length ∧ agree b.asgs σ σ' ∧ Same F F' ∧ Rp X.K F' H' (ZE τ ρ' σ') ∧ J n ρ', ⟨n0, F, ρ, hl, rfl, agree.refl, fun _ _ e => e, R, j0⟩, ?_⟩
  rintro n σ1 H1 ⟨F1, ρ1, l1, l1', a1, s1, R1, j1⟩
  have d1 : DOk X.K ce Wx b.asgs F1 τ σ1 D0 D := d.step (ω := []) a1 (fun i h => h) (fun i h => h) l1' s1
  refine ⟨F1, τ, ρ1, _, D0.ex, l1, R1, q n ρ1 j1, fun k ρ2 F2 H2 q2 l2 s2 R2 => ?_, d1.xok⟩
  have d2 : DOk X.K ce Wx b.asgs F2 τ σ1 D0 D := d1.step (ω := []) (a := []) agree.refl (fun i h => by cases h) (fun i h => h) rfl s2
  cases k with
  | true =>
    rw [if_pos rfl] at q2
    show (if true = true then _ else _)
    rw [if_pos rfl]
    refine ⟨fun σ3 H3 => ∃ m, m < n ∧ ∃ F' ρ', ρ'.length = σ3.length ∧ σ3.length = σ.length ∧ agree b.asgs σ σ3 ∧ Same F F' ∧ Rp X.K F' H3 (ZE τ ρ' σ3) ∧ J m ρ', fun σ3 H3 ⟨m, hm, z⟩ => ⟨m, hm, z⟩, F2, τ, ρ2, _, l2, R2, q2, ?_⟩
    have again : ∀ ρ' F' H' σ', (∃ m, m < n ∧ J m ρ') → ρ'.length = σ'.length → σ'.length = σ1.length → agree b.asgs σ1 σ' → Same F2 F' → Rp X.K F' H' (ZE τ ρ' σ') → ∃ m, m < n ∧ ∃ F'' ρ', ρ'.length = σ'.length ∧ σ'.length = σ.length ∧ agree b.asgs σ σ' ∧ Same F F'' ∧ Rp X.K F'' H' (ZE τ ρ' σ') ∧ J m ρ' :=
      fun ρ' F' H' σ' ⟨m, hm, hj⟩ l3 l3' a3 s3 R3 => ⟨m, hm, F', ρ', l3, l3'.trans l1', a1.step (fun i h => h) (fun i h => h) a3, Same.tr s1 (Same.tr s2 s3), R3, hj⟩
    exact ⟨again, d2.nx, again, d2.rt, d2.ex⟩
  | false =>
    rw [if_neg Bool.false_ne_true] at q2
    show (if false = true then _ else _)
    rw [if_neg Bool.false_ne_true]
    exact d2.nx ρ2 F2 H2 σ1 q2 l2 rfl agree.refl (fun _ _ e => e) R2
theorem lk_free {lk : Lk} {vs : List Nat} (h : lkFree lk vs = true) : ∀ p ∈ lk, p.1 ∉ vs := fun p hp => by
  have := List.all_eq_true.mp h p hp
  simpa using this
theorem st_fr {t : T} {it : I} {b : S} {tg iter : Expr} {x : List Stmt} {pos : Pos} (hp : PassesOwn (model X.prog X.w) X.A X.env X.xe) (hc : X.calm = true) (hi : PI X tg iter (liftI X.K ce Wx (WI G it))) (hg : PG X tg (gL X.K t)) (hb : SSs X ce Wx G b x) (hs : isSet iter = false) :
    SSt X ce Wx G (.fr t it b) (.For tg iter x [] pos) := by
  refine PS.imp (ps_for hp hc hi hg hb fun _ => noset hs) ?_
  rintro D σ H ⟨F, τ, ρ, D0, hl, R, q, d⟩
  refine ⟨F, τ, ρ, _, D0.ex, hl, R, q, fun xs lk ρ1 F1 H1 J ω q1 l1 s1 R1 lk1 wk => ?_, d.xok⟩
  obtain ⟨hfree, q1⟩ := q1
  have hfree := lk_free hfree
  have d1 : DOk X.K ce Wx (t.vars ++ b.asgs) F1 (ω ++ τ) σ D0 D := d.step (a := []) agree.refl (fun i h => by cases h) (fun i h => h) rfl s1
  have lks : ∀ {σ' : SV}, agree (t.vars ++ b.asgs) σ σ' → ∀ p ∈ lk, σ'[p.1]? = σ[p.1]? := fun {σ'} h p hp => h p.1 (hfree p hp)
  refine ⟨fun i m σ2 H2 => m = xs.length - i ∧ i ≤ xs.length ∧ ∃ F2 ρ2, ρ2.length = σ2.length ∧ σ2.length = σ.length ∧ agree (t.vars ++ b.asgs) σ σ2 ∧ Same F1 F2 ∧ Rp X.K F2 H2 (ω ++ ZE τ ρ2 σ2) ∧ lkOk lk ρ2 ∧
    forL lk t.put (fun ρ K => (WS G b) ρ { nx := K, ct := K, bk := D0.nx, rt := D0.rt, ex := D0.ex }) D0.nx (xs.drop i) ρ2, ⟨xs.length, by simp, Nat.zero_le _, F1, ρ1, l1, rfl, agree.refl, fun _ _ e => e, R1, lk1, by simpa using q1⟩, ?_⟩
  rintro i m σ2 H2 ⟨rfl, hi2, F2, ρ2, l2, l2', a2, s2, R2, lk2, q2⟩
  have wk2 := wk F2 H2 τ ρ2 σ2 s2 l2 R2 lk2 (lks a2)
  by_cases hlt : i < xs.length
  · have hx : xs[i]? = some xs[i] := List.getElem?_eq_getElem hlt
    have hdrop : xs.drop i = xs[i] :: xs.drop (i + 1) := by rw [List.drop_eq_getElem_cons hlt]
    obtain ⟨go, yl⟩ := wk2.1 i _ hx
    rw [hdrop] at q2
    refine .inr ⟨go, fun σ' H' => ∃ F' ρ', ρ'.length = σ'.length ∧ σ'.length = σ.length ∧ agree (t.vars ++ b.asgs) σ σ' ∧ Same F1 F' ∧ Rp X.K F' H' (ω ++ ZE τ ρ' σ') ∧ lkOk lk ρ' ∧
      forL lk t.put (fun ρ K => (WS G b) ρ { nx := K, ct := K, bk := D0.nx, rt := D0.rt, ex := D0.ex }) D0.nx (xs.drop (i + 1)) ρ', fun σ' H' z => ⟨xs.length - (i + 1), by omega, rfl, hlt, z⟩, fun v H' hy => ?_⟩
    obtain ⟨F3, s3, R3⟩ := R2.made (yl v H' hy)
    have q3 := q2
    rw [forL] at q3
    cases ep : t.put xs[i] ρ2 with
    | none => rw [ep] at q3; exact q3.elim
    | some ρ4 =>
      rw [ep] at q3
      refine ⟨F3, ω ++ τ, ρ2, xs[i], ρ4, l2, by simpa [ZE, Rs.sl] using R3, ep, fun σ5 l5 l5' a5 R5 => ?_⟩
      have a5' : agree (t.vars ++ b.asgs) σ σ5 := a2.step (fun i h => h) (fun i h => List.mem_append_left _ h) a5
      have d5 : DOk X.K ce Wx b.asgs F3 (ω ++ τ) σ5 D0 D := d1.step (ω := []) a5' (fun i h => h) (fun i h => List.mem_append_right _ h) (l5'.trans l2') (Same.tr s2 s3)
      refine ⟨F3, ω ++ τ, ρ4, _, l5, R5, q3, ?_⟩
      have again : ∀ ρ' F' H' σ', (lkOk lk ρ' ∧ forL lk t.put (fun ρ K => (WS G b) ρ { nx := K, ct := K, bk := D0.nx, rt := D0.rt, ex := D0.ex }) D0.nx (xs.drop (i + 1)) ρ') → ρ'.length = σ'.length → σ'.length = σ5.length → agree b.asgs σ5 σ' → Same F3 F' → Rp X.K F' H' (ZE (ω ++ τ) ρ' σ') →
          ∃ F' ρ', ρ'.length = σ'.length ∧ σ'.length = σ.length ∧ agree (t.vars ++ b.asgs) σ σ' ∧ Same F1 F' ∧ Rp X.K F' H' (ω ++ ZE τ ρ' σ') ∧ lkOk lk ρ' ∧
            forL lk t.put (fun ρ K => (WS G b) ρ { nx := K, ct := K, bk := D0.nx, rt := D0.rt, ex := D0.ex }) D0.nx (xs.drop (i + 1)) ρ' :=
        fun ρ' F' H' σ' q6 l6 l6' a6 s6 R6 => ⟨F', ρ', l6, l6'.trans (l5'.trans l2'), a5'.step (fun i h => h) (fun i h => List.mem_append_right _ h) a6, Same.tr s2 (Same.tr s3 s6), by simpa [ZE] using R6, q6.1, q6.2⟩
      exact ⟨again, d5.nx, again, d5.rt, d5.ex⟩
  · have hi3 : i = xs.length := by omega
    subst hi3
    have e0 : xs.drop xs.length = [] := List.drop_length
    rw [e0] at q2
    have q2 : D0.nx ρ2 := q2
    exact .inl ⟨wk2.2, d1.nx ρ2 F2 H2 σ2 q2 l2 l2' a2 s2 (by simpa [ZE] using R2)⟩
end
end FX
set_option maxHeartbeats 2000000
namespace FX
variable [Wc]
open PySem PySem.Spec PyProof.Rows L2
/-! ### repr of a display: the names in it stay what they are -/
mutual
theorem dpe_mono {K : PySem.W.Frag} {H H' : Hp} (e : Same H H') : ∀ (d : PyData) (v : V), Dp K H v d → Dp K H' v d
  | .none, _, h => by cases h; exact .non
  | .bool b, _, h => by cases h; exact .bl b
  | .int i, _, h => by cases h; exact .int i
  | .str s, _, h => by cases h; exact .str s
  | .list xs, _, h => by
    cases h with
    | lst hs ha => exact .lst (e.seq hs) (dpes_mono e xs _ ha)
  | .tuple xs, _, h => by
    cases h with
    | tup hs ha => exact .tup (sqT_mono e hs) (dpes_mono e xs _ ha)
  | .dict _, _, h => by cases h
theorem dpes_mono {K : PySem.W.Frag} {H H' : Hp} (e : Same H H') : ∀ (ds : List PyData) (vs : List V), DpAll K H vs ds → DpAll K H' vs ds
  | [], _, h => by cases h; exact .nil
  | d :: ds, _, h => by
    cases h with
    | cons h1 h2 => exact .cons (dpe_mono e d _ h1) (dpes_mono e ds _ h2)
end
theorem dv_monoH {K : PySem.W.Frag} {F H H' : Hp} (e : Same H H') : ∀ {d : PyData} {v : V}, DV K F H v d → DV K F H' v d
  | .list xs, _, ⟨a, vs, h1, h2, h3⟩ => ⟨a, vs, h1, e _ _ h2, h3⟩
  | .dict kvs, _, .inl h => .inl h
  | .dict kvs, _, .inr ⟨a, h1, o, xs, h2, h3, h4⟩ => .inr ⟨a, h1, o, xs, e _ _ h2, h3, h4⟩
  | .none, _, h => h
  | .bool _, _, h => h
  | .int _, _, h => h
  | .str _, _, h => h
  | .tuple _, _, h => h
theorem dvs_monoH {K : PySem.W.Frag} {F H H' : Hp} (e : Same H H') : ∀ {ds : List PyData} {vs : List V}, DVs K F H vs ds → DVs K F H' vs ds
  | [], [], h => h
  | d :: ds, v :: vs, h => ⟨dv_monoH e h.1, dvs_monoH e h.2⟩
  | [], _ :: _, h => False.elim h
  | _ :: _, [], h => False.elim h
theorem dvs_rk {X : Cx} {pins : List (Addr × Obj)} {σ : L2.St} {F H : Hp} {s : Shared} (I : Inv X pins σ H s) (hs : Same F H) : ∀ (ds : List PyData) (vs : List V) (us : List Value), DVs X.K F H vs ds → badDs ds = false → Vals vs us → PyData.showableAll ds = true → (∀ d ∈ ds, d.shown.length ≤ sizeLine) → RkA X s.heap us ds
  | [], [], _, _, _, r, _, _ => by
    cases r
    exact rk_nil
  | d :: ds, v :: vs, _, h, e, r, sh, hz => by
    rw [badDs, Bool.or_eq_false_iff] at e
    rw [PyData.showableAll, Bool.and_eq_true] at sh
    cases r with
    | cons r1 r2 => exact rk_cons (dv_rk I hs h.1 e.1 r1 sh.1 (hz d List.mem_cons_self)) (dvs_rk I hs ds _ _ h.2 e.2 r2 sh.2 fun x hx => hz x (List.mem_cons_of_mem _ hx))
  | [], _ :: _, _, h, _, _, _, _ => False.elim h
  | _ :: _, [], _, h, _, _, _, _ => False.elim h
theorem dvs_len {K : PySem.W.Frag} {F H : Hp} : ∀ {ds : List PyData} {vs : List V}, DVs K F H vs ds → vs.length = ds.length
  | [], [], _ => rfl
  | d :: ds, v :: vs, h => by simp [dvs_len h.2]
  | [], _ :: _, h => False.elim h
  | _ :: _, [], h => False.elim h
def rReprD (K : PySem.W.Frag) (xs : List V) (H : Hp) (Q : VK) : Prop := ∃ (F : Hp) (a : Addr) (ws : List V) (ds : List PyData), xs = [.ref a] ∧ Same F H ∧ H a = some (.lst ws) ∧ DVs K F H ws ds ∧ PyData.showable (.list ds) = true ∧ badD (.list ds) = false ∧ (PyData.list ds).shown.length ≤ sizeLine ∧ (PyData.list ds).depth ≤ 60 ∧ Q (.str (PyData.list ds).shown) H
section
variable {X : Cx} {ce : ExcT} {Wx : WX} {G : Gm}
theorem k_reprD (hg : X.A.guards = some []) (hu : X.A.units + 64 < cLine) : CallR X (.builtin "repr") (rReprD X.K) := by
  intro pins s σ H xs us Q I r h
  obtain ⟨F, a, ws, ds, rfl, hs, ha, hd, h1, h2, h3, h4, h5⟩ := h
  obtain ⟨u, rfl, rx⟩ := vals1 r
  cases (show u = Value.ref a from rx)
  obtain ⟨its, rv, ⟨o, n, ho, hc, _, hdt⟩, _⟩ := I.list (.inl (.inl ha))
  obtain ⟨_, _, _, _, _, top⟩ := rk_list ho hc hdt h3 (dvs_rk I hs ds _ its hd (by simpa [badD] using h2) rv (by simpa [PyData.showable] using h1) (shown_list h3))
  exact top _ _ _ _ hg hu h4 (fun _ _ e => e) fun h' t tk kp => ⟨.str (PyData.list ds).shown, H, I.kept kp, ⟨t, rfl⟩, h5⟩
theorem s_reprL {as : Es} {x : Str} {es : List Expr} {p p2 pos : Pos} (hgd : X.A.guards = some []) (hu : X.A.units + 64 < cLine) (hg : Gl X x) (hm : X.mg x = none) (hv : bootBuiltins x = some (.builtin "repr")) (hn : x ≠ "__name__") (hdb : (x == ("__debug__" : Str)) = false)
    (ha : SndEs X ce Wx G as es) : SE X ce Wx G (.reprL as) (.Call (.Name x p) [.List es p2] [] pos) := by
  refine sm_ofV rfl rfl (PE.imp (pe_callB (k_reprD hgd hu) hg hm hv (pa_cons (pe_lst (pa_os ha)) pa_nil (star_cons rfl)) hn hdb (star_cons rfl) rfl) ?_)
  rintro σ H Q ⟨F, τ, ρ, Q0, E0, hl, R, q, hQ, hE⟩
  refine ⟨F, τ, ρ, _, E0, hl, R, q, fun os ρ1 F1 H1 vs q1 l1 s1 R1 a1 => ?_, hE⟩
  obtain ⟨n1, q1⟩ := q1
  cases e : gets ρ1 os with
  | none => rw [e] at q1; exact q1.elim
  | some ds =>
    rw [e] at q1
    obtain ⟨h1, h2, h3, h4, h5⟩ := q1
    have dv := ops_view R1 (fun p hp => hp) l1 a1 e
    have hl2 : vs.length = os.length := by
      have : ∀ {os : List Op} {vs : List V}, opsAt σ os vs → vs.length = os.length := by
        intro os
        induction os with
        | nil => intro vs h; cases vs with
          | nil => rfl
          | cons _ _ => exact False.elim h
        | cons o os ih => intro vs h; cases vs with
          | nil => exact False.elim h
          | cons v vs => simp [ih h.2]
      exact this a1
    refine ⟨by rw [hl2]; exact n1, fun p hp => ?_⟩
    have sm : Same H1 (upd H1 p (.lst vs)) := same_upd0 hp
    refine ⟨F1, p, vs, ds, rfl, Same.tr R1.sub sm, upd_same, dvs_monoH sm dv, h1, h2, h3, h4, ?_⟩
    have mk : Made X.K F1 H1 (.d (.str (PyData.list ds).shown)) (.str (PyData.list ds).shown) (upd H1 p (.lst vs)) := ⟨F1, fun _ _ e => e, Same.tr R1.sub sm, sm, fun a h => .inl h, .str _⟩
    obtain ⟨F2, f1, R2⟩ := R1.made mk
    refine hQ _ ρ1 F2 _ _ h5 l1 (Same.tr s1 f1) ?_
    exact Rp.mid R2
def kOf : PyData → L2.Key
  | .int i => .inl i
  | .str x => .inr x
  | _ => .inl 0
theorem kOf_eq {k : PyData} {n : Int} (h : litk [(k, .int n)] = true) : kDk (kOf k) = k := by
  cases k <;> first | rfl | cases h
theorem s_litD {k : PyData} {n : Int} {kc : Const} {j1 j2 : Nat} {p1 p2 pos : Pos} (hk : PE X (.Constant kc j1 p1) (tC (kV (kOf k)))) : SE X ce Wx G (.litD k n) (.Dict [some (.Constant kc j1 p1)] [.Constant (.int n) j2 p2] pos) := by
  refine sm_ofV rfl rfl (PE.imp (pe_disp (pps_cons hk pe_int pps_nil) rfl rfl (by simp) (by simp)) ?_)
  rintro σ H Q ⟨F, τ, ρ, Q0, E0, hl, R, q, hQ, hE⟩ p hp
  refine ⟨by show upd H p (.dK []) p = _; exact upd_same, [(kOf k, .int n)], rfl, by simp, ?_⟩
  have he : litk [(k, .int n)] = true ∧ Q0 (.d (.dict [(k, .int n)])) ρ := q
  rw [upd_upd]
  have hF : F p = none := by
    cases q : F p with
    | none => rfl
    | some o => rw [R.sub _ _ q] at hp; cases hp
  have mk : Made X.K F H (.d (.dict [(k, .int n)])) (.ref p) (upd H p (.dK [(kOf k, .int n)])) := by
    refine ⟨upd F p (.dK [(kOf k, .int n)]), same_upd0 hF, same_both R.sub, same_upd0 hp, fun a h => ?_, .lit (kOf k) n upd_same (by rw [kOf_eq he.1])⟩
    by_cases e : a = p
    · exact .inr (by rw [e]; exact hp)
    · rw [upd_ne e] at h
      exact .inl h
  obtain ⟨F2, s2, R2⟩ := R.made mk
  exact hQ _ ρ F2 _ _ he.2 hl s2 R2
/-! ### len(set(xs)) -/
def tLenS (K : PySem.W.Frag) (ta : TE) : TE := fun σ H Q => ta σ H fun x H1 => ∃ (l : Addr) (ns : List Int), x = V.ref l ∧ SqL K H1 l (ns.map V.int) ∧ ns.length ≤ 4000 ∧ Q (.int ((dedI ns).length : Nat)) H1
theorem ded_met (ns : List Int) : PyProof.Rows.firstMet (fun i => ns.getD i 0) ns.length = dedI ns := by
  unfold PyProof.Rows.firstMet dedI
  have : (List.range ns.length).map (fun i => ns.getD i 0) = ns := by
    refine List.ext_getElem (by simp) fun i h1 h2 => ?_
    rw [List.getElem_map, List.getElem_range, List.getD_eq_getElem?_getD, List.getElem?_eq_getElem h2]
    rfl
  rw [this]
  rfl
theorem ints_vals : ∀ {ns : List Int} {us : List Value}, Vals (ns.map V.int) us → PyProof.Rows.IntsAre us ns
  | [], _, .nil => .nil
  | n :: ns, _, .cons r t => by
    obtain ⟨k, rfl⟩ := r
    exact .cons n k (ints_vals t)
theorem pe_lenS {a : Expr} {ta : TE} {p p2 q pos : Pos} (hc : X.calm = true) (hg : Gl X "len") (hm : X.mg "len" = none) (hg2 : Gl X "set") (hm2 : X.mg "set" = none) (ha : PE X a ta)
    (na : starEach [a] X.env = (false, eval a X.env) :: starEach [] X.env) : PE X (.Call (.Name "len" p) [.Call (.Name "set" p2) [a] [] q] [] pos) (tLenS X.K ta) := by
  refine ⟨fun pins s σ H Q I h => ?_⟩
  refine Call_ (ld_blt I hg hm PySem.boot_len ?_)
  refine PyProof.Rows.callWith_builtin1 (PyProof.Rows.args_cons ?_ rfl) rfl rfl
  refine Call_ (ld_blt I hg2 hm2 PyProof.Rows.boot_set ?_)
  refine PyProof.Rows.callWith_type1 (PyProof.Rows.args_cons (thn (ha.run pins s σ H _ I h) fun v s1 ⟨x, H1, I1, r1, q1⟩ => PyProof.Rows.args_nil ?_) na) na rfl
  obtain ⟨l, ns, rfl, hq, h1, q1⟩ := q1
  cases r1
  obtain ⟨its, r, pl, hz⟩ := I1.list hq
  have hl : its.toArray.size = ns.length := by rw [List.size_toArray, ← r.length, List.length_map]
  refine call_set_list (I1.ok.hd hc) pl.isList (ns := ns) (by simpa using ints_vals r) (by rw [hl]; unfold scanBound; omega) fun h' tk hS hk => ?_
  have hle := PyProof.Rows.firstMet_length_le (fun i => ns.getD i 0) ns.length
  rw [hl, ded_met] at hS
  rw [ded_met] at hle
  refine PyProof.Rows.args_nil ?_
  obtain ⟨o, es, ep, t, ho, hex, hd, _, _, _, hf, hn⟩ := hS
  have I2 : Inv X pins σ H1 { s1 with heap := h', toks := tk } := I1.kept fun b o e => hk b o (Heap.lt_size e) e
  refine call_len_set ho hex hd hf (by rw [hn] <;> omega) ⟨.int ((dedI ns).length : Nat), H1, I2.tok _, ⟨_, by rw [hn]⟩, q1⟩
theorem s_lenS {a : E} {x : Expr} {p p2 q pos : Pos} (hc : X.calm = true) (hg : Gl X "len") (hm : X.mg "len" = none) (hg2 : Gl X "set") (hm2 : X.mg "set" = none) (ha : SE X ce Wx G a x) : SE X ce Wx G (.lenS a) (.Call (.Name "len" p) [.Call (.Name "set" p2) [x] [] q] [] pos) := by
  refine sm_ofV rfl rfl (PE.imp (pe_lenS hc hg hm hg2 hm2 ha.o (star_cons ha.ns)) ?_)
  rintro σ H Q ⟨F, τ, ρ, Q0, E0, hl, R, q, hQ, hE⟩
  refine ⟨F, τ, ρ, _, E0, hl, R, q, fun o ρ1 F1 H1 v q1 l1 s1 R1 a1 => ?_, hE⟩
  cases e : o.get ρ1 with
  | none => rw [e] at q1; exact q1.elim
  | some d =>
    rw [e] at q1
    have dv := op_view R1 (fun p hp => hp) l1 a1 e
    cases d <;> try exact False.elim q1
    case list xs =>
      obtain ⟨ns, rfl, k3, k4⟩ := q1
      obtain ⟨a, vs, rfl, k1, k2⟩ := dv
      obtain rfl := of_ints k2
      have mk : Made X.K F1 H1 (.d (.int ((dedI ns).length : Nat))) (.int ((dedI ns).length : Nat)) H1 := mk_int R1.sub
      obtain ⟨F2, f1, R2⟩ := R1.made mk
      exact ⟨a, ns, rfl, .inl (.inl k1), k3, hQ _ ρ1 F2 _ _ k4 l1 (Same.tr s1 f1) R2.mid⟩
end
end FX
set_option maxHeartbeats 2000000
namespace FX
variable [Wc]
open PySem PySem.Spec PyProof.Rows L2
/-! ### operators of an own class, by values -/
/-- a method of the class at C, with its promise -/
structure MethG (X : Cx) (C : Addr) (name : Str) (k : Nat) (ad : Addr) (fd : FuncData) (ps : List Str) (sp : Sp) : Prop where
  fn : FnG X.prog X.w X.K X.mg X.base k ad fd ps sp
  rm : Room (k + 1) X.A
  gd : X.A.guards = some []
  bd : Binds X.K fd ps []
  at_ : PySem.W.findIn X.K (.ref C) name = some (some (.ref ad))
  isf : PySem.W.isFn X.K (.ref ad) = true
section
variable {X : Cx} {W : WX} {C a dx ad : Addr} {name : Str} {k : Nat} {fd : FuncData} {ps : List Str} {sp : Sp} {pins : List (Addr × Obj)} {s : Shared} {σ : L2.St} {H : Hp} {Q : VK} {fs : List (Str × V)}
theorem inst_at (I : Inv X pins σ H s) (ea : H a = some (.ins C dx fs)) : ∃ ox od, PySem.W.InstAt s.heap a ox C (some od) := by
  obtain ⟨mA, O, _, _, _, _⟩ := ins_get I.hok ea
  obtain ⟨od, J, _⟩ := O.look
  exact ⟨_, od, J⟩
theorem o_neg (M : MethG X C "__neg__" k ad fd ps sp) (tk : Takes X W) (I : Inv X pins σ H s) (ea : H a = some (.ins C dx fs)) (h : sp [.ref a] H Q (WE W σ)) :
    wpAny (model X.prog X.w) X.A (unaryOp .USub (.ref a)) (EP X pins σ Q) X.xe s := by
  obtain ⟨ox, od, J⟩ := inst_at I ea
  unfold unaryOp
  refine wpAny_holding ?_
  exact wpAny_bind (PySem.W.special_fn I.kIn J M.at_ (beq_iff_eq.mp M.isf) (wpAny_mono (run_G M.fn (M.rm.mono (Nat.le_succ _)) M.gd M.bd tk I (.cons (show L2.RelV (V.ref a) (Value.ref a) from rfl) .nil) h) (fun _ _ z => wpAny_pure z) fun _ _ z => z))
theorem o_contains {v : V} {u : Value} (M : MethG X C "__contains__" k ad fd ps sp) (tk : Takes X W) (I : Inv X pins σ H s) (ea : H a = some (.ins C dx fs)) (rv : RelV v u) (h : sp [.ref a, v] H (fun r H1 => ∃ b, r = .bl b ∧ Q (.bl b) H1) (WE W σ)) :
    wpAny (model X.prog X.w) X.A (compareOp .In u (.ref a)) (EP X pins σ Q) X.xe s := by
  obtain ⟨ox, od, J⟩ := inst_at I ea
  refine wpAny_bind (wpAny_mono (?_ : wpAny _ _ (contains (.ref a) u) (fun b s' => EP X pins σ Q (.bool b) s') X.xe s) (fun _ _ z => wpAny_pure z) fun _ _ z => z)
  unfold contains
  refine wpAny_holding (wpAny_bind (wpAny_bind (J.type.here ((PySem.W.looks_findIn I.kIn M.at_).here ?_))))
  rw [if_neg (by simp)]
  refine wpAny_bind (PySem.W.unlessNone_K I.kIn J M.at_ M.isf (wpAny_mono (run_G M.fn (M.rm.mono (Nat.le_succ _)) M.gd M.bd tk I (.cons (show L2.RelV (V.ref a) (Value.ref a) from rfl) (.cons rv .nil)) h) (fun r s' z => ?_) fun _ _ z => z))
  obtain ⟨v', H', I', r', b, rfl, q⟩ := z
  obtain rfl : r = Value.bool b := r'
  exact wpAny_truthy_bool ⟨.bl b, H', I', rfl, q⟩
theorem in1_guards (A : Around) : A.in1.guards = A.guards := by
  first
    | rfl
    | simp [Around.in1]
theorem run_G1 {f : Addr} {us : List Value} {vs : List V} (F : FnG X.prog X.w X.K X.mg X.base k f fd ps sp) (hr : Room (k + 1) X.A) (hg : X.A.guards = some []) (hb : Binds X.K fd ps [])
    (tk : Takes X W) (I : Inv X pins σ H s) (r : Vals vs us) (h : sp vs H Q (WE W σ)) : wpAny (model X.prog X.w) X.A.in1 (call (.ref f) us) (EP X pins σ Q) X.xe s := by
  have hl : us.length = ps.length := r.length.symm.trans (F.len _ _ _ _ h)
  have b := hb s us I.kIn (by simpa using hl)
  rw [List.append_nil] at b
  refine wpAny_call (codeAny_mono (F.run X.A.in1 X.stack s H ⟨us, []⟩ us vs Q (WE W σ) hr.in1 ((in1_guards _).trans hg) I.env0.in1 b r h) fun res s' hq => ?_)
  rcases res with e | fl
  · exact passAt tk σ pins H s e s' I hq
  · rcases fl with _ | _ | _ | u
    all_goals first
      | exact I.after hq
      | exact False.elim hq
/-- a value that is no NotImplemented -/
theorem cmp_back {u : Value} {s' : Shared} {R : Value → Shared → Prop} {v : V} (r : RelV v u) (h : R u s') : PySem.W.CmpBack R u s' := by
  cases v <;> first
    | (obtain ⟨t, rfl⟩ := r; exact h)
    | (obtain rfl := (show u = _ from r); exact h)
theorem o_bin {op : Operator} {b dy : Addr} {gs : List (Str × V)} (hc : PySem.W.selfFirst X.K C = true) (M : MethG X C (PySem.dunder op.info.2) k ad fd ps sp) (tk : Takes X W) (I : Inv X pins σ H s) (ea : H a = some (.ins C dx fs)) (eb : H b = some (.ins C dy gs)) (h : sp [.ref a, .ref b] H Q (WE W σ)) :
    wpAny (model X.prog X.w) X.A (binaryOp op (.ref a) (.ref b)) (EP X pins σ Q) X.xe s := by
  obtain ⟨ox, od, J⟩ := inst_at I ea
  obtain ⟨oy, oe, J2⟩ := inst_at I eb
  have X0 := I.kIn
  obtain ⟨cd, hcd, hm⟩ := PySem.W.any_some hc
  obtain ⟨rest, hm⟩ : ∃ rest, cd.mro = .ref C :: rest := by
    cases q : cd.mro with
    | nil => rw [q] at hm; cases hm
    | cons a r => rw [q] at hm; exact ⟨r, by rw [List.head?_cons] at hm; cases (beq_iff_eq.mp hm); rfl⟩
  unfold binaryOp
  refine wpAny_holding (wpAny_bind ?_)
  unfold binaryOp1
  refine wpAny_bind (J.type.here (wpAny_bind (J2.type.here (wpAny_bind ((PySem.W.fills_K X0 hcd hm M.at_).here ?_)))))
  simp only [beq_self_eq_true, if_true]
  refine wpAny_bind (wpAny_pure ?_)
  simp only [Bool.and_false, Bool.false_eq_true, if_false, Bool.false_and]
  refine wpAny_bind (wpAny_pure ?_)
  simp only [Bool.false_eq_true, if_false]
  refine wpAny_bind (m := tryMethod (.ref a) _ (.ref b)) ?_
  unfold tryMethod
  refine wpAny_bind (PySem.W.special_fn X0 J M.at_ (beq_iff_eq.mp M.isf) (wpAny_mono (run_G M.fn (M.rm.mono (Nat.le_succ _)) M.gd M.bd tk I (.cons (show L2.RelV (V.ref a) (Value.ref a) from rfl) (.cons (show L2.RelV (V.ref b) (Value.ref b) from rfl) .nil)) h) (fun v s' hv => ?_) fun _ _ e => e))
  obtain ⟨v', H', I', r', q⟩ := hv
  have : PySem.W.CmpBack (fun u s' => EP X pins σ Q u s') v s' := cmp_back r' ⟨v', H', I', r', q⟩
  unfold PySem.W.CmpBack at this
  cases v <;> first | exact this.elim | exact wpAny_pure (wpAny_pure (wpAny_pure this))
theorem o_sub {value slice : Expr} {v : V} {i : Value} (M : MethG X C "__getitem__" k ad fd ps sp) (hf : PySem.W.fnIn X.K ad = true) (tk : Takes X W) (I : Inv X pins σ H s) (ea : H a = some (.ins C dx fs)) (rv : RelV v i) (h : sp [.ref a, v] H Q (WE W σ))
    (hsl : subscripted slice true (.ref a) i = runValue (.builtin "lifetime.subscript" ⟨[.ref a, i], []⟩)) :
    wpAny (model X.prog X.w) X.A (subscriptTail value slice (.ref a) i) (EP X pins σ Q) X.xe s := by
  obtain ⟨ox, od, J⟩ := inst_at I ea
  have X0 := I.kIn
  unfold PySem.W.fnIn at hf
  split at hf
  · rename_i e
    unfold subscriptTail getitemInPython
    refine wpAny_bind (wpAny_bind (wpAny_bind (J.type.here ((PySem.W.looks_findIn X0 M.at_).here ?_))))
    dsimp only
    refine wpAny_bind (wpAny_load (X0 _ _ e) (wpAny_pure ?_))
    dsimp only
    rw [hsl]
    refine wpAny_bind (wpAny_runValue (codeAny_builtin PySem.W.entry_sub ?_))
    unfold Builtin.«lifetime.subscript»
    refine wpAny_bind (PySem.W.special_fn X0 J M.at_ (beq_iff_eq.mp M.isf) (wpAny_mono (run_G1 M.fn M.rm M.gd M.bd tk I (.cons (show L2.RelV (V.ref a) (Value.ref a) from rfl) (.cons rv .nil)) h) (fun v s' z => ?_) fun _ _ z => z))
    refine wpAny_pure ?_
    show wpAny (model X.prog X.w) X.A (letTemporaryGo value (.ref a) v >>= fun _ => pure v) _ _ s'
    exact wpAny_bind (wpAny_letTemporaryGo (wpAny_pure z))
  · cases hf
/-- x op y by x's own comparison; y of any type that is not a subclass -/
theorem o_cmp {op : CmpOp} {v : V} {u tb : Value} (hu : X.A.units < cLine) (M : MethG X C (cmpInfo op).2.1 k ad fd ps sp) (tk : Takes X W) (I : Inv X pins σ H s) (ea : H a = some (.ins C dx fs)) (rv : RelV v u)
    (hne : Value.ref a ≠ u ∨ True) (hb : PySem.W.Looks (model X.prog X.w) s.heap (typeOf u) tb) (hn : PySem.W.notFirst X.K C tb = true) (h : sp [.ref a, v] H Q (WE W σ)) :
    wpAny (model X.prog X.w) X.A (richCompare op (.ref a) u) (EP X pins σ Q) X.xe s := by
  obtain ⟨ox, od, J⟩ := inst_at I ea
  have X0 := I.kIn
  have one : wpAny (model X.prog X.w) X.A (tryCompare (.ref a) (cmpInfo op).2.1 u) (fun r s' => ∃ v, r = some v ∧ EP X pins σ Q v s') X.xe s := by
    unfold tryCompare
    refine wpAny_bind (PySem.W.ifBound_K X0 J M.at_ M.isf (wpAny_mono (run_G M.fn (M.rm.mono (Nat.le_succ _)) M.gd M.bd tk I (.cons (show L2.RelV (V.ref a) (Value.ref a) from rfl) (.cons rv .nil)) h) (fun v s' hv => ?_) fun _ _ e => e))
    obtain ⟨v', H', I', r', q⟩ := hv
    have this : PySem.W.CmpBack (fun u s' => EP X pins σ Q u s') v s' := cmp_back r' ⟨v', H', I', r', q⟩
    unfold PySem.W.CmpBack at this
    cases v <;> first | exact this.elim | exact wpAny_pure ⟨_, rfl, this⟩
  unfold richCompare
  simp only [PySem.oneThing_ref]
  refine wpAny_holding (wpAny_bind (wpAny_cRoomFor hu ?_))
  refine wpAny_bind (J.type.here (wpAny_bind (hb.here ?_)))
  split
  · rename_i q
    have e : PySem.W.subIn X.K tb (.ref C) = some false := by
      rcases Bool.or_eq_true_iff.mp hn with e | e
      · rw [beq_iff_eq.mp e] at q; simp at q
      · exact beq_iff_eq.mp e
    refine wpAny_bind ((PySem.W.looks_subIn X0 e).here ?_)
    simp only [Bool.false_eq_true, if_false]
    refine wpAny_bind (wpAny_mono one (fun r s' z => ?_) fun _ _ e => e)
    obtain ⟨v, rfl, hq⟩ := z
    exact wpAny_pure hq
  · refine wpAny_bind (wpAny_pure ?_)
    simp only [Bool.false_eq_true, if_false]
    refine wpAny_bind (wpAny_mono one (fun r s' z => ?_) fun _ _ e => e)
    obtain ⟨v, rfl, hq⟩ := z
    exact wpAny_pure hq
theorem o_len (M : MethG X C "__len__" k ad fd ps sp) (tk : Takes X W) (I : Inv X pins σ H s) (ea : H a = some (.ins C dx fs)) (h : sp [.ref a] H (fun r H1 => ∃ n : Int, r = .int n ∧ 0 ≤ n ∧ n < 2 ^ 63 ∧ Q (.int n) H1) (WE W σ)) :
    wpAny (model X.prog X.w) X.A (call (.builtin "len") [.ref a]) (EP X pins σ Q) X.xe s := by
  obtain ⟨ox, od, J⟩ := inst_at I ea
  refine Calls.call_function_entry PySem.kind_len PySem.plain_len PySem.entry_len (PySem.args_len1 _) ?_
  unfold Builtin.«len»
  refine wpAny_bind (wpAny_pure ?_)
  refine wpAny_bind (m := callSpecial? (.ref a) (Str.ofString "__len__")) (PySem.W.special_fn I.kIn J M.at_ (beq_iff_eq.mp M.isf) (wpAny_mono (run_G1 M.fn M.rm M.gd M.bd tk I (.cons (show L2.RelV (V.ref a) (Value.ref a) from rfl) .nil) h) (fun r s' hr => ?_) fun _ _ y => y))
  obtain ⟨v', H', I', r', n, rfl, h0, h1, hq⟩ := hr
  obtain ⟨t, rfl⟩ := r'
  refine wpAny_bind (wpAny_holding (wpAny_pure ?_))
  refine wpAny_bind (wpAny_letGo ?_)
  show wpAny _ _ (if n < 0 then _ else _) _ _ _
  rw [if_neg (by omega)]
  show wpAny _ _ (if n ≥ 2 ^ 63 then _ else _) _ _ _
  rw [if_neg (by omega)]
  exact wpAny_bind (wpAny_mkInt (wpAny_pure ⟨_, rfl, .int n, H', I'.tok _, ⟨_, rfl⟩, hq⟩))
theorem o_make {us : List Value} {vs : List V} {f : Addr} (M : Mk X.K C f) (F : FnG X.prog X.w X.K X.mg X.base k f fd ps sp) (hr : Room (k + 1) X.A) (hg : X.A.guards = some []) (hb : Binds X.K fd ps []) (tk : Takes X W) (I : Inv X pins σ H s) (r : Vals vs us)
    (h : ∀ x dx, H x = none → H dx = none → dx ≠ x → sp (.ref x :: vs) (upd (upd H dx (.own x)) x (.ins C dx [])) (fun v H2 => v = .non ∧ Q (.ref x) H2) (WE W σ)) :
    wpAny (model X.prog X.w) X.A (call (.ref C) us) (EP X pins σ Q) X.xe s := by
  have hq := h (s.heap.objs.size + 1) s.heap.objs.size (I.hok.fresh (Nat.le_succ _)) (I.hok.fresh (Nat.le_refl _)) (Nat.ne_of_lt (Nat.lt_succ_self _))
  have I2 := Inv.made (C := C) I
  have r2 : Vals (V.ref (s.heap.objs.size + 1) :: vs) (Value.ref (s.heap.objs.size + 1) :: us) := .cons (show L2.RelV (V.ref _) (Value.ref _) from rfl) r
  have hl : (Value.ref (s.heap.objs.size + 1) :: us).length = ps.length := by
    have e := r2.length
    rw [F.len _ _ _ _ hq] at e
    exact e.symm
  have b := hb _ (Value.ref (s.heap.objs.size + 1) :: us) I2.kIn (by simpa using hl)
  rw [List.append_nil] at b
  refine wpAny_call (L2.make_map (f := f) I.kIn M.makes M.init (beq_iff_eq.mp M.fn) (codeAny_mono (F.run _ X.stack _ _ ⟨Value.ref (s.heap.objs.size + 1) :: us, []⟩ (Value.ref (s.heap.objs.size + 1) :: us) _ _ (WE W σ) (hr.make C us []) ?g
    (I2.env0.make C us []) b r2 hq) fun r s' hq' => ?_))
  case g => first
    | exact hg
    | (simp [hg]; done)
  cases r with
  | error e => exact passAt tk σ pins _ _ e s' I2 hq'
  | ok fl =>
    cases fl with
    | ret u =>
      obtain ⟨v, H', I3, rv, ev, q3⟩ := I2.after hq'
      subst ev
      exact ⟨rv, ⟨V.ref (s.heap.objs.size + 1), H', I3, rfl, q3⟩⟩
    | next => exact False.elim hq'
    | brk => exact False.elim hq'
    | cont => exact False.elim hq'
open PySem.W in
/-- x op y, y of a built-in type -/
theorem o_binT {op : Operator} {v : V} {b : Value} {T : String} {fo ro rc : Option Value} (hb : typeOf b = pure (.type T)) (hc : PySem.W.selfFirst X.K C = true) (M : MethG X C (PySem.dunder op.info.2) k ad fd ps sp)
    (hr : PySem.W.findIn X.K (.ref C) (dunderR op.info.2) = some rc) (hp : rc = none ∨ ∃ g : Addr, rc = some (.ref g))
    (h1 : PySem.W.findIn X.K (.type T) (PySem.dunder op.info.2) = some fo) (h2 : PySem.W.findIn X.K (.type T) (dunderR op.info.2) = some ro) (hsub : PySem.W.subIn X.K (.type T) (.ref C) = some false)
    (tk : Takes X W) (I : Inv X pins σ H s) (ea : H a = some (.ins C dx fs)) (rv : RelV v b) (h : sp [.ref a, v] H Q (WE W σ)) :
    wpAny (model X.prog X.w) X.A (binaryOp op (.ref a) b) (EP X pins σ Q) X.xe s := by
  obtain ⟨ox, od, J⟩ := inst_at I ea
  have X0 := I.kIn
  obtain ⟨cd, rest, hcd, hm⟩ := ksp_first hc
  have hs := M.at_
  have call1 : wpAny (model X.prog X.w) X.A (call (.ref ad) [.ref a, b]) (PySem.W.CmpBack (fun u s' => EP X pins σ Q u s')) X.xe s :=
    wpAny_mono (run_G M.fn (M.rm.mono (Nat.le_succ _)) M.gd M.bd tk I (.cons (show L2.RelV (V.ref a) (Value.ref a) from rfl) (.cons rv .nil)) h) (fun u s' hv => by
      obtain ⟨v', H', I', r', q⟩ := hv
      exact cmp_back r' ⟨v', H', I', r', q⟩) fun _ _ e => e
  have one := ksp_try X0 J hs M.isf call1
  rcases hi : op.info with ⟨sym, nm'⟩
  rw [hi] at hs hr h1 h2 one
  dsimp only at hs hr h1 h2 one
  obtain ⟨hh, g, d, tt, os⟩ := s
  have L1 : Looks (model X.prog X.w) hh (typeOf (.ref a)) (.ref C) := J.type
  have L2 : Looks (model X.prog X.w) hh (typeOf b) (.type T) := Looks.of_pure hb
  have L3 : Looks (model X.prog X.w) hh (fillsNumberSlot (.ref C) nm') true := fills_K X0 hcd hm hs
  have L4 : Looks (model X.prog X.w) hh (fillsNumberSlot (.type T) nm') ((fo.isSome && !isSeqSlot fo) || (ro.isSome && !isSeqSlot ro)) := ksp_fillsT X0 h1 h2
  have L5 : Looks (model X.prog X.w) hh (isSubtype (.type T) (.ref C)) false := looks_subIn X0 hsub
  have L6 : Looks (model X.prog X.w) hh (numberSlotInPython (.ref C) nm') true := ksp_inPy X0 hs hr hp
  have L7 : Looks (model X.prog X.w) hh (numberSlotInPython (.type T) nm') false := Looks.of_pure rfl
  have L8 : Looks (model X.prog X.w) hh (typeLookup (.type T) (dunderR nm')) ro := looks_findIn X0 h2
  generalize ((fo.isSome && !isSeqSlot fo) || (ro.isSome && !isSeqSlot ro)) = right at L4
  have hne : (Value.ref C == Value.type T) = false := Bool.eq_false_iff.mpr fun q => by cases beq_iff_eq.mp q
  simp only [binaryOp, hi]
  refine wpAny_holding (wpAny_bind ?_)
  unfold binaryOp1
  refine wpAny_bind (L1.at (wpAny_bind (L2.at (wpAny_bind (L3.at ?_)))))
  simp only [hne, Bool.false_eq_true, if_false]
  cases right with
  | false =>
    ksp_lk
    refine wpAny_mono one (fun r s' hr' => ?_) fun _ _ e => e
    obtain ⟨v, rfl, hq⟩ := hr'
    ksp_lk
    exact hq
  | true =>
    ksp_lk
    refine wpAny_mono one (fun r s' hr' => ?_) fun _ _ e => e
    obtain ⟨v, rfl, hq⟩ := hr'
    ksp_lk
    exact hq
theorem inst_pl (I : Inv X pins σ H s) (ea : H a = some (.ins C dx fs)) : ∃ od, PySem.W.InstAt s.heap a (PySem.W.instObj C dx) C (some od) := by
  obtain ⟨mA, O, _, _, _, _⟩ := ins_get I.hok ea
  obtain ⟨od, J, _⟩ := O.look
  exact ⟨od, J⟩
theorem o_call {us : List Value} {vs : List V} (M : MethG X C "__call__" k ad fd ps sp) (hfn : PySem.W.fnIn X.K ad = true) (tk : Takes X W) (I : Inv X pins σ H s) (ea : H a = some (.ins C dx fs)) (r : Vals vs us) (h : sp (.ref a :: vs) H Q (WE W σ)) :
    wpAny (model X.prog X.w) X.A (call (.ref a) us) (EP X pins σ Q) X.xe s := by
  obtain ⟨od, J⟩ := inst_pl I ea
  have r2 : Vals (V.ref a :: vs) (Value.ref a :: us) := .cons (show L2.RelV (V.ref a) (Value.ref a) from rfl) r
  have hl : (Value.ref a :: us).length = ps.length := r2.length.symm.trans (M.fn.len _ _ _ _ h)
  have b := M.bd s (Value.ref a :: us) I.kIn (by simpa using hl)
  rw [List.append_nil] at b
  refine wpAny_call (PySem.W.kco_code I.kIn J rfl M.at_ M.isf hfn (codeAny_mono (M.fn.run X.A X.stack s H ⟨Value.ref a :: us, []⟩ (Value.ref a :: us) _ Q (WE W σ) (M.rm.mono (Nat.le_succ _)) M.gd I.env0 b r2 h) fun res s' hq => ?_))
  rcases res with e | fl
  · exact passAt tk σ pins H s e s' I hq
  · rcases fl with _ | _ | _ | u
    all_goals first
      | exact I.after hq
      | exact False.elim hq
theorem o_prop {f : Str} {p g : Addr} {bb : Bool} (c : Cls X.K C) (hp : PropOf X.K C f p g) (F : FnG X.prog X.w X.K X.mg X.base k g fd ps sp) (hr : Room (k + 1) X.A) (hg : X.A.guards = some []) (hb : Binds X.K fd ps []) (I : Inv X pins σ H s) (ea : H a = some (.ins C dx fs)) (h : sp [.ref a] H Q fun _ _ _ => False) : wpAny (model X.prog X.w) X.A (getAttr (.ref a) f bb) (EP X pins σ Q) X.xe s := by
  obtain ⟨mA, O, _, _, _, _⟩ := ins_get I.hok ea
  obtain ⟨od, J, _⟩ := O.look
  obtain ⟨rest, hrec⟩ := hp.rec_
  have I1 := I.tok (s.toks + 1)
  have hl : [Value.ref a].length = ps.length := F.len _ _ _ _ h
  have hc : (PySem.W.clsIn X.K C).isSome = true := by
    obtain ⟨cd, hc, _⟩ := PySem.W.any_some c.hd
    rw [hc]
    rfl
  have b := hb { s with toks := s.toks + 1 } [Value.ref a] I1.kIn (by simpa using hl)
  rw [List.append_nil] at b
  refine PySem.W.get_bind I.kIn J (PySem.W.plainGet_of (c.get f)).1 (PySem.W.findObj_data hc hp.at_ hp.get hp.tak) (PySem.W.plainGet_of (c.get f)).2 (wpAny_call (PySem.W.prop_get (s := { s with toks := s.toks + 1 }) I.kIn hrec ?_))
  refine codeAny_mono (F.run X.A.in1 X.stack { s with toks := s.toks + 1 } H ⟨[.ref a], []⟩ [.ref a] [.ref a] Q (fun _ _ _ => False) hr.in1 ((in1_guards _).trans hg) I1.env0.in1 b (.cons (show L2.RelV (V.ref a) (Value.ref a) from rfl) .nil) h) fun r s' hq => ?_
  cases r with
  | error er =>
    obtain ⟨_, _, _, _, _, _, _, _, _, _, _, _, z⟩ := hq
    exact z.elim
  | ok fl =>
    cases fl with
    | ret u =>
      obtain ⟨v, H', I3, rv, q3⟩ := I1.after hq
      show wpAny _ _ (handedOut u) _ _ _
      rw [PySem.W.handedOut_of (handed_of rv)]
      exact wpAny_pure ⟨v, H', I3, rv, q3⟩
    | next => exact False.elim hq
    | brk => exact False.elim hq
    | cont => exact False.elim hq
end
end FX
set_option maxHeartbeats 2000000
namespace FX
variable [Wc]
open PySem PySem.Spec PyProof.Rows L2
/-! ### objects that never change: their methods, called in all ways -/
section
variable {K : PySem.W.Frag} {F H : Hp} {ce : ExcT}
theorem rp_dds : ∀ {vs : List V} {ds : List PyData} {z : Zs}, Rp K F H z → DDs K F vs ds → Rp K F H (z ++ ((ds.map Rs.d).map Rs.sl).zip (vs.map some))
  | [], [], z, R, _ => by simpa using R
  | v :: vs, d :: ds, z, R, h => by
    cases h with
    | cons h1 h2 =>
      have R1 := (rp_dds R h2).consD h1
      exact R1.perm (by simpa [Rs.sl] using List.perm_middle.symm)
  | [], _ :: _, _, _, h => by cases h
  | _ :: _, [], _, _, h => by cases h
theorem me_lift {mask : List Bool} {sp : FSp} {z : Zs} {vs : List V} {ds : List PyData} {Q0 : Rs → Prop} {E0 : Exc → Prop} {Q : VK} {E : XK} (R : Rp K F H z) (d : DDs K F vs ds) (hm : mask.length = ds.length) (q : sp (ds.map .d) (fun r _ => Q0 r) (fun x _ => E0 x))
    (hQ : ∀ r F' H' v, Q0 r → Same F F' → Rp K F' H' ((r.sl, some v) :: z) → Q v H') (hE : ∀ x F' H' cls dd, E0 x → Same F F' → Rp K F' H' z → ExcR ce x cls dd H' → E cls dd H') : liftSp K ce mask sp vs H Q E :=
  ⟨F, z, ds.map .d, _, _, by rw [List.length_map, dps_len d], by rw [hm, dps_len d], rp_dds R d, q, fun r outs F' H' v q1 _ s1 R1 => hQ r F' H' v q1 s1 R1.mid, fun x outs F' H' cls dd q1 _ s1 R1 hx => hE x F' H' cls dd q1 s1 R1.app hx⟩
end
/-- what the written part says of a class of such objects -/
structure ObjC (K : PySem.W.Frag) (C : Addr) (f : Str) : Prop where
  cl : Cls K C
  na : NoAttr K C f
  ic : C8.InsC K C
  sf : PySem.W.selfFirst K C = true
  mu : ∃ rc fo ro, PySem.W.findIn K (.ref C) "__rmul__" = some rc ∧ (rc = none ∨ ∃ g : Addr, rc = some (.ref g)) ∧ PySem.W.findIn K (.type "int") "__mul__" = some fo ∧ PySem.W.findIn K (.type "int") "__rmul__" = some ro ∧ PySem.W.subIn K (.type "int") (.ref C) = some false
  kt : ∀ T ∈ ["NoneType", "bool", "int", "str", "list", "tuple"], PySem.W.kitOne K (.type T) (.ref C) = some false
  nf : ∀ T ∈ ["NoneType", "bool", "int", "str", "list", "tuple"], PySem.W.subIn K (.type T) (.ref C) = some false
  ne : PySem.W.findIn K (.ref C) "__ne__" = some (some (.builtin "object.__ne__"))
  kb : ∀ T ∈ ["NoneType", "bool", "int", "str", "list", "tuple", "dict"], PySem.W.kitOne K (.ref C) (.type T) = some false
/-- a method with its promise -/
def MthOk (X : Cx) (C : Addr) (m : Str) (sp : Sp) : Prop := ∃ k ad fd ps, MethG X C m k ad fd ps sp ∧ PySem.W.fnIn X.K ad = true
def PrpOk (X : Cx) (C : Addr) (m : Str) (sp : Sp) : Prop := ∃ p g k fd ps, PropOf X.K C m p g ∧ FnG X.prog X.w X.K X.mg X.base k g fd ps sp ∧ Room (k + 1) X.A ∧ X.A.guards = some [] ∧ Binds X.K fd ps []
section
variable {X : Cx} {ce : ExcT} {Wx : WX} {G : Gm}
/-- the reading of a method's call, by values -/
def moV (X : Cx) (ce : ExcT) (Wx : WX) (G : Gm) (k : MO) (σ : SV) (vs : List V) (H : Hp) (Q : VK) : Prop := ∃ F z ds Q0 E0, Rp X.K F H z ∧ DDs X.K F vs ds ∧ moR G.mt k ds Q0 E0 ∧
  (∀ r F' H' v, Q0 r → Same F F' → Rp X.K F' H' ((r.sl, some v) :: z) → Q v H') ∧ ∀ x F' H' cls d, E0 x → Same F F' → Rp X.K F' H' z → ExcR ce x cls d H' → Wx cls d σ H'
/-- .. by the name of the method -/
def meV (X : Cx) (ce : ExcT) (Wx : WX) (G : Gm) (m : Str) (σ : SV) (vs : List V) (H : Hp) (Q : VK) : Prop := ∃ c C a dx z, vs.head? = some (.ref a) ∧ Wc.cls X.K c = some C ∧ H a = some (.ins C dx [(Wc.fld c, .str z)]) ∧ ∃ mask sp, G.mt c m = some (mask, sp) ∧ liftSp X.K ce mask sp vs H Q (WE Wx σ)
theorem lift_mo {k : MO} {as : Es} {σ : SV} {H : Hp} {Q : VK} (h : liftV X.K ce Wx (W G (.mo k as)).v σ H Q) : liftRs X.K ce Wx (Ws G as).rs σ H fun vs H1 => moV X ce Wx G k σ vs H1 Q := by
  obtain ⟨F, τ, ρ, Q0, E0, hl, R, q, hQ, hE⟩ := h
  refine ⟨F, τ, ρ, _, E0, hl, R, q, fun rs ρ1 F1 H1 vs q1 l1 s1 R1 n1 => ?_, hE⟩
  obtain ⟨F2, g1, R2, g3⟩ := rs_frz n1 R1
  exact ⟨F2, _, _, _, _, R2, g3, q1, fun r F' H' v q2 s2 R3 => hQ r ρ1 F' H' v q2 l1 (Same.tr s1 (Same.tr g1 s2)) R3, fun x F' H' cls d q2 s2 R3 hx => hE x ρ1 F' H' cls d q2 l1 (Same.tr s1 (Same.tr g1 s2)) R3 hx⟩
theorem rs_one {a : E} {σ : SV} {H : Hp} {P : List V → Hp → Prop} (h : liftRs X.K ce Wx (Ws G (e1 a)).rs σ H P) : liftV X.K ce Wx (W G a).v σ H fun x H1 => P [x] H1 := by
  obtain ⟨F, τ, ρ, Q0, E0, hl, R, q, hQ, hE⟩ := h
  exact ⟨F, τ, ρ, _, E0, hl, R, q, fun r ρ1 F1 H1 v q1 l1 s1 R1 => hQ [r] ρ1 F1 H1 [v] q1 l1 s1 (by simpa [rsZ] using R1) rfl, hE⟩
theorem rs_two {a b : E} {σ : SV} {H : Hp} {P : List V → Hp → Prop} (h : liftRs X.K ce Wx (Ws G (e2 a b)).rs σ H P) : liftV X.K ce Wx (W G a).v σ H fun x H1 => liftV X.K ce Wx (W G b).v σ H1 fun y H2 => P [x, y] H2 := by
  obtain ⟨F, τ, ρ, Q0, E0, hl, R, q, hQ, hE⟩ := h
  refine ⟨F, τ, ρ, _, E0, hl, R, q, fun r ρ1 F1 H1 v q1 l1 s1 R1 => ?_, hE⟩
  refine ⟨F1, (r.sl, some v) :: τ, ρ1, _, E0, l1, R1, q1, fun r2 ρ2 F2 H2 w q2 l2 s2 R2 => ?_, XOK.sub (ω := [_]) hE s1⟩
  exact hQ [r, r2] ρ2 F2 H2 [v, w] q2 l2 (Same.tr s1 s2) (by simpa [rsZ, ZE] using R2) rfl
theorem dd_obj {F : Hp} {v : V} {c : Nat} {t : Str} (d : DD X.K F v (objD c t)) : ∃ a C dx, v = .ref a ∧ Wc.cls X.K c = some C ∧ F a = some (.ins C dx [(Wc.fld c, .str t)]) ∧ F dx = some (.own a) := by
  cases d with
  | scr ns h1 h2 => cases h2
  | @ins a C dx z' kvs c' h1 h2 h3 h4 =>
    simp only [List.cons.injEq, Prod.mk.injEq, PyData.int.injEq, PyData.str.injEq, true_and, and_true] at h4
    obtain ⟨h5, rfl⟩ := h4
    obtain rfl : c = c' := by omega
    exact ⟨a, C, dx, rfl, h1, h2, h3⟩
  | dct h1 h2 h3 =>
    rename_i xs0
    cases xs0 with
    | nil => cases h3
    | cons e xs0 =>
      simp only [kvsOf, List.map_cons, List.cons.injEq] at h3
      have hk := h2 e List.mem_cons_self
      have he : e.1 = .none := (congrArg Prod.fst h3.1).symm
      rw [he] at hk
      cases hk
  | lit k n h1 h2 => cases k <;> cases h2
/-- the object behind meR, its method -/
theorem me_open {m : Str} {σ : SV} {vs : List V} {ds : List PyData} {H F : Hp} {z : Zs} {Q0 : Rs → Prop} {E0 : Exc → Prop} {Q : VK} (R : Rp X.K F H z) (d : DDs X.K F vs ds) (q : meR G.mt m ds Q0 E0)
    (hQ : ∀ r F' H' v, Q0 r → Same F F' → Rp X.K F' H' ((r.sl, some v) :: z) → Q v H') (hE : ∀ x F' H' cls d, E0 x → Same F F' → Rp X.K F' H' z → ExcR ce x cls d H' → Wx cls d σ H') : meV X ce Wx G m σ vs H Q := by
  unfold meR at q
  cases ds with
  | nil => exact q.elim
  | cons x ds =>
    simp only [List.head?_cons, Option.bind_some] at q
    cases e1 : objOf x with
    | none => rw [e1] at q; exact q.elim
    | some p =>
      obtain ⟨c, t⟩ := p
      rw [e1] at q
      dsimp only at q
      cases e2 : G.mt c m with
      | none => rw [e2] at q; exact q.elim
      | some ms =>
        obtain ⟨mask, sp⟩ := ms
        rw [e2] at q
        obtain rfl := objOf_eq e1
        have lift := me_lift (ce := ce) R d q.1 q.2 hQ hE
        cases d with
        | cons d1 d2 =>
          obtain ⟨a, C, dx, rfl, g1, g2, g3⟩ := dd_obj d1
          exact ⟨c, C, a, dx, t, rfl, g1, R.sub _ _ g2, mask, sp, e2, lift⟩

abbrev AllM (X : Cx) (ce : ExcT) (G : Gm) (m : Str) : Prop := ∀ c C mask sp, G.mt c m = some (mask, sp) → Wc.cls X.K c = some C → MthOk X C m (liftSp X.K ce mask sp)
theorem pe_opS {op : Operator} {r : SV → V → V → Hp → VK → Prop} {a b : Expr} {ta tb : TE} {pos : Pos}
    (ho : ∀ (pins : List (Addr × Obj)) (s : Shared) (σ : SV) (H : Hp) (x y : V) (v u : Value) (Q : VK), Inv X pins σ H s → RelV x v → RelV y u → r σ x y H Q → wpAny (model X.prog X.w) X.A (binaryOp op v u) (EP X pins σ Q) X.xe s) (ha : PE X a ta) (hb : PE X b tb) :
    PE X (.BinOp a op b pos) (fun σ H Q => ta σ H fun x H1 => tb σ H1 fun y H2 => r σ x y H2 Q) :=
  ⟨fun pins s σ H Q I h => wpAny_BinOp (bin ha hb I h fun v u s2 x y H2 I2 rx ry q => ho pins s2 σ H2 x y v u Q I2 rx ry q)⟩
theorem pe_cmpS {op : CmpOp} {r : SV → V → V → Hp → VK → Prop} {a b : Expr} {ta tb : TE} {pos : Pos}
    (ho : ∀ (pins : List (Addr × Obj)) (s : Shared) (σ : SV) (H : Hp) (x y : V) (v u : Value) (Q : VK), Inv X pins σ H s → RelV x v → RelV y u → r σ x y H Q → wpAny (model X.prog X.w) X.A (compareOp op v u) (EP X pins σ Q) X.xe s) (ha : PE X a ta) (hb : PE X b tb) (hm : behindInMarks op b = false) :
    PE X (.Compare a [op] [b] pos) (fun σ H Q => ta σ H fun x H1 => tb σ H1 fun y H2 => r σ x y H2 Q) :=
  ⟨fun pins s σ H Q I h => wpAny_Compare1 (bin ha hb I h fun v u s2 x y H2 I2 rx ry q => ho pins s2 σ H2 x y v u Q I2 rx ry q) hm⟩
theorem pt_cmpS {op : CmpOp} {r : SV → V → V → Hp → VK → Prop} {a b : Expr} {ta tb : TE} {pos : Pos}
    (ho : ∀ (pins : List (Addr × Obj)) (s : Shared) (σ : SV) (H : Hp) (x y : V) (v u : Value) (Q : VK), Inv X pins σ H s → RelV x v → RelV y u → r σ x y H Q → wpAny (model X.prog X.w) X.A (compareOp op v u) (EP X pins σ Q) X.xe s) (ha : PE X a ta) (hb : PE X b tb) (hm : behindInMarks op b = false) :
    PT X (.Compare a [op] [b] pos) (fun σ H Q => ta σ H fun x H1 => tb σ H1 fun y H2 => r σ x y H2 fun z H' => ∃ k, z = .bl k ∧ Q k H') := by
  refine ⟨fun pins s σ H Q I h => ?_⟩
  refine wpAny_isTrue_Compare1 (thn (ha.run pins s σ H _ I h) fun v s1 ⟨x, H1, I1, r1, q1⟩ => thn (hb.run pins s1 σ H1 _ I1 q1) fun u s2 ⟨y, H2, I2, r2, q2⟩ =>
    thn (ho pins s2 σ H2 x y v u _ I2 r1 r2 q2) fun c s3 ⟨z, H3, I3, r3, k, e, q3⟩ => ?_) hm
  subst e
  cases r3
  exact wpAny_truthy_bool ⟨H3, I3, q3⟩
theorem sp_imp {m : Str} {σ : SV} {vs : List V} {H : Hp} {Q Q' : VK} (h : meV X ce Wx G m σ vs H Q) (hq : ∀ v H', Q v H' → Q' v H') : meV X ce Wx G m σ vs H Q' := by
  obtain ⟨c, C, a, dx, z, h1, h2, h3, mask, sp, h4, F, τ, args, Q0, E0, g1, g2, g3, g4, g5, g6⟩ := h
  exact ⟨c, C, a, dx, z, h1, h2, h3, mask, sp, h4, F, τ, args, Q0, E0, g1, g2, g3, g4, fun r outs F' H' v k1 k2 k3 k4 => hq _ _ (g5 r outs F' H' v k1 k2 k3 k4), g6⟩
theorem head_two {x y : V} {a : Addr} (h : [x, y].head? = some (V.ref a)) : x = .ref a := Option.some.inj h
theorem head_one {x : V} {a : Addr} (h : [x].head? = some (V.ref a)) : x = .ref a := Option.some.inj h
theorem s_oneg {a : E} {x : Expr} {pos : Pos} (hm : AllM X ce G "__neg__") (tk : Takes X Wx) (ha : SE X ce Wx G a x) : SE X ce Wx G (.mo .neg (e1 a)) (.UnaryOp .USub x pos) := by
  refine sm_ofV rfl rfl ⟨fun pins s σ H Q I h => ?_⟩
  refine UnaryOp_ (thn (ha.v.run pins s σ H _ I (rs_one (lift_mo h))) fun v s1 ⟨y, H1, I1, r1, q1⟩ => ?_)
  obtain ⟨F, z, ds, Q0, E0, R, d, q, hQ, hE⟩ := q1
  have q : meR G.mt "__neg__" ds Q0 E0 := by
    match ds, q with
    | [_], q => exact q
    | [], q => exact q.elim
    | _ :: _ :: _, q => exact q.elim
  obtain ⟨c, C, b, dx, t, e1, e2, e3, mask, sp, e4, l⟩ := me_open (ce := ce) R d q hQ hE
  obtain rfl := head_one e1
  cases r1
  obtain ⟨k, ad, fd, ps, M, _⟩ := hm c C mask sp e4 e2
  exact o_neg M tk I1 e3 l
theorem s_oadd {a b : E} {x y : Expr} {pos : Pos} (hm : AllM X ce G "__add__") (hc : ∀ c C, Wc.cls X.K c = some C → PySem.W.selfFirst X.K C = true) (tk : Takes X Wx) (ha : SE X ce Wx G a x) (hb : SE X ce Wx G b y) : SE X ce Wx G (.mo .add (e2 a b)) (.BinOp x .Add y pos) := by
  refine sm_ofV rfl rfl (PE.imp (pe_opS (r := fun σ x y H Q => moV X ce Wx G .add σ [x, y] H Q) ?_ ha.v hb.v) fun σ H Q h => rs_two (lift_mo h))
  intro pins s σ H x y v u Q I rx ry h
  obtain ⟨F, z, ds, Q0, E0, R, d, q, hQ, hE⟩ := h
  match ds, d, q with
  | [p, p2], d, q =>
    obtain ⟨q0, q⟩ := q
    obtain ⟨c, C, a, dx, t, e1, e2, e3, mask, sp, e4, l⟩ := me_open (ce := ce) R d q hQ hE
    obtain rfl := head_two e1
    cases rx
    obtain ⟨k, ad, fd, ps, M, _⟩ := hm c C mask sp e4 e2
    cases d with
    | cons d1 d2 =>
      cases d2 with
      | cons d2 d3 =>
        obtain ⟨c1, z1, t1, rfl, rfl⟩ := q0
        obtain ⟨b, C2, dy, rfl, g1, g2, _⟩ := dd_obj d2
        obtain ⟨b1, C1, dy1, k1, k2, k3, _⟩ := dd_obj d1
        cases k1
        have e6 := R.sub _ _ g2
        have e7 := R.sub _ _ k3
        rw [e3] at e7
        obtain ⟨rfl, _, _⟩ := HO.ins.inj (Option.some.inj e7)
        rw [g1] at k2
        obtain rfl := Option.some.inj k2
        cases ry
        exact o_bin (hc c _ e2) M tk I e3 e6 l
  | [], d, q => exact q.elim
  | [_], d, q => exact q.elim
  | _ :: _ :: _ :: _, d, q => exact q.elim
theorem s_omul {a b : E} {x y : Expr} {pos : Pos} (hm : AllM X ce G "__mul__") (hc : ∀ c C, Wc.cls X.K c = some C → PySem.W.selfFirst X.K C = true ∧ ∃ rc fo ro, PySem.W.findIn X.K (.ref C) "__rmul__" = some rc ∧ (rc = none ∨ ∃ g : Addr, rc = some (.ref g)) ∧ PySem.W.findIn X.K (.type "int") "__mul__" = some fo ∧ PySem.W.findIn X.K (.type "int") "__rmul__" = some ro ∧ PySem.W.subIn X.K (.type "int") (.ref C) = some false) (tk : Takes X Wx) (ha : SE X ce Wx G a x) (hb : SE X ce Wx G b y) : SE X ce Wx G (.mo .mul (e2 a b)) (.BinOp x .Mult y pos) := by
  refine sm_ofV rfl rfl (PE.imp (pe_opS (r := fun σ x y H Q => moV X ce Wx G .mul σ [x, y] H Q) ?_ ha.v hb.v) fun σ H Q h => rs_two (lift_mo h))
  intro pins s σ H x y v u Q I rx ry h
  obtain ⟨F, z, ds, Q0, E0, R, d, q, hQ, hE⟩ := h
  match ds, d, q with
  | [p, p2], d, q =>
    obtain ⟨q0, q⟩ := q
    obtain ⟨c, C, a, dx, t, e1, e2, e3, mask, sp, e4, l⟩ := me_open (ce := ce) R d q hQ hE
    obtain rfl := head_two e1
    cases rx
    obtain ⟨k, ad, fd, ps, M, _⟩ := hm c C mask sp e4 e2
    cases d with
    | cons d1 d2 =>
      cases d2 with
      | cons d2 d3 =>
        obtain ⟨n, rfl⟩ := q0
        cases d2
        obtain ⟨tk', rfl⟩ := ry
        obtain ⟨k1, rc, fo, ro, k2, k3, k4, k5, k6⟩ := hc c C e2
        exact o_binT (T := "int") rfl k1 M k2 k3 k4 k5 k6 tk I e3 (show L2.RelV (V.int n) (Value.int n tk') from ⟨_, rfl⟩) l
  | [], d, q => exact q.elim
  | [_], d, q => exact q.elim
  | _ :: _ :: _ :: _, d, q => exact q.elim
/-! ### thing(..) -/
/-- what is called is an instance -/
def InstV (u : Value) (h : Heap) : Prop := ∃ (x C : Addr) (ox : Obj) (od : Option Obj), u = .ref x ∧ ox.data = .plain ∧ PySem.W.InstAt h x ox C od
theorem ocallWith_of {M : Model} {A : Around} {E : Value → Shared → Prop} {s : Shared} {pos : Pos} {u : Value} {first : List Value} {Q : Value → Shared → Prop} {args : List (Bool × Sem Value)} {keywords : List (Option Str × Sem Value)} (hplain : (args.any (·.1) || keywords.any (·.1.isNone)) = false)
    (h : wpAny M A (evalArgs u true args keywords) (fun a s₁ => InstV u s₁.heap ∧ wpAny M A (call u (first ++ a.pos) a.kw) Q E s₁) E s) : wpAny M A (callWith pos u first args keywords) Q E s := by
  unfold callWith
  refine wpAny_bind (wpAny_holding (wpAny_mono h (fun a s₁ h₁ => wpAny_bind (wpAny_standAt ?_)) fun _ _ y => y))
  obtain ⟨⟨x, C, ox, od, rfl, hd, I⟩, h₁⟩ := h₁
  have L := PySem.W.kco_keeper (M := M) I hd
  simp only [hplain]
  refine wpAny_bind (L.here ?_)
  have tail : ∀ {t : Sem Value}, wpAny M A t Q E s₁ → wpAny M A (t >>= fun r => holding [r] point >>= fun _ => pure r) Q E s₁ :=
    fun ht => wpAny_bind (wpAny_mono ht (fun r s₂ hr => wpAny_bind (wpAny_holding (wpAny_point (wpAny_pure hr)))) fun _ _ y => y)
  exact tail (PySem.wpAny_operateT h₁)
theorem ocallWith {M : Model} {A : Around} {E : Value → Shared → Prop} {s : Shared} {env : Env} {pos : Pos} {u : Value} {first : List Value} {Q : Value → Shared → Prop} {e : Expr} {rest : List Expr}
    (h : wpAny M A (spliced (backTo pos (starEach (e :: rest) env))) (fun vs s₁ => InstV u s₁.heap ∧ wpAny M A (call u (first ++ vs)) Q E s₁) E s)
    (he : starEach (e :: rest) env = (false, eval e env) :: starEach rest env) (hplain : (backTo pos (starEach rest env)).any (·.1) = false) :
    wpAny M A (callWith pos u first (backTo pos (starEach (e :: rest) env)) []) Q E s := by
  rw [he] at h ⊢
  exact ocallWith_of (by show ((false || (backTo pos (starEach rest env)).any (·.1)) || false) = false; rw [hplain]; rfl) (PySem.Calls.evalArgs_plain h)
theorem s_ocall {f a : E} {as : Es} {g e : Expr} {es : List Expr} {pos : Pos} (hm : AllM X ce G "__call__") (tk : Takes X Wx) (hf : SE X ce Wx G f g) (hs : SndEs X ce Wx G (.cons a as) (e :: es))
    (he : ∀ {Q : Value → Shared → Prop} {E : Value → Shared → Prop} {s : Shared}, wpAny (model X.prog X.w) X.A (eval g X.env) (fun f s₁ => wpAny (model X.prog X.w) X.A (callWith pos f [] (backTo pos (starEach (e :: es) X.env)) []) Q E s₁) E s → wpAny (model X.prog X.w) X.A (eval (.Call g (e :: es) [] pos) X.env) Q E s) :
    SE X ce Wx G (.mo .call (.cons f (.cons a as))) (.Call g (e :: es) [] pos) := by
  refine sm_ofV rfl rfl ⟨fun pins s σ H Q I h => ?_⟩
  obtain ⟨F, τ, ρ, Q0, E0, hl, R, q, hQ, hE⟩ := lift_mo (G := G) (k := .call) (as := .cons f (.cons a as)) h
  refine he ?_
  have pf := hf.v.run pins s σ H (fun v H1 => ∃ F1 ρ1 r, ρ1.length = σ.length ∧ Same F F1 ∧ Rp X.K F1 H1 ((r.sl, some v) :: ZE τ ρ1 σ) ∧ (Ws G (.cons a as)).rs ρ1 (fun xs ρ2 => Q0 (r :: xs) ρ2) E0) I ⟨F, τ, ρ, _, E0, hl, R, q, fun r ρ1 F1 H1 v q1 l1 s1 R1 => ⟨F1, ρ1, r, l1, s1, R1, q1⟩, hE⟩
  refine thn pf fun u s1 ⟨v, H1, I1, r1, F1, ρ1, r, l1, s1', R1, q1⟩ => ?_
  refine ocallWith ?_ (star_cons hs.1.ns) (nostars hs.2)
  have pa := (pa_rs hs).run pos pins s1 σ H1 (fun vs H2 => moV X ce Wx G .call σ (v :: vs) H2 Q) I1 ⟨F1, (r.sl, some v) :: τ, ρ1, _, E0, l1, R1, q1, fun xs ρ2 F2 H2 vs q2 l2 s2 R2 n2 => ?_, XOK.sub (ω := [_]) hE s1'⟩
  · refine thn pa fun us s2 ⟨vs, H2, I2, r2, F2, z, ds, Q1, E1, R2, d, q2, hQ2, hE2⟩ => ?_
    obtain ⟨c, C, b, dx, t, e1, e2, e3, mask, sp, e4, l⟩ := me_open (ce := ce) R2 d q2 hQ2 hE2
    obtain rfl : v = .ref b := Option.some.inj e1
    cases r1
    obtain ⟨k, ad, fd, ps, M, hfn⟩ := hm c C mask sp e4 e2
    obtain ⟨od, J⟩ := inst_pl I2 e3
    exact ⟨⟨b, C, _, _, rfl, rfl, J⟩, o_call M hfn tk I2 e3 r2 l⟩
  · refine hQ (r :: xs) ρ2 F2 H2 (v :: vs) q2 l2 (Same.tr s1' s2) ?_ (by simp [n2])
    have : rsZ (r :: xs) (v :: vs) ++ ZE τ ρ2 σ = rsZ xs vs ++ ZE ((r.sl, some v) :: τ) ρ2 σ := by simp [rsZ, ZE]
    rw [this]
    exact R2
/-! ### properties, fields -/
theorem s_oprop {f : Str} {a : E} {e : Expr} {pos : Pos} (hm : ∀ c C mask sp, G.mt c f = some (mask, sp) → Wc.cls X.K c = some C → PrpOk X C f (liftSp X.K ce mask sp)) (hc : ∀ c C, Wc.cls X.K c = some C → Cls X.K C) (hb : bareCall e = false) (ha : SE X ce Wx G a e) : SE X ce Wx G (.mo (.prop f) (e1 a)) (.Attribute e f pos) := by
  refine sm_ofV rfl rfl ⟨fun pins s σ H Q I h => ?_⟩
  refine attr_of (attr_base hb) (thn (ha.v.run pins s σ H _ I (rs_one (lift_mo h))) fun v s1 ⟨y, H1, I1, r1, q1⟩ => ?_)
  obtain ⟨F, z, ds, Q0, E0, R, d, q, hQ, hE⟩ := q1
  have q : meR G.mt f ds Q0 fun _ => False := by
    match ds, q with
    | [_], q => exact q
    | [], q => exact q.elim
    | _ :: _ :: _, q => exact q.elim
  unfold meR at q
  match ds, q, d with
  | [], q, _ => exact q.elim
  | x :: ds, q, d =>
    simp only [List.head?_cons, Option.bind_some] at q
    cases e1 : objOf x with
    | none => rw [e1] at q; exact q.elim
    | some p =>
      obtain ⟨c, t⟩ := p
      rw [e1] at q
      dsimp only at q
      cases e2 : G.mt c f with
      | none => rw [e2] at q; exact q.elim
      | some ms =>
        obtain ⟨mask, sp⟩ := ms
        rw [e2] at q
        obtain rfl := objOf_eq e1
        have lift := me_lift (ce := ce) (E := fun _ _ _ => False) R d q.1 q.2 hQ (fun _ _ _ _ _ z => z.elim)
        cases d with
        | cons d1 d2 =>
          cases d2
          obtain ⟨a, C, dx, rfl, g1, g2, g3⟩ := dd_obj d1
          cases r1
          obtain ⟨p, g, k, fd, ps, hp, Fn, hr, hg, hbd⟩ := hm c C mask sp e2 g1
          exact o_prop (hc c C g1) hp Fn hr hg hbd I1 (R.sub _ _ g2) lift
theorem s_ofld {a : E} {c : Nat} {f : Str} {e : Expr} {pos : Pos} (hf : Wc.fld c = f) (hc : ∀ C, Wc.cls X.K c = some C → Cls X.K C ∧ NoAttr X.K C f) (hb : bareCall e = false) (ha : SE X ce Wx G a e) : SE X ce Wx G (.fld a c) (.Attribute e f pos) := by
  refine sm_ofV rfl rfl (PE.imp (pe_fld ha.v (attr_base hb)) ?_)
  rintro σ H Q ⟨F, τ, ρ, Q0, E0, hl, R, q, hQ, hE⟩
  refine ⟨F, τ, ρ, _, E0, hl, R, q, fun r ρ1 F1 H1 v q1 l1 s1 R1 => ?_, hE⟩
  obtain ⟨F2, g1, R2, d2⟩ := frz_one R1
  cases e1 : objOf r.data with
  | none => rw [e1] at q1; exact q1.elim
  | some p =>
    obtain ⟨c', t⟩ := p
    rw [e1] at q1
    obtain ⟨rfl, q1⟩ := q1
    rw [objOf_eq e1] at d2
    obtain ⟨b, C, dx, rfl, k1, k2, k3⟩ := dd_obj d2
    obtain ⟨k4, k5⟩ := hc C k1
    refine ⟨b, C, dx, _, .str t, rfl, R2.sub _ _ k2, k4, k5, by rw [hf]; simp [List.lookup], ?_⟩
    exact hQ _ ρ1 F2 H1 _ q1 l1 (Same.tr s1 g1) (R2.tail.consD (.str t))
/-! ### new objects -/
theorem Rp.consH {K : PySem.W.Frag} {F H : Hp} {z : Zs} {a : Addr} {o : HO} (R : Rp K F H z) (hF : F a = none) (hH : H a = some o) (hn : a ∉ z.filterMap ownA) : Rp K F H ((.h o, some (.ref a)) :: z) := ⟨R.sub, fun q hq => by
  rcases List.mem_cons.mp hq with rfl | hq
  · exact ⟨hF, hH⟩
  · exact R.ok q hq, by
  rw [List.filterMap_cons]
  exact List.nodup_cons.mpr ⟨hn, R.nd⟩⟩
theorem Rp.notinH {K : PySem.W.Frag} {F H : Hp} {z : Zs} {a : Addr} {o : HO} (R : Rp K F H ((.h o, some (.ref a)) :: z)) : a ∉ z.filterMap ownA := by
  have h := R.nd
  rw [List.filterMap_cons] at h
  exact (List.nodup_cons.mp h).1
/-- a thing held apart, changed -/
theorem Rp.writeH {K : PySem.W.Frag} {F H : Hp} {z : Zs} {a : Addr} {o o' : HO} (R : Rp K F H ((.h o, some (.ref a)) :: z)) : Rp K F (upd H a o') ((.h o', some (.ref a)) :: z) := by
  obtain ⟨h1, h2⟩ := R.head
  refine Rp.consH (R.tail.step (fun _ _ e => e) (fun b u e => ?_) fun b hb => ?_) h1 upd_same R.notinH
  · rw [upd_ne (ne_of_none e h1)]
    exact R.sub _ _ e
  · have hne : b ≠ a := fun e => R.notinH (e ▸ hb)
    exact ⟨(R.tail.own hb).1, upd_ne hne⟩
/-- a thing held apart is frozen -/
theorem Rp.frzH {K : PySem.W.Frag} {F H : Hp} {z : Zs} {a : Addr} {o : HO} (R : Rp K F H ((.h o, some (.ref a)) :: z)) : Same F (upd F a o) ∧ Rp K (upd F a o) H z := by
  obtain ⟨h1, h2⟩ := R.head
  have hF : Same F (upd F a o) := same_upd0 h1
  refine ⟨hF, R.tail.step hF (fun b u e => ?_) fun b hb => ?_⟩
  · by_cases e1 : b = a
    · subst e1
      rw [upd_same] at e
      cases e
      exact h2
    · rw [upd_ne e1] at e
      exact R.sub _ _ e
  · have hne : b ≠ a := fun e => R.notinH (e ▸ hb)
    exact ⟨by rw [upd_ne hne]; exact (R.tail.own hb).1, rfl⟩
theorem Rp.frzObj {K : PySem.W.Frag} {F H : Hp} {z : Zs} {a dx C : Addr} {c : Nat} {t : Str} (hc : Wc.cls K c = some C) (R : Rp K F H ((.h (.ins C dx [(Wc.fld c, .str t)]), some (.ref a)) :: (.h (.own a), some (.ref dx)) :: z)) : ∃ F', Same F F' ∧ Rp K F' H ((.d (objD c t), some (.ref a)) :: z) := by
  obtain ⟨s1, R1⟩ := R.frzH
  obtain ⟨s2, R2⟩ := R1.frzH
  refine ⟨_, Same.tr s1 s2, R2.consD (.ins c hc ?_ upd_same rfl)⟩
  exact s2 _ _ upd_same
/-- the promise of an __init__ that keeps a text -/
def iniSp (K : PySem.W.Frag) (ce : ExcT) (c : Nat) (C : Addr) (sp : PyData → (Str → Prop) → (Exc → Prop) → Prop) : Sp := fun vs H Q E => ∃ F z a dx v x Q0 E0, vs = [.ref a, v] ∧ Rp K F H ((.h (.ins C dx []), some (.ref a)) :: (.h (.own a), some (.ref dx)) :: z) ∧ DD K F v x ∧ sp x Q0 E0 ∧
  (∀ t F' H', Q0 t → Same F F' → Rp K F' H' ((.h (.ins C dx [(Wc.fld c, .str t)]), some (.ref a)) :: (.h (.own a), some (.ref dx)) :: z) → Q .non H') ∧
  ∀ e F' H' cls d, E0 e → Same F F' → Rp K F' H' z → ExcR ce e cls d H' → E cls d H'
def CtOk (X : Cx) (ce : ExcT) (c : Nat) (C : Addr) (sp : PyData → (Str → Prop) → (Exc → Prop) → Prop) : Prop := ∃ fI k fd ps, Mk X.K C fI ∧ FnG X.prog X.w X.K X.mg X.base k fI fd ps (iniSp X.K ce c C sp) ∧ Room (k + 1) X.A ∧ X.A.guards = some [] ∧ Binds X.K fd ps []
theorem s_new {c : Nat} {C : Addr} {a : E} {e : Expr} {x : Str} {p pos : Pos} (hC : Wc.cls X.K c = some C) (hm : ∀ sp, G.ct c = some sp → CtOk X ce c C sp) (hk : PySem.W.keepIn X.K (.ref C) = true) (tk : Takes X Wx) (hg : Gl X x) (hmg : X.mg x = some (.ref C)) (hdb : (x == ("__debug__" : Str)) = false) (ha : SE X ce Wx G a e) :
    SE X ce Wx G (.new c a) (.Call (.Name x p) [e] [] pos) := by
  refine sm_ofV rfl rfl ⟨fun pins s σ H Q I h => ?_⟩
  obtain ⟨F, τ, ρ, Q0, E0, hl, R, q, hQ, hE⟩ := h
  refine wpAny_Call_Name_kw (ld_glob I hg hmg ?_ hdb)
  have sa : SndEs X ce Wx G (e1 a) [e] := ⟨ha, trivial⟩
  refine PySem.W.callWith_K (h₀ := X.base) I.ok.mod.kin hk ?_ (star_cons ha.ns) (nostars sa.2)
  have pa := (pa_cons ha.v pa_nil (star_cons ha.ns)).run pos pins s σ H (fun vs H1 => ∃ (F1 : Hp) (ρ1 : FE) (r : Rs) (v : V), vs = [v] ∧ ρ1.length = σ.length ∧ Same F F1 ∧ Rp X.K F1 H1 ((r.sl, some v) :: ZE τ ρ1 σ) ∧ (match G.ct c with
      | some sp => sp r.data (fun z => Q0 (.d (objD c z)) ρ1) fun x => E0 x ρ1
      | none => False)) I ⟨F, τ, ρ, _, E0, hl, R, q, fun r ρ1 F1 H1 v q1 l1 s1 R1 => ⟨F1, ρ1, r, v, rfl, l1, s1, R1, q1⟩, hE⟩
  refine thn pa fun us s1 ⟨vs, H1, I1, r1, F1, ρ1, r, v, ev, l1, s1', R1, q1⟩ => ⟨I1.kIn, ?_⟩
  subst ev
  cases e1 : G.ct c with
  | none => rw [e1] at q1; exact q1.elim
  | some sp =>
    rw [e1] at q1
    obtain ⟨fI, k, fd, ps, M, Fn, hr, hgd, hb⟩ := hm sp e1
    obtain ⟨F2, g1, R2, d2⟩ := frz_one R1
    refine o_make M Fn hr hgd hb tk I1 r1 fun xa dx nx ndx ne => ?_
    have hF : ∀ b, H1 b = none → F2 b = none := fun b hb => by
      cases q : F2 b with
      | none => rfl
      | some o => rw [R2.sub _ _ q] at hb; cases hb
    have sH : Same H1 (upd (upd H1 dx (.own xa)) xa (.ins C dx [])) := fun b u eb => by
      rw [upd_ne (ne_of_none eb nx), upd_ne (ne_of_none eb ndx)]
      exact eb
    have R3 : Rp X.K F2 (upd (upd H1 dx (.own xa)) xa (.ins C dx [])) (ZE τ ρ1 σ) := R2.tail.grow (fun _ _ e => e) (Same.tr R2.sub sH) sH fun _ h => .inl h
    have nown : ∀ b, H1 b = none → b ∉ (ZE τ ρ1 σ).filterMap ownA := fun b hb hm => by
      obtain ⟨_, u, q⟩ := R2.tail.own hm
      rw [q] at hb
      cases hb
    have R4 : Rp X.K F2 (upd (upd H1 dx (.own xa)) xa (.ins C dx [])) ((.h (.own xa), some (.ref dx)) :: ZE τ ρ1 σ) := R3.consH (hF _ ndx) (by rw [upd_ne ne, upd_same]) (nown _ ndx)
    have R5 := R4.consH (a := xa) (o := .ins C dx []) (hF _ nx) upd_same (by
      show xa ∉ (dx :: (ZE τ ρ1 σ).filterMap ownA)
      exact fun hm => (List.mem_cons.mp hm).elim (fun z => ne z.symm) (nown _ nx))
    refine ⟨F2, ZE τ ρ1 σ, xa, dx, v, r.data, _, _, rfl, R5, d2, q1, fun t F' H' q2 s2 R6 => ⟨rfl, ?_⟩, fun x F' H' cls d q2 s2 R6 hx => hE x ρ1 F' H' cls d q2 l1 (Same.tr s1' (Same.tr g1 s2)) R6 hx⟩
    obtain ⟨F3, s3, R7⟩ := R6.frzObj hC
    exact hQ _ ρ1 F3 H' _ q2 l1 (Same.tr s1' (Same.tr g1 (Same.tr s2 s3))) R7
/-! ### isinstance(x, C), a text so many times -/
theorem ty_any {F H : Hp} {v : V} {d : PyData} (hs : Same F H) (h : DD X.K F v d) (he : eqOk d = true) (hc : ∀ c C, Wc.cls X.K c = some C → C8.InsC X.K C) : ∃ t, L2.TyX X.K H v t ∧
    ((∃ c z C, d = objD c z ∧ Wc.cls X.K c = some C ∧ t = .ref C) ∨ (objOf d = none ∧ ∃ T ∈ ["NoneType", "bool", "int", "str", "list", "tuple"], t = .type T)) := by
  cases d with
  | none => cases h; exact ⟨_, .base .non, .inr ⟨rfl, _, by simp, rfl⟩⟩
  | bool b => cases h; exact ⟨_, .base (.bl b), .inr ⟨rfl, _, by simp, rfl⟩⟩
  | int b => cases h; exact ⟨_, .base (.int b), .inr ⟨rfl, _, by simp, rfl⟩⟩
  | str b => cases h; exact ⟨_, .base (.str b), .inr ⟨rfl, _, by simp, rfl⟩⟩
  | list xs =>
    cases h with
    | lst h1 h2 => exact ⟨_, .base (.lst (hs _ _ h1)), .inr ⟨rfl, _, by simp, rfl⟩⟩
  | tuple xs =>
    cases h with
    | tup h1 h2 =>
      rcases sqT_mono hs h1 with (h | ⟨o, h⟩) | ⟨o, its, n, h, hcl, _⟩
      · exact ⟨_, .base (.tup h), .inr ⟨rfl, "tuple", by simp, rfl⟩⟩
      · exact ⟨_, .fTuple h, .inr ⟨rfl, "tuple", by simp, rfl⟩⟩
      · exact ⟨_, .kTuple h hcl, .inr ⟨rfl, "tuple", by simp, rfl⟩⟩
  | dict kvs =>
    have he : (objOf (.dict kvs)).isSome = true := he
    cases e : objOf (.dict kvs) with
    | none => rw [e] at he; cases he
    | some p =>
      obtain ⟨c, z⟩ := p
      have e2 := objOf_eq e
      rw [e2] at h
      obtain ⟨a, C, dx, rfl, h1, h2, _⟩ := dd_obj h
      have ic := hc c C h1
      exact ⟨_, .base (.ins (hs _ _ h2) ic.cl ic.ha ic.hn ic.htk ic.hm), .inl ⟨c, z, C, e2, h1, rfl⟩⟩
theorem s_isO {a : E} {c : Nat} {C : Addr} {e : Expr} {x : Str} {p1 p2 pos : Pos} (hg : Gl X "isinstance") (hm : X.mg "isinstance" = none) (hC : Wc.cls X.K c = some C) (gC : Gl X x) (mC : X.mg x = some (.ref C)) (dC : (x == ("__debug__" : Str)) = false)
    (hc : ∀ c C, Wc.cls X.K c = some C → C8.InsC X.K C) (hkT : ∀ T ∈ ["NoneType", "bool", "int", "str", "list", "tuple"], PySem.W.kitOne X.K (.type T) (.ref C) = some false) (hkC : ∀ c' C', Wc.cls X.K c' = some C' → PySem.W.kitOne X.K (.ref C') (.ref C) = some (c' == c)) (ha : SE X ce Wx G a e) :
    SE X ce Wx G (.isO a c) (.Call (.Name "isinstance" p1) [e, .Name x p2] [] pos) := by
  have bt : bootBuiltins ("isinstance" : Str) = some (.builtin "isinstance") := by decide +kernel
  refine sm_ofV rfl rfl (PE.imp (pe_callB (pos := pos) (p := p1) L2.call_isi hg hm bt (pa_cons ha.v (pa_cons (pe_glob (v := .ref C) (pos := p2) gC mC rfl dC) pa_nil) (star_cons ha.ns)) (by decide) (by decide) (star_cons ha.ns) rfl) ?_)
  rintro σ H Q ⟨F, τ, ρ, Q0, E0, hl, R, q, hQ, hE⟩
  refine ⟨F, τ, ρ, _, E0, hl, R, q, fun r ρ1 F1 H1 v q1 l1 s1 R1 => ?_, hE⟩
  obtain ⟨F2, g1, R2, d2⟩ := frz_one R1
  obtain ⟨t, ty, h⟩ := ty_any (X := X) R2.sub d2 q1.1 hc
  refine ⟨v, .ref C, t, .ref C, _, rfl, .own C, ty, ?_, hQ _ ρ1 F2 H1 _ q1.2 l1 (Same.tr s1 g1) (R2.tail.consD (.bl _))⟩
  rcases h with ⟨c', z, C', e1, e2, rfl⟩ | ⟨e1, T, hT, rfl⟩
  · rw [e1]
    exact hkC c' C' e2
  · rw [e1]
    exact hkT T hT
/-- a text so many times -/
theorem repS_len (z : Str) : ∀ n : Nat, (repS z n).cps.toList = (List.replicate n z.cps.toList).flatten := by
  have key : ∀ (l : List (Array Nat)) (acc : Array Nat), (l.foldl (· ++ ·) acc).toList = acc.toList ++ (l.map Array.toList).flatten := by
    intro l
    induction l with
    | nil => intro acc; simp
    | cons x l ih => intro acc; simp [ih]
  intro n
  unfold repS
  rw [key]
  simp
theorem str_ext {a b : Str} (h : a.cps.toList = b.cps.toList) : a = b := by
  cases a
  cases b
  congr
  exact Array.toList_inj.mp h
theorem op_smul : OpR X (binaryOp .Mult) (fun x y H Q => ∃ z j, x = .str z ∧ y = .int j ∧ -(2 ^ 63) ≤ j ∧ j < 2 ^ 63 ∧ z.length * j.toNat ≤ sizeLine ∧ Q (.str (repS z j.toNat)) H) := by
  rintro pins s σ H x y v u Q I rx ry ⟨z, j, rfl, rfl, h1, h2, h3, q⟩
  obtain ⟨t, rfl⟩ := rx
  obtain ⟨t', rfl⟩ := ry
  have e : sizeLine = 16777216 := rfl
  refine PySem.P.mul_str (by simp; omega) (fun g1 g2 => ?_) (fun g1 g2 => ?_) ?_
  · rw [Bool.or_eq_false_iff] at g2
    have : (z.length : Int) * j ≤ 16777216 := by
      have e1 : ((z.length * j.toNat : Nat) : Int) = (z.length : Int) * j := by
        rw [Int.natCast_mul]
        congr 1
        omega
      rw [← e1]
      omega
    have h4 : (z.length : Int) ≤ 16777216 := by
      have : (z.length : Int) * 1 ≤ z.length * j := Int.mul_le_mul_of_nonneg_left (by omega) (by omega)
      omega
    have : (2 ^ 63 - 1 : Int) / j ≥ (z.length : Int) := by
      rw [ge_iff_le, Int.le_ediv_iff_mul_le (by omega)]
      omega
    omega
  · unfold Builtin.Str.tooLong
    simp
    omega
  · have hlen : (repS z j.toNat).length = j.toNat * z.length := by
      show (repS z j.toNat).cps.size = _
      rw [← Array.length_toList, repS_len, PyProof.Rows.lm_len_rep_flat, Array.length_toList]
      rfl
    by_cases g1 : j < 1
    · rw [if_pos g1]
      have e0 : j.toNat = 0 := by omega
      rw [e0] at q
      exact ⟨by decide, .str _, H, I.tok _, ⟨_, rfl⟩, q⟩
    · rw [if_neg g1]
      split
      · rename_i g2
        have e1 : repS z j.toNat = z := by
          apply str_ext
          rw [repS_len]
          rw [Bool.or_eq_true] at g2
          rcases g2 with g2 | g2
          · have : j = 1 := by simpa using g2
            subst this
            simp
          · have : z.cps.toList = [] := by
              have h0 : z.cps.size = 0 := beq_iff_eq.mp g2
              exact List.eq_nil_of_length_eq_zero (by simpa using h0)
            rw [this]
            simp
        rw [e1] at q
        exact ⟨.str _, H, I, ⟨_, rfl⟩, q⟩
      · exact ⟨by show (repS z j.toNat).length ≤ _; rw [hlen, Nat.mul_comm]; exact h3, .str _, H, I.tok _, ⟨_, rfl⟩, q⟩
theorem s_smul {a b : E} {x y : Expr} {pos : Pos} (ha : SE X ce Wx G a x) (hb : SE X ce Wx G b y) : SE X ce Wx G (.smul a b) (.BinOp x .Mult y pos) := by
  refine sm_ofV rfl rfl (PE.imp (pe_op op_smul ha.o hb.o) ?_)
  rintro σ H Q ⟨F, τ, ρ, Q0, E0, hl, R, q, hQ, hE⟩
  refine ⟨F, τ, ρ, _, E0, hl, R, q, fun x ρ1 F1 H1 v q1 l1 s1 R1 a1 => ?_, hE⟩
  refine ⟨F1, opZ x v ++ τ, ρ1, _, E0, l1, by rw [ZE, List.append_assoc]; exact R1, q1, fun y ρ2 F2 H2 w q2 l2 s2 R2 a2 => ?_, hE.sub s1⟩
  have R3 : Rp X.K F2 H2 ((opZ y w ++ opZ x v) ++ ZE τ ρ2 σ) := by simpa [ZE] using R2
  cases e : gets ρ2 [x, y] with
  | none => rw [e] at q2; exact q2.elim
  | some ds =>
    rw [e] at q2
    have d := ops_view (os := [x, y]) (vs := [v, w]) (ω := opZ y w ++ opZ x v) R3 (fun p hp => by simpa [opsZ] using hp) l2 ⟨a1, a2, trivial⟩ e
    obtain ⟨p, p2, rfl, d1, d2⟩ := dvs2 d
    cases p <;> cases p2 <;> try exact q2.elim
    case str.int z j =>
      obtain rfl := dv_str d1
      obtain rfl := dv_int d2
      exact ⟨z, j, rfl, rfl, q2.1, q2.2.1, q2.2.2.1, hQ _ ρ2 F2 H2 _ q2.2.2.2 l2 (Same.tr s1 s2) (R3.app.consD (.str _))⟩
theorem s_nev {e : Expr} (hn : isStar e = false) (hp : plainT e = true) : SE X ce Wx G .nev e := sm_ofV hn hp ⟨fun pins s σ H Q I ⟨F, τ, ρ, Q0, E0, hl, R, q, _⟩ => False.elim q⟩
end
end FX
set_option maxHeartbeats 2000000
namespace FX
variable [Wc]
open PySem PySem.Spec PyProof.Rows L2
/-! ### more of such objects: len, index, in, ==, != -/
theorem on_slot : Slot "object" "__ne__" "object.__ne__" := Slot.of (T := "object") (name := "__ne__") (owner := "object") (n := "__ne__") (by rw [typeLookup_type, builtinLookup_eq_fast]; kernel_rfl) (by decide +kernel) (by decide +kernel) (by decide +kernel)
    (.inl (by decide +kernel)) (by rw [isSubtype_type]; kernel_rfl)
open PySem.W in
theorem ifBound_ne {M : Model} {A : Around} {E : Value → Shared → Prop} {s : Shared} {K : Frag} {x C : Addr} {ox : Obj} {od : Option Obj} {args : List Value} {Q : Option Value → Shared → Prop} (X : K.In s.heap) (I : InstAt s.heap x ox C od) (hs : findIn K (.ref C) "__ne__" = some (some (.builtin "object.__ne__")))
    (h : wpAny M A (call (.builtin "object.__ne__") (.ref x :: args)) (fun v => Q (some v)) E s) : wpAny M A (callSpecialIfBound? (.ref x) "__ne__" args) Q E s := by
  simp only [callSpecialIfBound?, bindSpecialIfBound?]
  refine wpAny_holding (wpAny_bind (wpAny_bind (wpAny_bind (I.type.here ((looks_findIn X hs).here ?_)))))
  refine wpAny_bind (wpAny_askSetting (wpAny_ite ?_))
  have fin : wpAny M A (call (.builtin "object.__ne__") ([.ref x] ++ args) >>= fun v => pure (some v)) Q E s := wpAny_bind (wpAny_mono h (fun v s' h' => wpAny_pure h') fun _ _ h' => h')
  split
  · rw [on_slot.bind]
    exact wpAny_bind (wpAny_pure (wpAny_pure (by exact fin)))
  · rw [on_slot.bind]
    exact wpAny_tryCatch (wpAny_bind (wpAny_pure (wpAny_pure (by exact fin))))
section
variable {X : Cx} {W : WX} {C a dx ad : Addr} {name : Str} {k : Nat} {fd : FuncData} {ps : List Str} {sp : Sp} {pins : List (Addr × Obj)} {s : Shared} {σ : L2.St} {H : Hp} {Q : VK} {fs : List (Str × V)}
open PySem.W in
theorem o_ne {v : V} {u tb : Value} (hu : X.A.units + 1 < cLine) (M : MethG X C "__eq__" k ad fd ps sp) (hne : findIn X.K (.ref C) "__ne__" = some (some (.builtin "object.__ne__"))) (hm : mroIn X.K C (.type "object") = some true) (tk : Takes X W) (I : Inv X pins σ H s) (ea : H a = some (.ins C dx fs)) (rv : RelV v u)
    (hb : Looks (model X.prog X.w) s.heap (typeOf u) tb) (hn : notFirst X.K C tb = true) (h : sp [.ref a, v] H (fun r H1 => ∃ b, r = .bl b ∧ Q (.bl (!b)) H1) (WE W σ)) :
    wpAny (model X.prog X.w) X.A (richCompare .NotEq (.ref a) u) (EP X pins σ Q) X.xe s := by
  obtain ⟨ox, od, J⟩ := inst_at I ea
  have X0 := I.kIn
  have hi : Looks (model X.prog X.w) s.heap (isInstance (.ref a) (.type "object")) true := J.type.andThen (looks_mroIn X0 hm)
  have body : wpAny (model X.prog X.w) X.A.in1 (Builtin.«object.__ne__» ⟨[.ref a, u], []⟩) (fun f s' => ∃ b, f = .done (.ret (.bool b)) ∧ EP X pins σ Q (.bool b) s') X.xe s := by
    unfold Builtin.«object.__ne__»
    repeat (first
      | with_reducible refine wpAny_cRoomFor (by show X.A.units + 1 < cLine; exact hu) ?_
      | (refine wpAny_bind (m := callSpecialIfBound? (.ref a) (Str.ofString "__eq__") [u])
          (ifBound_K X0 J M.at_ M.isf (wpAny_mono (run_G1 M.fn M.rm M.gd M.bd tk I (.cons (show L2.RelV (V.ref a) (Value.ref a) from rfl) (.cons rv .nil)) h) (fun r s' hr => by
            obtain ⟨v', H', I', r', b, rfl, q⟩ := hr
            obtain rfl : r = Value.bool b := r'
            have hq : ∃ b', (Fin.done (.ret (.bool (!b))) : Fin) = .done (.ret (.bool b')) ∧ EP X pins σ Q (.bool b') s' := ⟨_, rfl, .bl (!b), H', I', rfl, q⟩
            repeat (first | exact hq | exact wpAny_pure hq | exact wpAny_truthy_bool hq | (refine wpAny_bind (m := truthy (.bool _)) (wpAny_truthy_bool ?_)) | wp_step)) fun _ _ e => e)))
      | wp_step)
  have one : wpAny (model X.prog X.w) X.A (tryCompare (.ref a) "__ne__" u) (fun r s' => ∃ v, r = some v ∧ EP X pins σ Q v s') X.xe s := by
    unfold tryCompare
    refine wpAny_bind (ifBound_ne X0 J hne (wpAny_call (codeAny_call_builtin on_slot.plain F.cmpEntry_ne (check_slot F.cmpKind_ne F.cmpSplit_ne hi (F.cmpArgs_ne _ _) (wpAny_mono body (fun f s' hf => ?_) fun _ _ e => e)))))
    obtain ⟨b, rfl, hq⟩ := hf
    first | exact wpAny_pure ⟨_, rfl, hq⟩ | exact ⟨_, rfl, hq⟩ | exact wpAny_pure (wpAny_pure ⟨_, rfl, hq⟩)
  unfold richCompare
  simp only [PySem.oneThing_ref]
  refine wpAny_holding (wpAny_bind (wpAny_cRoomFor (Nat.lt_of_succ_lt hu) ?_))
  refine wpAny_bind (J.type.here (wpAny_bind (hb.here ?_)))
  split
  · rename_i q
    have e : PySem.W.subIn X.K tb (.ref C) = some false := by
      rcases Bool.or_eq_true_iff.mp hn with e | e
      · rw [beq_iff_eq.mp e] at q; simp at q
      · exact beq_iff_eq.mp e
    refine wpAny_bind ((PySem.W.looks_subIn X0 e).here ?_)
    simp only [Bool.false_eq_true, if_false]
    refine wpAny_bind (wpAny_mono one (fun r s' z => ?_) fun _ _ e => e)
    obtain ⟨v, rfl, hq⟩ := z
    exact wpAny_pure hq
  · refine wpAny_bind (wpAny_pure ?_)
    simp only [Bool.false_eq_true, if_false]
    refine wpAny_bind (wpAny_mono one (fun r s' z => ?_) fun _ _ e => e)
    obtain ⟨v, rfl, hq⟩ := z
    exact wpAny_pure hq
end
section
variable {X : Cx} {ce : ExcT} {Wx : WX} {G : Gm}
/-- the ways that answer a truth -/
def isBMO : MO → Bool
  | .inn => true
  | .eq => true
  | .ne => true
  | _ => false
theorem moR_bool {mt : Nat → Str → Option (List Bool × FSp)} {k : MO} (hk : isBMO k = true) {ds : List PyData} {Q : Rs → Prop} {E : Exc → Prop} : moR mt k ds Q E = moR mt k ds (fun r => Q r ∧ ∃ b, r = .d (.bool b)) E := by
  have e1 : ∀ f : Bool → Bool, (fun r => ∃ b, r = Rs.d (.bool b) ∧ Q (.d (.bool (f b)))) = (fun r => ∃ b, r = Rs.d (.bool b) ∧ (Q (.d (.bool (f b))) ∧ ∃ b', Rs.d (.bool (f b)) = .d (.bool b'))) := fun f => funext fun r => propext
    ⟨fun ⟨b, h1, h2⟩ => ⟨b, h1, h2, _, rfl⟩, fun ⟨b, h1, h2, _⟩ => ⟨b, h1, h2⟩⟩
  have e2 := e1 id
  have e3 := e1 not
  simp only [id] at e2
  cases k <;> first
    | (cases hk; done)
    | (match ds with
        | [] => rfl
        | [_] => rfl
        | [x, y] =>
          show (meR mt _ _ (fun r => ∃ b, r = Rs.d (.bool b) ∧ Q (.d (.bool b))) _) = (meR mt _ _ (fun r => ∃ b, r = Rs.d (.bool b) ∧ (Q (.d (.bool b)) ∧ ∃ b', Rs.d (.bool b) = .d (.bool b'))) _)
          rw [e2]
        | _ :: _ :: _ :: _ => rfl)
    | (match ds with
        | [] => rfl
        | [_] => rfl
        | [x, y] =>
          show (_ ∧ meR mt _ _ (fun r => ∃ b, r = Rs.d (.bool b) ∧ Q (.d (.bool b))) _) = (_ ∧ meR mt _ _ (fun r => ∃ b, r = Rs.d (.bool b) ∧ (Q (.d (.bool b)) ∧ ∃ b', Rs.d (.bool b) = .d (.bool b'))) _)
          rw [e2]
        | _ :: _ :: _ :: _ => rfl)
    | (match ds with
        | [] => rfl
        | [_] => rfl
        | [x, y] =>
          show (_ ∧ meR mt _ _ (fun r => ∃ b, r = Rs.d (.bool b) ∧ Q (.d (.bool (!b)))) _) = (_ ∧ meR mt _ _ (fun r => ∃ b, r = Rs.d (.bool b) ∧ (Q (.d (.bool (!b))) ∧ ∃ b', Rs.d (.bool (!b)) = .d (.bool b'))) _)
          rw [e3]
        | _ :: _ :: _ :: _ => rfl)
theorem mo_t {k : MO} (hk : isBMO k = true) {as : Es} {σ : SV} {H : Hp} {Q : Bool → Hp → Prop} (h : liftT X.K ce Wx (W G (.mo k as)).t σ H Q) : liftV X.K ce Wx (W G (.mo k as)).v σ H fun z H' => ∃ b, z = .bl b ∧ Q b H' := by
  obtain ⟨F, τ, ρ, Q0, E0, hl, R, q, hQ, hE⟩ := h
  have q1 : (Ws G as).rs ρ (fun rs ρ1 => moR G.mt k (rs.map Rs.data) (fun r => truthK (.v r) ρ1 fun b => Q0 b ρ1) fun x => E0 x ρ1) E0 := q
  have e : (fun rs ρ1 => moR G.mt k (rs.map Rs.data) (fun r => truthK (.v r) ρ1 fun b => Q0 b ρ1) fun x => E0 x ρ1) = (fun (rs : List Rs) ρ1 => moR G.mt k (rs.map Rs.data) (fun r => (truthK (.v r) ρ1 fun b => Q0 b ρ1) ∧ ∃ b, r = .d (.bool b)) fun x => E0 x ρ1) := funext fun rs => funext fun ρ1 => moR_bool hk
  rw [e] at q1
  refine ⟨F, τ, ρ, fun r ρ1 => (truthK (.v r) ρ1 fun b => Q0 b ρ1) ∧ ∃ b, r = .d (.bool b), E0, hl, R, q1, fun r ρ1 F1 H1 v ⟨g1, b, g2⟩ l1 s1 R1 => ?_, hE⟩
  subst g2
  cases (show DD X.K F1 v (.bool b) from R1.head)
  exact ⟨b, rfl, hQ b ρ1 F1 H1 g1.2 l1 s1 R1.tail⟩
theorem dd_two {F : Hp} {v w : V} {ds : List PyData} (d : DDs X.K F [v, w] ds) : ∃ p q, ds = [p, q] ∧ DD X.K F v p ∧ DD X.K F w q := by
  cases d with
  | cons d1 d2 =>
    cases d2 with
    | cons d2 d3 =>
      cases d3
      exact ⟨_, _, rfl, d1, d2⟩
/-- a value by its data: its type, as the library asks -/
theorem look_any {F H : Hp} {v : V} {u : Value} {d : PyData} {pins : List (Addr × Obj)} {σ : SV} {s : Shared} (I : Inv X pins σ H s) (rv : RelV v u) (hs : Same F H) (h : DD X.K F v d) (he : eqOk d = true) (hc : ∀ c C, Wc.cls X.K c = some C → C8.InsC X.K C)
    {C : Addr} (hn : ∀ T ∈ ["NoneType", "bool", "int", "str", "list", "tuple"], PySem.W.subIn X.K (.type T) (.ref C) = some false) (hcc : ∀ c' C', Wc.cls X.K c' = some C' → PySem.W.notFirst X.K C (.ref C') = true) :
    ∃ tb, PySem.W.Looks (model X.prog X.w) s.heap (typeOf u) tb ∧ PySem.W.notFirst X.K C tb = true := by
  obtain ⟨t, ty, g⟩ := ty_any (X := X) hs h he hc
  obtain ⟨P, Z, q, _⟩ := kit_of I rv ty
  refine ⟨t, Z.ty _ _ I.kIn q, ?_⟩
  rcases g with ⟨c', z, C', _, e2, rfl⟩ | ⟨_, T, hT, rfl⟩
  · exact hcc c' C' e2
  · have := hn T hT
    unfold PySem.W.notFirst
    rw [this]
    simp
theorem s_oeq {op : CmpOp} {m : MO} {a b : E} {x y : Expr} {pos : Pos} (hop : (op = .Eq ∧ m = .eq) ∨ (op = .NotEq ∧ m = .ne)) (hu : X.A.units + 65 < cLine) (hm : AllM X ce G "__eq__") (hc : ∀ c C, Wc.cls X.K c = some C → C8.InsC X.K C ∧ PySem.W.findIn X.K (.ref C) "__ne__" = some (some (.builtin "object.__ne__")))
    (hn : ∀ c C, Wc.cls X.K c = some C → ∀ T ∈ ["NoneType", "bool", "int", "str", "list", "tuple"], PySem.W.subIn X.K (.type T) (.ref C) = some false) (hcc : ∀ c C, Wc.cls X.K c = some C → ∀ c' C', Wc.cls X.K c' = some C' → PySem.W.notFirst X.K C (.ref C') = true)
    (tk : Takes X Wx) (hy : isSet y = false) (ha : SE X ce Wx G a x) (hb : SE X ce Wx G b y) : SE X ce Wx G (.mo m (e2 a b)) (.Compare x [op] [y] pos) := by
  have ho : ∀ (pins : List (Addr × Obj)) (s : Shared) (σ : SV) (H : Hp) (x y : V) (v u : Value) (Q : VK), Inv X pins σ H s → RelV x v → RelV y u → moV X ce Wx G m σ [x, y] H Q → wpAny (model X.prog X.w) X.A (compareOp op v u) (EP X pins σ Q) X.xe s := by
    intro pins s σ H x y v u Q I rx ry h
    obtain ⟨F, z, ds, Q0, E0, R, d, q, hQ, hE⟩ := h
    obtain ⟨p, p2, rfl, d1, d2⟩ := dd_two d
    have q' : eqOk p2 = true ∧ meR G.mt "__eq__" [p, p2] (fun r => ∃ b, r = .d (.bool b) ∧ Q0 (.d (.bool (if op = .Eq then b else !b)))) (fun _ => False) := by
      rcases hop with ⟨rfl, rfl⟩ | ⟨rfl, rfl⟩
      · exact q
      · exact q
    obtain ⟨c, C, b, dx, t, e1, e2, e3, mask, sp, e4, l⟩ := me_open (ce := ce) (σ := σ) (Wx := Wx) (Q := fun v H' => ∃ b, v = .bl b ∧ Q (.bl (if op = .Eq then b else !b)) H') R d q'.2
      (fun r F' H' v ⟨b, g1, g2⟩ s1 R1 => by
        subst g1
        cases (show DD X.K F' v (.bool b) from R1.head)
        exact ⟨b, rfl, hQ _ F' H' _ g2 s1 (R1.tail.consD (.bl _))⟩) (fun _ _ _ _ _ g => g.elim)
    obtain rfl := head_two e1
    cases rx
    obtain ⟨k, ad, fd, ps, M, _⟩ := hm c C mask sp e4 e2
    obtain ⟨tb, lk, nf⟩ := look_any I ry R.sub d2 q'.1 (fun c C h => (hc c C h).1) (hn c C e2) (hcc c C e2)
    rcases hop with ⟨rfl, rfl⟩ | ⟨rfl, rfl⟩
    · show wpAny _ _ (richCompare .Eq _ _) _ _ _
      obtain ⟨F0, z0, args0, Q1, E1, k1, k2, k3, k4, k5, k6⟩ := l
      refine o_cmp (op := .Eq) (by omega) M tk I e3 ry (.inr trivial) lk nf ⟨F0, z0, args0, Q1, E1, k1, k2, k3, k4, fun r outs F' H' v g1 g2 g3 g4 => ?_, k6⟩
      obtain ⟨b, rfl, hq⟩ := k5 r outs F' H' v g1 g2 g3 g4
      exact hq
    · show wpAny _ _ (richCompare .NotEq _ _) _ _ _
      exact o_ne (by omega) M (hc c C e2).2 (hc c C e2).1.hm tk I e3 ry lk nf l
  have hk : isBMO m = true := by rcases hop with ⟨_, rfl⟩ | ⟨_, rfl⟩ <;> rfl
  have hv : PE X (.Compare x [op] [y] pos) (liftV X.K ce Wx (W G (.mo m (e2 a b))).v) := PE.imp (pe_cmpS (r := fun σ x y H Q => moV X ce Wx G m σ [x, y] H Q) ho ha.v hb.v (nobeh hy)) fun σ H Q h => rs_two (lift_mo h)
  exact ⟨hv, o_of_v hv, PT.imp (pt_cmpS (r := fun σ x y H Q => moV X ce Wx G m σ [x, y] H Q) ho ha.v hb.v (nobeh hy)) fun σ H Q h => rs_two (lift_mo (mo_t hk h)), hv, rfl⟩
theorem s_oinn {a b : E} {x y : Expr} {pos : Pos} (hm : AllM X ce G "__contains__") (tk : Takes X Wx) (hy : behindInMarks .In y = false) (ha : SE X ce Wx G a x) (hb : SE X ce Wx G b y) : SE X ce Wx G (.mo .inn (e2 a b)) (.Compare x [.In] [y] pos) := by
  have ho : ∀ (pins : List (Addr × Obj)) (s : Shared) (σ : SV) (H : Hp) (x y : V) (v u : Value) (Q : VK), Inv X pins σ H s → RelV x v → RelV y u → moV X ce Wx G .inn σ [x, y] H Q → wpAny (model X.prog X.w) X.A (compareOp .In v u) (EP X pins σ Q) X.xe s := by
    intro pins s σ H x y v u Q I rx ry h
    obtain ⟨F, z, ds, Q0, E0, R, d, q, hQ, hE⟩ := h
    obtain ⟨p, p2, rfl, d1, d2⟩ := dd_two d
    have q' : meR G.mt "__contains__" [p2, p] (fun r => ∃ b, r = .d (.bool b) ∧ Q0 (.d (.bool b))) (fun _ => False) := q
    obtain ⟨c, C, b, dx, t, e1, e2, e3, mask, sp, e4, l⟩ := me_open (ce := ce) (σ := σ) (Wx := Wx) (vs := [y, x]) (Q := fun v H' => ∃ b, v = .bl b ∧ Q (.bl b) H') R (.cons d2 (.cons d1 .nil)) q'
      (fun r F' H' v ⟨b, g1, g2⟩ s1 R1 => by
        subst g1
        cases (show DD X.K F' v (.bool b) from R1.head)
        exact ⟨b, rfl, hQ _ F' H' _ g2 s1 (R1.tail.consD (.bl _))⟩) (fun _ _ _ _ _ g => g.elim)
    obtain rfl := head_two e1
    cases ry
    obtain ⟨k, ad, fd, ps, M, _⟩ := hm c C mask sp e4 e2
    exact o_contains M tk I e3 rx l
  have hv : PE X (.Compare x [.In] [y] pos) (liftV X.K ce Wx (W G (.mo .inn (e2 a b))).v) := PE.imp (pe_cmpS (r := fun σ x y H Q => moV X ce Wx G .inn σ [x, y] H Q) ho ha.v hb.v hy) fun σ H Q h => rs_two (lift_mo h)
  exact ⟨hv, o_of_v hv, PT.imp (pt_cmpS (r := fun σ x y H Q => moV X ce Wx G .inn σ [x, y] H Q) ho ha.v hb.v hy) fun σ H Q h => rs_two (lift_mo (mo_t rfl h)), hv, rfl⟩
/-- len(thing) -/
def lenR (X : Cx) (G : Gm) (vs : List V) (H : Hp) (Q : VK) : Prop := ∃ F z ds Q0, Rp X.K F H z ∧ DDs X.K F vs ds ∧ moR G.mt .len ds Q0 (fun _ => False) ∧ ∀ r F' H' v, Q0 r → Same F F' → Rp X.K F' H' ((r.sl, some v) :: z) → Q v H'
theorem k_olen (hm : AllM X ce G "__len__") (tk : Takes X Wx) : CallR X (.builtin "len") (lenR X G) := by
  intro pins s σ H xs us Q I rv h
  obtain ⟨F, z, ds, Q0, R, d, q, hQ⟩ := h
  match xs, ds, d, q with
  | [x], [p], d, q =>
    have q' : meR G.mt "__len__" [p] (fun r => ∃ n : Int, r = .d (.int n) ∧ 0 ≤ n ∧ n < 2 ^ 63 ∧ Q0 (.d (.int n))) (fun _ => False) := q
    obtain ⟨c, C, b, dx, t, e1, e2, e3, mask, sp, e4, l⟩ := me_open (ce := ce) (σ := σ) (Wx := Wx) (Q := fun v H' => ∃ n : Int, v = .int n ∧ 0 ≤ n ∧ n < 2 ^ 63 ∧ Q (.int n) H') R d q'
      (fun r F' H' v ⟨n, g1, g2, g3, g4⟩ s1 R1 => by
        subst g1
        cases (show DD X.K F' v (.int n) from R1.head)
        exact ⟨n, rfl, g2, g3, hQ _ F' H' _ g4 s1 (R1.tail.consD (.int _))⟩) (fun _ _ _ _ _ g => g.elim)
    obtain rfl := head_one e1
    obtain ⟨u, rfl, ru⟩ := vals1 rv
    cases ru
    obtain ⟨k, ad, fd, ps, M, _⟩ := hm c C mask sp e4 e2
    exact o_len M tk I e3 l
  | [], [], d, q => exact q.elim
  | _ :: _ :: _, _ :: _ :: _, d, q => exact q.elim
  | [], _ :: _, d, q => cases d
  | _ :: _, [], d, q => cases d
  | [_], _ :: _ :: _, d, q => cases d with | cons _ d => cases d
  | _ :: _ :: _, [_], d, q => cases d with | cons _ d => cases d
theorem s_olen {a : E} {e : Expr} {x : Str} {p pos : Pos} (hm : AllM X ce G "__len__") (tk : Takes X Wx) (hg : Gl X x) (hmg : X.mg x = none) (hv : bootBuiltins x = some (.builtin "len")) (hn : x ≠ "__name__") (hdb : (x == ("__debug__" : Str)) = false) (ha : SE X ce Wx G a e) : SE X ce Wx G (.mo .len (e1 a)) (.Call (.Name x p) [e] [] pos) := by
  refine sm_ofV rfl rfl (PE.imp (pe_callB (k_olen hm tk) hg hmg hv (pa_cons ha.v pa_nil (star_cons ha.ns)) hn hdb (star_cons ha.ns) rfl) ?_)
  intro σ H Q h
  obtain ⟨F, τ, ρ, Q0, E0, hl, R, q, hQ, hE⟩ := rs_one (lift_mo h)
  refine ⟨F, τ, ρ, Q0, E0, hl, R, q, fun r ρ' F' H' v g1 g2 g3 g4 => ?_, hE⟩
  obtain ⟨F2, z, ds, Q1, E1, R1, d1, q1, hQ1, _⟩ := hQ r ρ' F' H' v g1 g2 g3 g4
  refine ⟨F2, z, ds, Q1, R1, d1, ?_, hQ1⟩
  match ds, q1 with
  | [_], q1 => exact q1
  | [], q1 => exact q1.elim
  | _ :: _ :: _, q1 => exact q1.elim
theorem plain_sub {e : Expr} (h : isSlice e = false) : ∀ o i, subscripted e true o i = runValue (.builtin "lifetime.subscript" ⟨[o, i], []⟩) := by
  cases e <;> first | (intro o i; rfl) | cases h
theorem s_oitem {a b : E} {x y : Expr} {pos : Pos} (hm : AllM X ce G "__getitem__") (tk : Takes X Wx) (hy : isSlice y = false) (ha : SE X ce Wx G a x) (hb : SE X ce Wx G b y) : SE X ce Wx G (.mo .item (e2 a b)) (.Subscript x y pos) := by
  refine sm_ofV rfl rfl ⟨fun pins s σ H Q I h => ?_⟩
  refine Subscript_ (binT ha.v hb.v I (R := fun x y H2 => moV X ce Wx G .item σ [x, y] H2 Q) (rs_two (lift_mo h)) fun v u s2 x y H2 I2 rx ry q => ?_)
  obtain ⟨F, z, ds, Q0, E0, R, d, q, hQ, hE⟩ := q
  obtain ⟨p, p2, rfl, d1, d2⟩ := dd_two d
  have q' : meR G.mt "__getitem__" [p, p2] Q0 E0 := q
  obtain ⟨c, C, b, dx, t, e1, e2, e3, mask, sp, e4, l⟩ := me_open (ce := ce) R d q' hQ hE
  obtain rfl := head_two e1
  cases rx
  obtain ⟨k, ad, fd, ps, M, hfn⟩ := hm c C mask sp e4 e2
  exact o_sub M hfn tk I2 e3 ry l (plain_sub hy _ _)
/-- isinstance(x, T), x a plain thing or an object -/
theorem s_isT {t : Ty} {a : E} {e : Expr} {x n : Str} {p p2 pos : Pos} (hg : Gl X x) (hm : X.mg x = none) (hv : bootBuiltins x = some (.builtin "isinstance")) (hn : x ≠ "__name__") (hdb : (x == ("__debug__" : Str)) = false)
    (hg2 : Gl X n) (hm2 : X.mg n = none) (hv2 : bootBuiltins n = some (.type (tyName t))) (hn2 : n ≠ "__name__") (hdb2 : (n == ("__debug__" : Str)) = false)
    (hc : ∀ c C, Wc.cls X.K c = some C → C8.InsC X.K C) (hk : ∀ c C, Wc.cls X.K c = some C → PySem.W.kitOne X.K (.ref C) (.type (tyName t)) = some false) (ha : SE X ce Wx G a e) : SE X ce Wx G (.isT t a) (.Call (.Name x p) [e, .Name n p2] [] pos) := by
  refine sm_ofV rfl rfl (PE.imp (pe_callB (pos := pos) (p := p) L2.call_isi hg hm hv (pa_cons ha.v (pa_cons (pe_bltn (pos := p2) hg2 hm2 hv2 (v := .ty (tyName t)) rfl hn2 hdb2) pa_nil) (star_cons ha.ns)) hn hdb (star_cons ha.ns) rfl) ?_)
  rintro σ H Q ⟨F, τ, ρ, Q0, E0, hl, R, q, hQ, hE⟩
  refine ⟨F, τ, ρ, _, E0, hl, R, q, fun r ρ1 F1 H1 v q1 l1 s1 R1 => ?_, hE⟩
  obtain ⟨F2, g1, R2, d2⟩ := frz_one R1
  obtain ⟨q1, q2⟩ := q1
  generalize r.data = d at q1 q2 d2
  cases e1 : objOf d with
  | some p =>
    obtain ⟨c, z⟩ := p
    rw [e1] at q2
    rw [objOf_eq e1] at d2
    obtain ⟨b, C, dx, rfl, k1, k2, _⟩ := dd_obj d2
    have ic := hc c C k1
    exact ⟨_, .ty _, .ref C, _, _, rfl, .ty _, .base (.ins (R2.sub _ _ k2) ic.cl ic.ha ic.hn ic.htk ic.hm), hk c C k1, hQ _ ρ1 F2 H1 _ q2 l1 (Same.tr s1 g1) (R2.tail.consD (.bl _))⟩
  | none =>
    rw [e1] at q2
    have hnd : isDct d = false := by
      cases d with
      | dict kvs =>
        have q1 : (objOf (.dict kvs)).isSome = true := q1
        rw [e1] at q1
        cases q1
      | _ => rfl
    refine ⟨v, .ty _, _, _, _, rfl, .ty _, tyX_of R2.sub (dv_of R2.sub d2) hnd, kit_ty (kits t _), ?_⟩
    rw [← isTy_eq]
    exact hQ _ ρ1 F2 H1 _ q2 l1 (Same.tr s1 g1) (R2.tail.consD (.bl _))
end
end FX
set_option maxHeartbeats 4000000
namespace FX
variable [Wc]
open PySem PySem.Spec PyProof.Rows L2
/-- the names: of the def, of the functions, of the constants -/
structure Tb where
  N : List Str
  fns : List Str
  cons : List Str
  /-- own error classes; true: without an own __init__ -/
  cls : List (Str × Bool) := []
  /-- classes of objects with one field: their names, the field's -/
  ocl : List (Str × Str) := []
  mtd : List Str := []
  prp : List Str := []
  ctd : List Nat := []
def dbgOk (x : Str) : Bool := !(x == ("__debug__" : Str)) && !(x == ("__classdict__" : Str))
def visB (sc : Scope) (x : Str) : Bool := match sc.names.lookup x with
  | some .local => true
  | some .cell => true
  | some .free => true
  | _ => false
def glB (sc : Scope) (x : Str) : Bool := match sc.names.lookup x with
  | some .globalImplicit => true
  | _ => false
def varB (T : Tb) (sc : Scope) (i : Nat) (x : Str) : Bool := decide (T.N[i]? = some x) && visB sc x
def binOp : PF → Option Operator
  | .add => some .Add
  | .sub => some .Sub
  | .mul => some .Mult
  | .fdiv => some .FloorDiv
  | .mod => some .Mod
  | .pow => some .Pow
  | .shl => some .LShift
  | .shr => some .RShift
  | .band => some .BitAnd
  | _ => none
def cmpOp : PF → Option CmpOp
  | .eq => some .Eq
  | .ne => some .NotEq
  | .lt => some .Lt
  | .le => some .LtE
  | .gt => some .Gt
  | .ge => some .GtE
  | .isB => some .Is
  | .notB => some .IsNot
  | .inn => some .In
  | .nin => some .NotIn
  | _ => none
/-- builtins: a type?, the name -/
def pfName : PF → Option (Bool × String)
  | .len => some (false, "len")
  | .abs => some (false, "abs")
  | .max2 => some (false, "max")
  | .maxL => some (false, "max")
  | .min2 => some (false, "min")
  | .minL => some (false, "min")
  | .sum => some (false, "sum")
  | .all => some (false, "all")
  | .any => some (false, "any")
  | .sorted => some (false, "sorted")
  | .sortedR => some (false, "sorted")
  | .repr => some (false, "repr")
  | .list => some (true, "list")
  | .tuple => some (true, "tuple")
  | .int => some (true, "int")
  | .str => some (true, "str")
  | _ => none
def tyPy : Ty → Option Str
  | .int => some "int"
  | .bool => some "bool"
  | .str => some "str"
  | .list => some "list"
  | .tuple => some "tuple"
  | .dict => some "dict"
  | .none => none
def methOf : Ty → PF → Option Str
  | .str, .join => some "join"
  | .str, .split => some "split"
  | .list, .lindex => some "index"
  | .list, .lcount => some "count"
  | .dict, .dget => some "get"
  | _, _ => none
def biNames : List Str := ["len", "abs", "max", "min", "sum", "all", "any", "sorted", "repr", "list", "tuple", "int", "str", "isinstance", "bool", "dict", "range", "zip", "enumerate", "set"]
def isUSub1 : Expr → Bool
  | .UnaryOp .USub (.Constant (.int 1) _ _) _ => true
  | _ => false
/-- the operands of a primitive -/
def primV (sc : Scope) (f : PF) (e : Expr) : Option (List Expr) := match e with
  | .BinOp x op y _ => if binOp f = some op then some [x, y] else none
  | .UnaryOp .USub x _ => if f = .neg then some [x] else none
  | .Compare x [op] [y] _ => if cmpOp f = some op && !isSet y then some [x, y] else match y with
    | .Dict [] [] _ => if (f = .eqE ∧ op = .Eq) ∨ (f = .neE ∧ op = .NotEq) then some [x] else none
    | .Constant .none _ _ => if (f = .isN ∧ op = .Is) ∨ (f = .notN ∧ op = .IsNot) then some [x] else none
    | _ => none
  | .Subscript x (.Slice none none none _) _ => if f = .slice false false then some [x] else none
  | .Subscript x (.Slice (some y) none none _) _ => if f = .slice true false then some [x, y] else none
  | .Subscript x (.Slice none (some y) none _) _ => if f = .slice false true then some [x, y] else none
  | .Subscript x (.Slice none none (some s) _) _ => if f = .rev && isUSub1 s then some [x] else none
  | .Subscript x y _ => if f = .index && !isSlice y then some [x, y] else none
  | .Call (.Name n _) (e :: es) [] _ => match f with
    | .isi t => match es with
      | [.Name m _] => if n = ("isinstance" : Str) && decide (tyPy t = some m) && glB sc n && glB sc m then some [e] else none
      | _ => none
    | _ => match pfName f with
      | some (_, x) => if n = Str.ofString x && glB sc n then some (e :: es) else none
      | none => none
  | _ => none
def constB (c : PyData) (k : Const) : Bool := match c, k with
  | .none, .none => true
  | .bool a, .bool b => a == b
  | .int a, .int b => a == b
  | .str a, .str b => decide (a = b)
  | _, _ => false
def ownN (T : Tb) (own : List Nat) : List (Str × Nat) := own.map fun i => (T.N.getD i "", i)
def cellFn (scope : Scope) : Str → Bool := fun x => scope.names.lookup x == some .cell
def subB (vs ws : List Nat) : Bool := vs.all fun i => ws.contains i
def calleeOk : Expr → Bool
  | .Name _ _ => true
  | .Call _ _ _ _ => true
  | .UnaryOp _ _ _ => true
  | .BinOp _ _ _ _ => true
  | _ => false
def oclB (T : Tb) (c : Nat) (x : Str) : Bool := match T.ocl[c]? with
  | some p => decide (p.1 = x)
  | none => false
def ofdB (T : Tb) (c : Nat) (f : Str) : Bool := match T.ocl[c]? with
  | some p => decide (p.2 = f)
  | none => false
/-- the operands of a method's call -/
def moV' (T : Tb) (sc : Scope) (k : MO) (e : Expr) : Option (List Expr) := match k with
  | .neg => (match e with
    | .UnaryOp .USub x _ => if T.mtd.contains "__neg__" then some [x] else none
    | _ => none)
  | .add => (match e with
    | .BinOp x .Add y _ => if T.mtd.contains "__add__" then some [x, y] else none
    | _ => none)
  | .mul => (match e with
    | .BinOp x .Mult y _ => if T.mtd.contains "__mul__" then some [x, y] else none
    | _ => none)
  | .call => (match e with
    | .Call g (a :: es) [] _ => if T.mtd.contains "__call__" && calleeOk g then some (g :: a :: es) else none
    | _ => none)
  | .prop f => (match e with
    | .Attribute o n _ => if decide (n = f) && T.prp.contains f && !bareCall o then some [o] else none
    | _ => none)
  | .len => (match e with
    | .Call (.Name n _) [x] [] _ => if decide (n = ("len" : Str)) && glB sc n && T.mtd.contains "__len__" then some [x] else none
    | _ => none)
  | .item => (match e with
    | .Subscript x y _ => if T.mtd.contains "__getitem__" && !isSlice y then some [x, y] else none
    | _ => none)
  | .inn => (match e with
    | .Compare x [.In] [y] _ => if T.mtd.contains "__contains__" && !behindInMarks .In y then some [x, y] else none
    | _ => none)
  | .eq => (match e with
    | .Compare x [.Eq] [y] _ => if T.mtd.contains "__eq__" && !isSet y then some [x, y] else none
    | _ => none)
  | .ne => (match e with
    | .Compare x [.NotEq] [y] _ => if T.mtd.contains "__eq__" && !isSet y then some [x, y] else none
    | _ => none)
mutual
def chkE (T : Tb) (fn : Str → Bool) (sc : Scope) : E → Expr → Bool
  | .cst c, e => match e with
    | .Constant k _ _ => constB c k
    | _ => false
  | .var i, e => match e with
    | .Name x _ => varB T sc i x
    | _ => false
  | .glob g, e => match e with
    | .Name x _ => decide (T.cons[g]? = some x) && glB sc x
    | _ => false
  | .prim f as, e => match primV sc f e with
    | some es => chkEs T fn sc as es
    | none => false
  | .ands as, e => match e with
    | .BoolOp .And es _ => !es.isEmpty && chkEs T fn sc as es
    | _ => false
  | .ors as, e => match e with
    | .BoolOp .Or es _ => !es.isEmpty && chkEs T fn sc as es
    | _ => false
  | .nt a, e => match e with
    | .UnaryOp .Not x _ => chkE T fn sc a x
    | _ => false
  | .ite c a b, e => match e with
    | .IfExp x y z _ => chkE T fn sc c x && chkE T fn sc a y && chkE T fn sc b z
    | _ => false
  | .chain f g a b c, e => match e with
    | .Compare x [op, op'] [y, z] _ => decide (cmpOp f = some op) && decide (cmpOp g = some op') && !isSet z && chkE T fn sc a x && chkE T fn sc b y && chkE T fn sc c z
    | _ => false
  | .call f as, e => match e with
    | .Call (.Name x _) es [] _ => decide (T.fns[f]? = some x) && glB sc x && chkEs T fn sc as es
    | _ => false
  | .lst as, e => match e with
    | .List es _ => chkEs T fn sc as es
    | _ => false
  | .tup as, e => match e with
    | .Tuple es _ _ => chkEs T fn sc as es
    | _ => false
  | .comp own elt t it cond, e => match e with
    | .ListComp el [g] scope _ => decide (g.is_async = 0) && blkC T.N sc scope (ownN T own) && subB t.vars own && chkI T fn sc it g.target g.iter && !isSet g.iter &&
      chkT T.N (cellFn scope) (relS scope sc) t g.target && decide (g.ifs.length ≤ 1) && chkEs T (cellFn scope) (relS scope sc) cond g.ifs && chkE T (cellFn scope) (relS scope sc) elt el
    | _ => false
  | .comp2 own own1 elt t it cond t1 it1 cond1, e => match e with
    | .ListComp el [g, g1] scope _ => decide (g.is_async = 0) && decide (g1.is_async = 0) && blkC T.N sc scope (ownN T own) && subB t.vars own && subB t1.vars own1 && subB own1 own && chkI T fn sc it g.target g.iter && !isSet g.iter && !isSet g1.iter &&
      chkT T.N (cellFn scope) (relS scope sc) t g.target && chkT T.N (cellFn scope) (relS scope sc) t1 g1.target && decide (g.ifs.length ≤ 1) && decide (g1.ifs.length ≤ 1) && chkEs T (cellFn scope) (relS scope sc) cond g.ifs && chkEs T (cellFn scope) (relS scope sc) cond1 g1.ifs &&
      chkI T (cellFn scope) (relS scope sc) it1 g1.target g1.iter && chkE T (cellFn scope) (relS scope sc) elt el
    | _ => false
  | .mcall m i as, e => match e with
    | .Call (.Attribute (.Name x _) n apos) es [] cpos => varB T sc i x && decide (n = mfName m) && decide (m ≠ .insert) && chkEs T fn sc as es && decide (es.length < 20) && (apos.endLine == cpos.line)
    | _ => false
  | .reprL as, e => match e with
    | .Call (.Name n _) [.List es _] [] _ => decide (n = "repr") && glB sc n && chkEs T fn sc as es
    | _ => false
  | .lenS a, e => match e with
    | .Call (.Name n _) [.Call (.Name m _) [x] [] _] [] _ => decide (n = ("len" : Str)) && decide (m = ("set" : Str)) && glB sc n && glB sc m && chkE T fn sc a x
    | _ => false
  | .new c a, e => match e with
    | .Call (.Name x _) [y] [] _ => oclB T c x && glB sc x && T.ctd.contains c && chkE T fn sc a y
    | _ => false
  | .fld a c, e => match e with
    | .Attribute o f _ => ofdB T c f && !bareCall o && chkE T fn sc a o
    | _ => false
  | .mo k as, e => match moV' T sc k e with
    | some es => chkEs T fn sc as es
    | none => false
  | .isO a c, e => match e with
    | .Call (.Name n _) [y, .Name m _] [] _ => decide (n = ("isinstance" : Str)) && glB sc n && oclB T c m && glB sc m && chkE T fn sc a y
    | _ => false
  | .isT t a, e => match e with
    | .Call (.Name n _) [y, .Name m _] [] _ => decide (n = ("isinstance" : Str)) && decide (tyPy t = some m) && glB sc n && glB sc m && chkE T fn sc a y
    | _ => false
  | .smul a b, e => match e with
    | .BinOp x .Mult y _ => chkE T fn sc a x && chkE T fn sc b y
    | _ => false
  | .nev, e => !isStar e && plainT e && !isComp e
  | .litD k n, e => match e with
    | .Dict [some (.Constant kc _ _)] [.Constant (.int m) _ _] _ => constB k kc && (m == n)
    | _ => false
  | .dct0, e => match e with
    | .Dict [] [] _ => true
    | _ => false
  | .dct1 a b, e => match e with
    | .Dict [some x] [y] _ => chkE T fn sc a x && chkE T fn sc b y
    | _ => false
  | .dupd i a, e => match e with
    | .Call (.Attribute (.Name x _) n apos) [x1] [] cpos => varB T sc i x && decide (n = "update") && chkE T fn sc a x1 && (apos.endLine == cpos.line)
    | _ => false
  | .meth t f a as, e => match e with
    | .Call (.Attribute o n apos) es [] cpos => decide (methOf t f = some n) && !bareCall o && chkE T fn sc a o && !es.isEmpty && chkEs T fn sc as es && decide (es.length ≤ 20) && (apos.endLine == cpos.line)
    | _ => false
  | .sl a l h, e => match e with
    | .Subscript x (.Slice (some y) (some z) none _) _ => chkE T fn sc a x && chkE T fn sc l y && chkE T fn sc h z
    | _ => false
def chkEs (T : Tb) (fn : Str → Bool) (sc : Scope) : Es → List Expr → Bool
  | .nil, es => es.isEmpty
  | .cons a as, es => match es with
    | e :: es => chkE T fn sc a e && chkEs T fn sc as es
    | [] => false
def chkI (T : Tb) (fn : Str → Bool) (sc : Scope) : I → Expr → Expr → Bool
  | .seq a, _, e => chkE T fn sc a e
  | .rng1 a, _, e => match e with
    | .Call (.Name n _) [x] [] _ => decide (n = "range") && glB sc n && chkE T fn sc a x
    | _ => false
  | .rng2 a b, _, e => match e with
    | .Call (.Name n _) [x, y] [] _ => decide (n = "range") && glB sc n && chkE T fn sc a x && chkE T fn sc b y
    | _ => false
  | .zip a b, tg, e => match tg with
    | .Tuple _ _ _ => match e with
      | .Call (.Name n _) [x, y] [] _ => decide (n = "zip") && glB sc n && chkE T fn sc a x && chkE T fn sc b y
      | _ => false
    | _ => false
  | .enum a, tg, e => match tg with
    | .Tuple _ _ _ => match e with
      | .Call (.Name n _) [x] [] _ => decide (n = "enumerate") && glB sc n && chkE T fn sc a x
      | _ => false
    | _ => false
  | .enumZ a b, tg, e => match tg with
    | .Tuple _ _ _ => match e with
      | .Call (.Name n _) [.Call (.Name m _) [x, y] [] _] [] _ => decide (n = "enumerate") && glB sc n && decide (m = "zip") && glB sc m && chkE T fn sc a x && chkE T fn sc b y
      | _ => false
    | _ => false
  | .rngD a b, _, e => match e with
    | .Call (.Name n _) [x, y, .UnaryOp .USub (.Constant (.int 1) _ _) _] [] _ => decide (n = "range") && glB sc n && chkE T fn sc a x && chkE T fn sc b y
    | _ => false
  | .items a, tg, e => match tg with
    | .Tuple _ _ _ => match e with
      | .Call (.Attribute o n apos) [] [] cpos => decide (n = "items") && !bareCall o && chkE T fn sc a o && (apos.endLine == cpos.line)
      | _ => false
    | _ => false
end
/-- what a context must bring -/
structure Good (X : Cx) (ce : ExcT) (Wx : WX) (G : Gm) (T : Tb) : Prop where
  calm : X.calm = true
  eN : X.N = T.N
  nd : T.N.Nodup
  dbN : ∀ x ∈ T.N, dbgOk x = true
  dbF : ∀ x ∈ T.fns, dbgOk x = true
  dbC : ∀ x ∈ T.cons, dbgOk x = true
  units : X.A.units + 65 < cLine
  guards : X.A.guards = some []
  tk : Takes X Wx
  kind : X.env.scope.kind = .function
  bi : ∀ x ∈ biNames, X.mg x = none
  fns : ∀ (f : Nat) (x : Str), T.fns[f]? = some x → ∀ mask sp, G.fn f = some (mask, sp) → ∃ k ad fd ps, FnG X.prog X.w X.K X.mg X.base k ad fd ps (liftSp X.K ce mask sp) ∧ Room k X.A ∧ X.mg x = some (.ref ad) ∧ PySem.W.keepIn X.K (.ref ad) = true ∧ Binds X.K fd ps []
  cons : ∀ (g : Nat) (x : Str), T.cons[g]? = some x → ∀ c, G.con g = some c → ∃ u v, X.mg x = some u ∧ RelV v u ∧ ∀ F, DD X.K F v c
  ob : ∀ (c : Nat) (x f : Str), T.ocl[c]? = some (x, f) → Wc.fld c = f ∧ (x == ("__debug__" : Str)) = false ∧ ∃ C, Wc.cls X.K c = some C ∧ X.mg x = some (.ref C) ∧ PySem.W.keepIn X.K (.ref C) = true
  oc : ∀ c C, Wc.cls X.K c = some C → ObjC X.K C (Wc.fld c)
  okk : ∀ c' C' c C, Wc.cls X.K c' = some C' → Wc.cls X.K c = some C → PySem.W.kitOne X.K (.ref C') (.ref C) = some (c' == c) ∧ PySem.W.notFirst X.K C (.ref C') = true
  mts : ∀ m ∈ T.mtd, AllM X ce G m
  prs : ∀ f ∈ T.prp, ∀ c C mask sp, G.mt c f = some (mask, sp) → Wc.cls X.K c = some C → PrpOk X C f (liftSp X.K ce mask sp)
  cts : ∀ c ∈ T.ctd, ∀ C, Wc.cls X.K c = some C → ∀ sp, G.ct c = some sp → CtOk X ce c C sp
theorem gl_of {X : Cx} {x : Str} (h : glB X.env.scope x = true) : Gl X x := by
  unfold glB at h
  split at h
  · rename_i e
    exact e
  · cases h
theorem vis_of {sc : Scope} {x : Str} (h : visB sc x = true) : Vis sc x := by
  unfold visB at h
  split at h
  · rename_i e; exact .inl e
  · rename_i e; exact .inr (.inl e)
  · rename_i e; exact .inr (.inr e)
  · cases h
theorem dbg1 {x : Str} (h : dbgOk x = true) : (x == ("__debug__" : Str)) = false ∧ (x == ("__classdict__" : Str)) = false := by
  unfold dbgOk at h
  simpa using h
section
variable {X : Cx} {ce : ExcT} {Wx : WX} {G : Gm} {T : Tb}
theorem takes_noW : Takes X noW := fun _ _ ⟨_, _, _, _, _, _, _, _, _, _, _, _, _, _, _, _, w⟩ => w.elim
theorem Good.blk (g : Good X ce Wx G T) {s : Shared} {H : Hp} {C : Addr} {cl : List (Str × Addr)} {fp : List Addr} {scope : Scope} (hk : scope.kind = .function) : Good (X.blk s H scope (compEnvC scope cl C X.env) fp) ce noW G T where
  calm := g.calm
  eN := g.eN
  nd := g.nd
  dbN := g.dbN
  dbF := g.dbF
  dbC := g.dbC
  units := g.units
  guards := g.guards
  tk := takes_noW
  kind := hk
  bi := g.bi
  fns := g.fns
  cons := g.cons
  ob := g.ob
  oc := g.oc
  okk := g.okk
  mts := fun m hm c C mask sp h1 h2 => let ⟨k, ad, fd, ps, M, hf⟩ := g.mts m hm c C mask sp h1 h2; ⟨k, ad, fd, ps, ⟨M.fn, M.rm, M.gd, M.bd, M.at_, M.isf⟩, hf⟩
  prs := g.prs
  cts := g.cts
theorem snd1 {as : Es} {x : Expr} (h : SndEs X ce Wx G as [x]) : ∃ a, as = e1 a ∧ SE X ce Wx G a x := by
  cases as with
  | nil => exact False.elim h
  | cons a as =>
    cases as with
    | nil => exact ⟨a, rfl, h.1⟩
    | cons _ _ => exact False.elim h.2
theorem snd2 {as : Es} {x y : Expr} (h : SndEs X ce Wx G as [x, y]) : ∃ a b, as = e2 a b ∧ SE X ce Wx G a x ∧ SE X ce Wx G b y := by
  cases as with
  | nil => exact False.elim h
  | cons a as =>
    obtain ⟨b, rfl, h2⟩ := snd1 h.2
    exact ⟨a, b, rfl, h.1, h2⟩
theorem snd_false {v : FE → KQ → KX → Prop} {e : Expr} (hn : isStar e = false) (hp : plainT e = true) (h : ∀ ρ Q E, ¬ v ρ Q E) : SndE X ce Wx (.ofV v) e :=
  sm_ofV hn hp ⟨fun pins s σ H Q I ⟨F, τ, ρ, Q0, E0, hl, R, q, _⟩ => (h _ _ _ q).elim⟩
theorem bin_ok {f : PF} {op : Operator} (h : binOp f = some op) : OpR X (binaryOp op) fun u v => rP X.K f [u, v] := by
  cases f <;> first
    | (cases h; exact b_add)
    | (cases h; exact b_sub)
    | (cases h; exact b_mul)
    | (cases h; exact b_fdiv)
    | (cases h; exact b_mod)
    | (cases h; exact b_pow)
    | (cases h; exact b_shl)
    | (cases h; exact b_shr)
    | (cases h; exact b_band)
    | (cases h; done)
theorem cmp_ok (g : Good X ce Wx G T) {f : PF} {op : CmpOp} (h : cmpOp f = some op) : isCmp f = true ∧ OpR X (compareOp op) fun u v => rP X.K f [u, v] := by
  have h1 : X.A.units + 64 < cLine := Nat.lt_of_le_of_lt (Nat.le_succ _) g.units
  cases f <;> first
    | (cases h; exact ⟨rfl, c_eq h1⟩)
    | (cases h; exact ⟨rfl, c_ne h1⟩)
    | (cases h; exact ⟨rfl, c_lt⟩)
    | (cases h; exact ⟨rfl, c_le⟩)
    | (cases h; exact ⟨rfl, c_gt⟩)
    | (cases h; exact ⟨rfl, c_ge⟩)
    | (cases h; exact ⟨rfl, c_isB⟩)
    | (cases h; exact ⟨rfl, c_notB⟩)
    | (cases h; exact ⟨rfl, c_in g.units⟩)
    | (cases h; exact ⟨rfl, c_nin g.units⟩)
    | (cases h; done)
theorem bt_len : bootBuiltins (Str.ofString "len") = some (.builtin "len") := by decide +kernel
theorem bt_abs : bootBuiltins (Str.ofString "abs") = some (.builtin "abs") := by decide +kernel
theorem bt_max : bootBuiltins (Str.ofString "max") = some (.builtin "max") := by decide +kernel
theorem bt_min : bootBuiltins (Str.ofString "min") = some (.builtin "min") := by decide +kernel
theorem bt_sum : bootBuiltins (Str.ofString "sum") = some (.builtin "sum") := by decide +kernel
theorem bt_all : bootBuiltins (Str.ofString "all") = some (.builtin "all") := by decide +kernel
theorem bt_any : bootBuiltins (Str.ofString "any") = some (.builtin "any") := by decide +kernel
theorem bt_sorted : bootBuiltins (Str.ofString "sorted") = some (.builtin "sorted") := by decide +kernel
theorem bt_repr : bootBuiltins (Str.ofString "repr") = some (.builtin "repr") := by decide +kernel
theorem bt_isi : bootBuiltins (Str.ofString "isinstance") = some (.builtin "isinstance") := by decide +kernel
theorem bt_list : bootBuiltins (Str.ofString "list") = some (.type "list") := by decide +kernel
theorem bt_tuple : bootBuiltins (Str.ofString "tuple") = some (.type "tuple") := by decide +kernel
theorem bt_int : bootBuiltins (Str.ofString "int") = some (.type "int") := by decide +kernel
theorem bt_str : bootBuiltins (Str.ofString "str") = some (.type "str") := by decide +kernel
theorem bt_bool : bootBuiltins (Str.ofString "bool") = some (.type "bool") := by decide +kernel
theorem bt_dict : bootBuiltins (Str.ofString "dict") = some (.type "dict") := by decide +kernel
theorem bi_db : ∀ x ∈ biNames, x ≠ "__name__" ∧ (x == ("__debug__" : Str)) = false := by decide +kernel
theorem call_ok (g : Good X ce Wx G T) {f : PF} {ty : Bool} {id : String} {n : Str} {a : E} {as : Es} {e : Expr} {es : List Expr} {p pos : Pos} (hf : pfName f = some (ty, id)) (hn : n = Str.ofString id) (hg : glB X.env.scope n = true) (ha : SndEs X ce Wx G (.cons a as) (e :: es)) :
    SE X ce Wx G (.prim f (.cons a as)) (.Call (.Name n p) (e :: es) [] pos) := by
  have h1 : X.A.units + 64 < cLine := Nat.lt_of_le_of_lt (Nat.le_succ _) g.units
  subst hn
  have key : ∀ x ∈ biNames, x = Str.ofString id → SE X ce Wx G (.prim f (.cons a as)) (.Call (.Name (Str.ofString id) p) (e :: es) [] pos) := fun x hx ex => by
    subst ex
    have m := g.bi _ hx
    obtain ⟨d1, d2⟩ := bi_db _ hx
    cases f <;> first
      | (cases hf; exact s_callB k_len (gl_of hg) m bt_len ha d1 d2)
      | (cases hf; exact s_callB k_abs (gl_of hg) m bt_abs ha d1 d2)
      | (cases hf; exact s_callB (k_max2 g.calm) (gl_of hg) m bt_max ha d1 d2)
      | (cases hf; exact s_callB (k_maxL g.calm) (gl_of hg) m bt_max ha d1 d2)
      | (cases hf; exact s_callB (k_min2 g.calm) (gl_of hg) m bt_min ha d1 d2)
      | (cases hf; exact s_callB (k_minL g.calm) (gl_of hg) m bt_min ha d1 d2)
      | (cases hf; exact s_callB (k_sum g.calm) (gl_of hg) m bt_sum ha d1 d2)
      | (cases hf; exact s_callB (k_all g.calm) (gl_of hg) m bt_all ha d1 d2)
      | (cases hf; exact s_callB (k_any g.calm) (gl_of hg) m bt_any ha d1 d2)
      | (cases hf; exact s_callB k_sorted (gl_of hg) m bt_sorted ha d1 d2)
      | (cases hf; exact s_callB (k_sortedR g.units) (gl_of hg) m bt_sorted ha d1 d2)
      | (cases hf; exact s_callB (k_repr g.guards h1) (gl_of hg) m bt_repr ha d1 d2)
      | (cases hf; exact s_callT (k_list g.calm) (gl_of hg) m bt_list ha d1 d2)
      | (cases hf; exact s_callT k_tuple (gl_of hg) m bt_tuple ha d1 d2)
      | (cases hf; exact s_callT k_int (gl_of hg) m bt_int ha d1 d2)
      | (cases hf; exact s_callT k_str (gl_of hg) m bt_str ha d1 d2)
      | (cases hf; done)
  have mem : Str.ofString id ∈ biNames := by
    cases f <;> first
      | (cases hf; decide +kernel)
      | (cases hf; done)
  exact key _ mem rfl
theorem ty_ok {t : Ty} {m : Str} (h : tyPy t = some m) : m ∈ biNames ∧ bootBuiltins m = some (.type (tyName t)) := by
  cases t <;> first
    | (cases h; exact ⟨by decide +kernel, bt_int⟩)
    | (cases h; exact ⟨by decide +kernel, bt_bool⟩)
    | (cases h; exact ⟨by decide +kernel, bt_str⟩)
    | (cases h; exact ⟨by decide +kernel, bt_list⟩)
    | (cases h; exact ⟨by decide +kernel, bt_tuple⟩)
    | (cases h; exact ⟨by decide +kernel, bt_dict⟩)
    | (cases h; done)
theorem usub1 {s : Expr} (h : isUSub1 s = true) : ∃ k p1 p2, s = .UnaryOp .USub (.Constant (.int 1) k p1) p2 := by
  unfold isUSub1 at h
  split at h
  · exact ⟨_, _, _, rfl⟩
  · cases h
theorem prim_ok (g : Good X ce Wx G T) {f : PF} {e : Expr} {es : List Expr} {as : Es} (h : primV X.env.scope f e = some es) (ha : SndEs X ce Wx G as es) : SE X ce Wx G (.prim f as) e := by
  unfold primV at h
  split at h
  · split at h
    · rename_i hb
      cases h
      obtain ⟨a, b, rfl, h1, h2⟩ := snd2 ha
      exact s_bin (bin_ok hb) h1 h2
    · cases h
  · split at h
    · rename_i hb
      subst hb
      cases h
      obtain ⟨a, rfl, h1⟩ := snd1 ha
      exact s_un rfl u_neg h1
    · cases h
  · split at h
    · rename_i hb
      cases h
      simp only [Bool.and_eq_true, decide_eq_true_eq, Bool.not_eq_true'] at hb
      obtain ⟨a, b, rfl, h1, h2⟩ := snd2 ha
      exact s_cmp (cmp_ok g hb.1).1 (cmp_ok g hb.1).2 hb.2 h1 h2
    · split at h
      · split at h
        · rename_i hb
          cases h
          obtain ⟨a, rfl, h1⟩ := snd1 ha
          rcases hb with ⟨rfl, rfl⟩ | ⟨rfl, rfl⟩
          · exact s_cmpE rfl (c_eqE g.units) h1
          · exact s_cmpE rfl (c_neE g.units) h1
        · cases h
      · split at h
        · rename_i hb
          cases h
          obtain ⟨a, rfl, h1⟩ := snd1 ha
          rcases hb with ⟨rfl, rfl⟩ | ⟨rfl, rfl⟩
          · exact s_isN rfl c_isN h1
          · exact s_isN rfl c_notN h1
        · cases h
      · cases h
  · split at h
    · rename_i hb
      subst hb
      cases h
      obtain ⟨a, rfl, h1⟩ := snd1 ha
      exact s_slice0 h1
    · cases h
  · split at h
    · rename_i hb
      subst hb
      cases h
      obtain ⟨a, b, rfl, h1, h2⟩ := snd2 ha
      exact s_slice1 h1 h2
    · cases h
  · split at h
    · rename_i hb
      subst hb
      cases h
      obtain ⟨a, b, rfl, h1, h2⟩ := snd2 ha
      exact s_slice2 h1 h2
    · cases h
  · split at h
    · rename_i hb
      simp only [Bool.and_eq_true, decide_eq_true_eq] at hb
      obtain ⟨rfl, hb⟩ := hb
      cases h
      obtain ⟨k, p1, p2, rfl⟩ := usub1 hb
      obtain ⟨a, rfl, h1⟩ := snd1 ha
      exact s_rev h1
    · cases h
  · split at h
    · rename_i hb
      simp only [Bool.and_eq_true, decide_eq_true_eq, Bool.not_eq_true'] at hb
      obtain ⟨rfl, hb⟩ := hb
      cases h
      obtain ⟨a, b, rfl, h1, h2⟩ := snd2 ha
      exact s_ix (by assumption : Good X ce Wx G T).units hb h1 h2
    · cases h
  · split at h
    · split at h
      · split at h
        · rename_i hb
          simp only [Bool.and_eq_true, decide_eq_true_eq] at hb
          obtain ⟨⟨⟨rfl, h2⟩, h3⟩, h4⟩ := hb
          cases h
          obtain ⟨a, rfl, h1⟩ := snd1 ha
          obtain ⟨k1, k2⟩ := ty_ok h2
          have mi : ("isinstance" : Str) ∈ biNames := by decide +kernel
          exact s_isi (gl_of h3) (g.bi _ mi) bt_isi (bi_db _ mi).1 (bi_db _ mi).2 (gl_of h4) (g.bi _ k1) k2 (bi_db _ k1).1 (bi_db _ k1).2 h1
        · cases h
      · cases h
    · split at h
      · split at h
        · rename_i hb
          simp only [Bool.and_eq_true, decide_eq_true_eq] at hb
          cases h
          cases as with
          | nil => exact False.elim ha
          | cons a as => exact call_ok g (by assumption) hb.1 hb.2 ha
        · cases h
      · cases h
  · cases h
end
end FX
set_option maxHeartbeats 4000000
namespace FX
variable [Wc]
open PySem PySem.Spec PyProof.Rows L2
theorem mem_get {α : Type} {l : List α} {i : Nat} {x : α} (h : l[i]? = some x) : x ∈ l := List.mem_of_getElem? h
section
variable {ce : ExcT} {G : Gm} {T : Tb}
theorem var_ok {X : Cx} {Wx : WX} (g : Good X ce Wx G T) {i : Nat} {x : Str} (h : varB T X.env.scope i x = true) : X.N[i]? = some x ∧ Vis X.env.scope x ∧ (x == ("__debug__" : Str)) = false ∧ (x == ("__classdict__" : Str)) = false := by
  unfold varB at h
  simp only [Bool.and_eq_true, decide_eq_true_eq] at h
  exact ⟨by rw [g.eN]; exact h.1, vis_of h.2, dbg1 (g.dbN x (mem_get h.1))⟩
theorem const_ok {X : Cx} {Wx : WX} {c : PyData} {k : Const} {n : Nat} {pos : Pos} (h : constB c k = true) : SE X ce Wx G (.cst c) (.Constant k n pos) := by
  unfold constB at h
  split at h
  · exact s_cst pe_non fun _ => .non
  · obtain rfl := beq_iff_eq.mp h
    exact s_cst pe_bl fun _ => .bl _
  · obtain rfl := beq_iff_eq.mp h
    exact s_cst pe_int fun _ => .int _
  · obtain rfl := of_decide_eq_true h
    exact s_cst pe_str fun _ => .str _
  · cases h
theorem litD_ok {X : Cx} {Wx : WX} {k : PyData} {m : Int} {kc : Const} {j1 j2 : Nat} {p1 p2 pos : Pos} (h : constB k kc = true) : SE X ce Wx G (.litD k m) (.Dict [some (.Constant kc j1 p1)] [.Constant (.int m) j2 p2] pos) := by
  have bad : ∀ {k : PyData}, (litk [(k, .int m)] = false) → SE X ce Wx G (.litD k m) (.Dict [some (.Constant kc j1 p1)] [.Constant (.int m) j2 p2] pos) := fun hb =>
    sm_ofV rfl rfl ⟨fun pins s σ H Q I ⟨F, τ, ρ, Q0, E0, hl, R, q, hQ, hE⟩ => by
      have : litk [(_, .int m)] = true := q.1
      rw [hb] at this
      cases this⟩
  unfold constB at h
  split at h
  · exact bad rfl
  · exact bad rfl
  · obtain rfl := beq_iff_eq.mp h
    exact s_litD pe_int
  · obtain rfl := of_decide_eq_true h
    exact s_litD pe_str
  · cases h
/-- a clause's tests -/
theorem pts_ok {X : Cx} {Wx : WX} : ∀ {cond : Es} {ifs : List Expr}, ifs.length ≤ 1 → SndEs X ce Wx G cond ifs → PTs X ifs (liftT X.K ce Wx (Ws G cond).andT)
  | .nil, [], _, _ => ⟨fun pins s σ H Q I ⟨F, τ, ρ, Q0, E0, hl, R, q, hQ, hE⟩ => pts_nil.run pins s σ H Q I (hQ true ρ F H q hl (fun _ _ e => e) R)⟩
  | .cons c .nil, [e], _, h => ⟨fun pins s σ H Q I ⟨F, τ, ρ, Q0, E0, hl, R, q, hQ, hE⟩ => (pts_one h.1.t).run pins s σ H Q I ⟨F, τ, ρ, _, E0, hl, R, q, fun b ρ' F' H' q' => by
      cases b with
      | true => exact hQ true ρ' F' H' q'
      | false => exact hQ false ρ' F' H' q', hE⟩⟩
  | .nil, _ :: _, _, h => False.elim h
  | .cons _ _, [], _, h => False.elim h
  | .cons _ (.cons _ _), [_], _, h => False.elim h.2
  | .cons _ _, _ :: _ :: _, hl, _ => by simp at hl
theorem sub_ok {vs ws : List Nat} (h : subB vs ws = true) : ∀ i ∈ vs, i ∈ ws := fun i hi => by
  have := List.all_eq_true.mp h i hi
  simpa using this
theorem own_ok {own : List Nat} : (ownN T own).map (·.2) = own := by
  unfold ownN
  rw [List.map_map]
  exact List.map_id own
theorem meth_ok {X : Cx} {Wx : WX} (g : Good X ce Wx G T) {t : Ty} {f : PF} {n : Str} {o : Expr} {a : E} {as : Es} {es : List Expr} {apos cpos : Pos} (h : methOf t f = some n) (hb : bareCall o = false) (ho : SE X ce Wx G a o) (he : es.isEmpty = false) (ha : SndEs X ce Wx G as es) (hl : es.length ≤ 20)
    (hap : (apos.endLine == cpos.line) = true) : SE X ce Wx G (.meth t f a as) (.Call (.Attribute o n apos) es [] cpos) := by
  cases es with
  | nil => cases he
  | cons e es =>
    cases as with
    | nil => exact False.elim ha
    | cons b as =>
      have hl : es.length < 20 := by
        have : es.length + 1 ≤ 20 := hl
        omega
      unfold methOf at h
      split at h
      · cases h
        exact s_meth (.inl rfl) PySem.F.plainAttrs_str PySem.F.slot_str_join PySem.F.type_str_join m_join ho ha hb hl hap
      · cases h
        exact s_meth (.inl rfl) PySem.F.plainAttrs_str PySem.F.slot_str_split PySem.F.type_str_split m_split ho ha hb hl hap
      · cases h
        exact s_meth (.inr rfl) PySem.F.plainAttrs_list PySem.F.slot_list_index PySem.F.type_list_index (m_index g.units) ho ha hb hl hap
      · cases h
        exact s_meth (.inr rfl) PySem.F.plainAttrs_list PySem.F.slot_list_count PySem.F.type_list_count (m_countR g.units) ho ha hb hl hap
      · cases h
        exact s_dget g.units ho ha hb hl hap
      · cases h
theorem mcall_ok {X : Cx} {Wx : WX} (g : Good X ce Wx G T) {m : MF} {i : Nat} {x : Str} {as : Es} {es : List Expr} {p apos cpos : Pos} (hv : varB T X.env.scope i x = true) (hm : m ≠ .insert) (ha : SndEs X ce Wx G as es) (hl : es.length < 20) (hap : (apos.endLine == cpos.line) = true) :
    SE X ce Wx G (.mcall m i as) (.Call (.Attribute (.Name x p) (mfName m) apos) es [] cpos) := by
  obtain ⟨h1, h2, h3, h4⟩ := var_ok g hv
  cases m with
  | append => exact s_mcall PySem.F.slot_list_append PySem.F.type_list_append mm_append h1 h2 h3 h4 ha hl hap
  | extend => exact s_mcall PySem.F.slot_list_extend PySem.F.type_list_extend mm_extend h1 h2 h3 h4 ha hl hap
  | pop => exact s_mcall PySem.F.slot_list_pop PySem.F.type_list_pop mm_pop h1 h2 h3 h4 ha hl hap
  | popAt => exact s_mcall PySem.F.slot_list_pop PySem.F.type_list_pop mm_popAt h1 h2 h3 h4 ha hl hap
  | reverse => exact s_mcall PySem.F.slot_list_reverse PySem.F.type_list_reverse mm_reverse h1 h2 h3 h4 ha hl hap
  | insert => exact absurd rfl hm
theorem ocl_of {c : Nat} {x : Str} (h : oclB T c x = true) : ∃ f, T.ocl[c]? = some (x, f) := by
  unfold oclB at h
  split at h
  · rename_i p e
    obtain ⟨y, f⟩ := p
    obtain rfl := of_decide_eq_true h
    exact ⟨f, e⟩
  · cases h
theorem ofd_of {c : Nat} {f : Str} (h : ofdB T c f = true) : ∃ x, T.ocl[c]? = some (x, f) := by
  unfold ofdB at h
  split at h
  · rename_i p e
    obtain ⟨y, f⟩ := p
    obtain rfl := of_decide_eq_true h
    exact ⟨y, e⟩
  · cases h
theorem mo_ok {X : Cx} {Wx : WX} (g : Good X ce Wx G T) {k : MO} {e : Expr} {es : List Expr} {as : Es} (h : moV' T X.env.scope k e = some es) (ha : SndEs X ce Wx G as es) : SE X ce Wx G (.mo k as) e := by
  have mem : ∀ {l : List Str} {x : Str}, l.contains x = true → x ∈ l := fun h => by simpa using h
  unfold moV' at h
  split at h
  · split at h
    · split at h
      · rename_i hb
        cases h
        obtain ⟨a, rfl, h1⟩ := snd1 ha
        exact s_oneg (g.mts _ (mem hb)) g.tk h1
      · cases h
    · cases h
  · split at h
    · split at h
      · rename_i hb
        cases h
        obtain ⟨a, b, rfl, h1, h2⟩ := snd2 ha
        exact s_oadd (g.mts _ (mem hb)) (fun c C hC => (g.oc c C hC).sf) g.tk h1 h2
      · cases h
    · cases h
  · split at h
    · split at h
      · rename_i hb
        cases h
        obtain ⟨a, b, rfl, h1, h2⟩ := snd2 ha
        exact s_omul (g.mts _ (mem hb)) (fun c C hC => ⟨(g.oc c C hC).sf, (g.oc c C hC).mu⟩) g.tk h1 h2
      · cases h
    · cases h
  · split at h
    · split at h
      · rename_i gg a0 es0 pos hb
        cases h
        simp only [Bool.and_eq_true] at hb
        match as, ha with
        | .cons f (.cons a as), ha =>
          refine s_ocall (g.mts _ (mem hb.1)) g.tk ha.1 ha.2 ?_
          cases gg <;> first
            | exact fun h => wpAny_Call_Name_kw h
            | exact fun h => Call_ h
            | (cases hb.2; done)
        | .nil, ha => exact False.elim ha
        | .cons f .nil, ha => exact False.elim ha.2
      · cases h
    · cases h
  · split at h
    · split at h
      · rename_i hb
        cases h
        simp only [Bool.and_eq_true, decide_eq_true_eq, Bool.not_eq_true'] at hb
        obtain ⟨⟨rfl, h2⟩, h3⟩ := hb
        obtain ⟨a, rfl, h1⟩ := snd1 ha
        exact s_oprop (g.prs _ (mem h2)) (fun c C hC => (g.oc c C hC).cl) h3 h1
      · cases h
    · cases h
  · split at h
    · split at h
      · rename_i hb
        cases h
        simp only [Bool.and_eq_true, decide_eq_true_eq] at hb
        obtain ⟨⟨rfl, h2⟩, h3⟩ := hb
        obtain ⟨a, rfl, h1⟩ := snd1 ha
        have mi : ("len" : Str) ∈ biNames := by decide +kernel
        exact s_olen (g.mts _ (mem h3)) g.tk (gl_of h2) (g.bi _ mi) bt_len (bi_db _ mi).1 (bi_db _ mi).2 h1
      · cases h
    · cases h
  · split at h
    · split at h
      · rename_i hb
        cases h
        simp only [Bool.and_eq_true, Bool.not_eq_true'] at hb
        obtain ⟨a, b, rfl, h1, h2⟩ := snd2 ha
        exact s_oitem (g.mts _ (mem hb.1)) g.tk hb.2 h1 h2
      · cases h
    · cases h
  · split at h
    · split at h
      · rename_i hb
        cases h
        simp only [Bool.and_eq_true, Bool.not_eq_true'] at hb
        obtain ⟨a, b, rfl, h1, h2⟩ := snd2 ha
        exact s_oinn (g.mts _ (mem hb.1)) g.tk hb.2 h1 h2
      · cases h
    · cases h
  · split at h
    · split at h
      · rename_i hb
        cases h
        simp only [Bool.and_eq_true, Bool.not_eq_true'] at hb
        obtain ⟨a, b, rfl, h1, h2⟩ := snd2 ha
        exact s_oeq (.inl ⟨rfl, rfl⟩) g.units (g.mts _ (mem hb.1)) (fun c C hC => ⟨(g.oc c C hC).ic, (g.oc c C hC).ne⟩) (fun c C hC => (g.oc c C hC).nf) (fun c C hC c' C' hC' => (g.okk c' C' c C hC' hC).2) g.tk hb.2 h1 h2
      · cases h
    · cases h
  · split at h
    · split at h
      · rename_i hb
        cases h
        simp only [Bool.and_eq_true, Bool.not_eq_true'] at hb
        obtain ⟨a, b, rfl, h1, h2⟩ := snd2 ha
        exact s_oeq (.inr ⟨rfl, rfl⟩) g.units (g.mts _ (mem hb.1)) (fun c C hC => ⟨(g.oc c C hC).ic, (g.oc c C hC).ne⟩) (fun c C hC => (g.oc c C hC).nf) (fun c C hC c' C' hC' => (g.okk c' C' c C hC' hC).2) g.tk hb.2 h1 h2
      · cases h
    · cases h
theorem blk_kind {N : List Str} {sc scope : Scope} {own : List (Str × Nat)} (h : blkC N sc scope own = true) : scope.kind = .function := (blkOk_by h).kind
theorem i_seq {X : Cx} {Wx : WX} {a : E} {tg e : Expr} (ha : SE X ce Wx G a e) (hv : ∀ i, a = .var i → PI X tg e (liftI X.K ce Wx (WI G (.seq (.var i))))) : PI X tg e (liftI X.K ce Wx (WI G (.seq a))) := by
  cases a <;> first
    | exact hv _ rfl
    | exact i_val ha rfl
mutual
theorem snd_E : ∀ (a : E) (X : Cx) (Wx : WX) (e : Expr), Good X ce Wx G T → chkE T X.fn X.env.scope a e = true → SE X ce Wx G a e
  | .cst c, X, Wx, e, g, h => by
    unfold chkE at h
    split at h
    · exact const_ok h
    · cases h
  | .var i, X, Wx, e, g, h => by
    unfold chkE at h
    split at h
    · obtain ⟨h1, h2, h3, h4⟩ := var_ok g h
      exact snd_var h1 h2 h3 h4
    · cases h
  | .glob k, X, Wx, e, g, h => by
    unfold chkE at h
    split at h
    · simp only [Bool.and_eq_true, decide_eq_true_eq] at h
      cases hc : G.con k with
      | none => exact snd_false rfl rfl fun ρ Q E q => by rw [hc] at q; exact q
      | some c =>
        obtain ⟨u, v, g1, g2, g3⟩ := g.cons k _ h.1 c hc
        exact s_glob hc (gl_of h.2) g1 g2 (dbg1 (g.dbC _ (mem_get h.1))).1 g3
    · cases h
  | .prim f as, X, Wx, e, g, h => by
    unfold chkE at h
    split at h
    · rename_i es he
      exact prim_ok g he (snd_Es as X Wx es g h)
    · cases h
  | .ands as, X, Wx, e, g, h => by
    unfold chkE at h
    split at h
    · rename_i es p
      simp only [Bool.and_eq_true, Bool.not_eq_true'] at h
      have s := snd_Es as X Wx es g h.2
      cases es with
      | nil => cases h.1
      | cons e es =>
        cases as with
        | nil => exact False.elim s
        | cons a as => exact s_ands s
    · cases h
  | .ors as, X, Wx, e, g, h => by
    unfold chkE at h
    split at h
    · rename_i es p
      simp only [Bool.and_eq_true, Bool.not_eq_true'] at h
      have s := snd_Es as X Wx es g h.2
      cases es with
      | nil => cases h.1
      | cons e es =>
        cases as with
        | nil => exact False.elim s
        | cons a as => exact s_ors s
    · cases h
  | .nt a, X, Wx, e, g, h => by
    unfold chkE at h
    split at h
    · exact s_not (snd_E a X Wx _ g h)
    · cases h
  | .ite c a b, X, Wx, e, g, h => by
    unfold chkE at h
    split at h
    · simp only [Bool.and_eq_true] at h
      exact s_ite (snd_E c X Wx _ g h.1.1) (snd_E a X Wx _ g h.1.2) (snd_E b X Wx _ g h.2)
    · cases h
  | .chain f k a b c, X, Wx, e, g, h => by
    unfold chkE at h
    split at h
    · simp only [Bool.and_eq_true, decide_eq_true_eq, Bool.not_eq_true'] at h
      obtain ⟨⟨⟨⟨⟨h1, h2⟩, h3⟩, h4⟩, h5⟩, h6⟩ := h
      exact s_chain (cmp_ok g h1).2 (cmp_ok g h2).2 h3 (snd_E a X Wx _ g h4) (snd_E b X Wx _ g h5) (snd_E c X Wx _ g h6)
    · cases h
  | .call f as, X, Wx, e, g, h => by
    unfold chkE at h
    split at h
    · simp only [Bool.and_eq_true, decide_eq_true_eq] at h
      cases hc : G.fn f with
      | none => exact snd_false rfl rfl fun ρ Q E q => by rw [hc] at q; exact q
      | some ms =>
        obtain ⟨mask, sp⟩ := ms
        obtain ⟨k, ad, fd, ps, f1, f2, f3, f4, f5⟩ := g.fns f _ h.1.1 mask sp hc
        exact s_call hc f1 f2 g.guards (gl_of h.1.2) f3 f4 f5 g.tk (dbg1 (g.dbF _ (mem_get h.1.1))).1 (snd_Es as X Wx _ g h.2)
    · cases h
  | .lst as, X, Wx, e, g, h => by
    unfold chkE at h
    split at h
    · exact s_lst (snd_Es as X Wx _ g h)
    · cases h
  | .tup as, X, Wx, e, g, h => by
    unfold chkE at h
    split at h
    · exact s_tup (snd_Es as X Wx _ g h)
    · cases h
  | .comp own elt t it cond, X, Wx, e, g, h => by
    unfold chkE at h
    split at h
    · rename_i el cl scope p
      obtain ⟨tg, iter, ifs, asy⟩ := cl
      simp only [Bool.and_eq_true, decide_eq_true_eq, Bool.not_eq_true'] at h
      obtain ⟨⟨⟨⟨⟨⟨⟨⟨h0, h1⟩, h2⟩, h3⟩, h4⟩, h5⟩, h6⟩, h7⟩, h8⟩ := h
      subst h0
      have gb := fun s H C cl fp => g.blk (s := s) (H := H) (C := C) (cl := cl) (fp := fp) (blk_kind h1)
      have hN : X.N.Nodup := by rw [g.eN]; exact g.nd
      rw [← g.eN] at h1 h5
      have pe := pe_lc (pos := p) (elt := el) (g := gL X.K t) (tt := liftT X.K ce noW (Ws G cond).andT) (te := liftV X.K ce noW (W G elt).v) g.calm hN (snd_I it X Wx tg iter g h3) (blkOk_by h1) (fun s H C cl fp => g_T (X := X.blk s H scope (compEnvC scope cl C X.env) fp) g.calm hN t tg h5)
        (fun s H C cl fp => pts_ok h6 (snd_Es cond _ noW ifs (gb s H C cl fp) h7)) (fun s H C cl fp => (snd_E elt _ noW el (gb s H C cl fp) h8).v) fun _ => noset h4
      rw [own_ok] at pe
      exact sm_ofV rfl rfl (PE.imp pe fun σ H Q q => lc_imp (sub_ok h2) q)
    · cases h
  | .comp2 own own1 elt t it cond t1 it1 cond1, X, Wx, e, g, h => by
    unfold chkE at h
    split at h
    · rename_i el cl cl1 scope p
      obtain ⟨tg, iter, ifs, asy⟩ := cl
      obtain ⟨tg1, iter1, ifs1, asy1⟩ := cl1
      simp only [Bool.and_eq_true, decide_eq_true_eq, Bool.not_eq_true'] at h
      obtain ⟨⟨⟨⟨⟨⟨⟨⟨⟨⟨⟨⟨⟨⟨⟨⟨a0, a1⟩, a2⟩, a3⟩, a4⟩, a5⟩, a6⟩, a7⟩, a8⟩, a9⟩, a10⟩, a11⟩, a12⟩, a13⟩, a14⟩, a15⟩, a16⟩ := h
      subst a0
      subst a1
      have gb := fun s H C cl fp => g.blk (s := s) (H := H) (C := C) (cl := cl) (fp := fp) (blk_kind a2)
      have hN : X.N.Nodup := by rw [g.eN]; exact g.nd
      rw [← g.eN] at a2 a9 a10
      have pe := pe_lc2 (pos := p) (vs1 := own1) (elt := el) (g := gL X.K t) (g1 := gL X.K t1) (tg1 := tg1) (iter1 := iter1) (wi1 := liftI X.K ce noW (WI G it1)) (tt := liftT X.K ce noW (Ws G cond).andT) (tt1 := liftT X.K ce noW (Ws G cond1).andT) (te := liftV X.K ce noW (W G elt).v) g.calm hN (snd_I it X Wx tg iter g a6) (blkOk_by a2) (by rw [own_ok]; exact sub_ok a5) (fun s H C cl fp => g_T (X := X.blk s H scope (compEnvC scope cl C X.env) fp) g.calm hN t tg a9)
        (fun s H C cl fp => pts_ok a11 (snd_Es cond _ noW ifs (gb s H C cl fp) a13)) (fun s H C cl fp => snd_I it1 _ noW tg1 iter1 (gb s H C cl fp) a15) (fun s H C cl fp => g_T (X := X.blk s H scope (compEnvC scope cl C X.env) fp) g.calm hN t1 tg1 a10)
        (fun s H C cl fp => pts_ok a12 (snd_Es cond1 _ noW ifs1 (gb s H C cl fp) a14)) (fun s H C cl fp => (snd_E elt _ noW el (gb s H C cl fp) a16).v) (fun _ => noset a7) (fun _ _ => noset a8)
      rw [own_ok] at pe
      exact sm_ofV rfl rfl (PE.imp pe fun σ H Q q => lc2_imp (sub_ok a3) (sub_ok a4) q)
    · cases h
  | .mcall m i as, X, Wx, e, g, h => by
    unfold chkE at h
    split at h
    · simp only [Bool.and_eq_true, decide_eq_true_eq] at h
      obtain ⟨⟨⟨⟨⟨h1, rfl⟩, h3⟩, h4⟩, h5⟩, h6⟩ := h
      exact mcall_ok g h1 h3 (snd_Es as X Wx _ g h4) h5 h6
    · cases h
  | .reprL as, X, Wx, e, g, h => by
    unfold chkE at h
    split at h
    · simp only [Bool.and_eq_true, decide_eq_true_eq] at h
      obtain ⟨⟨rfl, h2⟩, h3⟩ := h
      have h1 : X.A.units + 64 < cLine := Nat.lt_of_le_of_lt (Nat.le_succ _) g.units
      have mi : ("repr" : Str) ∈ biNames := by decide +kernel
      exact s_reprL g.guards h1 (gl_of h2) (g.bi _ mi) bt_repr (bi_db _ mi).1 (bi_db _ mi).2 (snd_Es as X Wx _ g h3)
    · cases h
  | .lenS a, X, Wx, e, g, h => by
    unfold chkE at h
    split at h
    · simp only [Bool.and_eq_true, decide_eq_true_eq] at h
      obtain ⟨⟨⟨⟨rfl, rfl⟩, h3⟩, h4⟩, h5⟩ := h
      have m1 : ("len" : Str) ∈ biNames := by decide +kernel
      have m2 : ("set" : Str) ∈ biNames := by decide +kernel
      exact s_lenS g.calm (gl_of h3) (g.bi _ m1) (gl_of h4) (g.bi _ m2) (snd_E a X Wx _ g h5)
    · cases h
  | .new c a, X, Wx, e, g, h => by
    unfold chkE at h
    split at h
    · simp only [Bool.and_eq_true] at h
      obtain ⟨⟨⟨h1, h2⟩, h3⟩, h4⟩ := h
      obtain ⟨f, h1⟩ := ocl_of h1
      obtain ⟨_, k2, C, k3, k4, k5⟩ := g.ob _ _ _ h1
      exact s_new k3 (g.cts c (by simpa using h3) C k3) k5 g.tk (gl_of h2) k4 k2 (snd_E a X Wx _ g h4)
    · cases h
  | .fld a c, X, Wx, e, g, h => by
    unfold chkE at h
    split at h
    · simp only [Bool.and_eq_true, Bool.not_eq_true'] at h
      obtain ⟨⟨h1, h2⟩, h3⟩ := h
      obtain ⟨x, h1⟩ := ofd_of h1
      obtain ⟨k1, _⟩ := g.ob _ _ _ h1
      exact s_ofld k1 (fun C hC => ⟨(g.oc c C hC).cl, by have := (g.oc c C hC).na; rw [k1] at this; exact this⟩) h2 (snd_E a X Wx _ g h3)
    · cases h
  | .mo k as, X, Wx, e, g, h => by
    unfold chkE at h
    split at h
    · rename_i es he
      exact mo_ok g he (snd_Es as X Wx es g h)
    · cases h
  | .isO a c, X, Wx, e, g, h => by
    unfold chkE at h
    split at h
    · simp only [Bool.and_eq_true, decide_eq_true_eq] at h
      obtain ⟨⟨⟨⟨rfl, h2⟩, h3⟩, h4⟩, h5⟩ := h
      obtain ⟨f, h3⟩ := ocl_of h3
      obtain ⟨_, k2, C, k3, k4, k5⟩ := g.ob _ _ _ h3
      have mi : ("isinstance" : Str) ∈ biNames := by decide +kernel
      exact s_isO (gl_of h2) (g.bi _ mi) k3 (gl_of h4) k4 k2 (fun c C hC => (g.oc c C hC).ic) (g.oc c C k3).kt (fun c' C' hC => (g.okk c' C' c C hC k3).1) (snd_E a X Wx _ g h5)
    · cases h
  | .isT t a, X, Wx, e, g, h => by
    unfold chkE at h
    split at h
    · simp only [Bool.and_eq_true, decide_eq_true_eq] at h
      obtain ⟨⟨⟨⟨rfl, h2⟩, h3⟩, h4⟩, h5⟩ := h
      obtain ⟨k1, k2⟩ := ty_ok h2
      have k4 : tyName t ∈ ["NoneType", "bool", "int", "str", "list", "tuple", "dict"] := by cases t <;> simp [tyName]
      have mi : ("isinstance" : Str) ∈ biNames := by decide +kernel
      exact s_isT (gl_of h3) (g.bi _ mi) bt_isi (bi_db _ mi).1 (bi_db _ mi).2 (gl_of h4) (g.bi _ k1) k2 (bi_db _ k1).1 (bi_db _ k1).2 (fun c C hC => (g.oc c C hC).ic) (fun c C hC => (g.oc c C hC).kb _ k4) (snd_E a X Wx _ g h5)
    · cases h
  | .smul a b, X, Wx, e, g, h => by
    unfold chkE at h
    split at h
    · simp only [Bool.and_eq_true] at h
      exact s_smul (snd_E a X Wx _ g h.1) (snd_E b X Wx _ g h.2)
    · cases h
  | .nev, X, Wx, e, g, h => by
    unfold chkE at h
    simp only [Bool.and_eq_true, Bool.not_eq_true'] at h
    exact s_nev h.1.1 h.1.2
  | .litD k n, X, Wx, e, g, h => by
    unfold chkE at h
    split at h
    · simp only [Bool.and_eq_true, beq_iff_eq] at h
      obtain ⟨h1, rfl⟩ := h
      exact litD_ok h1
    · cases h
  | .dct0, X, Wx, e, g, h => by
    unfold chkE at h
    split at h
    · exact s_dct0
    · cases h
  | .dct1 a b, X, Wx, e, g, h => by
    unfold chkE at h
    split at h
    · simp only [Bool.and_eq_true] at h
      exact s_dct1 g.units (snd_E a X Wx _ g h.1) (snd_E b X Wx _ g h.2)
    · cases h
  | .dupd i a, X, Wx, e, g, h => by
    unfold chkE at h
    split at h
    · simp only [Bool.and_eq_true, decide_eq_true_eq] at h
      obtain ⟨⟨⟨h1, rfl⟩, h3⟩, h4⟩ := h
      obtain ⟨k1, k2, k3, k4⟩ := var_ok g h1
      exact s_dupd g.units k1 k2 k3 k4 (snd_E a X Wx _ g h3) h4
    · cases h
  | .meth t f a as, X, Wx, e, g, h => by
    unfold chkE at h
    split at h
    · simp only [Bool.and_eq_true, decide_eq_true_eq, Bool.not_eq_true'] at h
      obtain ⟨⟨⟨⟨⟨⟨h1, h2⟩, h3⟩, h4⟩, h5⟩, h6⟩, h7⟩ := h
      exact meth_ok g h1 h2 (snd_E a X Wx _ g h3) h4 (snd_Es as X Wx _ g h5) h6 h7
    · cases h
  | .sl a l u, X, Wx, e, g, h => by
    unfold chkE at h
    split at h
    · simp only [Bool.and_eq_true] at h
      exact s_sl (snd_E a X Wx _ g h.1.1) (snd_E l X Wx _ g h.1.2) (snd_E u X Wx _ g h.2)
    · cases h
theorem snd_Es : ∀ (as : Es) (X : Cx) (Wx : WX) (es : List Expr), Good X ce Wx G T → chkEs T X.fn X.env.scope as es = true → SndEs X ce Wx G as es
  | .nil, X, Wx, [], g, h => trivial
  | .nil, X, Wx, _ :: _, g, h => by simp [chkEs] at h
  | .cons a as, X, Wx, [], g, h => by simp [chkEs] at h
  | .cons a as, X, Wx, e :: es, g, h => by
    unfold chkEs at h
    simp only [Bool.and_eq_true] at h
    exact ⟨snd_E a X Wx e g h.1, snd_Es as X Wx es g h.2⟩
theorem snd_I : ∀ (it : I) (X : Cx) (Wx : WX) (tg e : Expr), Good X ce Wx G T → chkI T X.fn X.env.scope it tg e = true → PI X tg e (liftI X.K ce Wx (WI G it))
  | .seq a, X, Wx, tg, e, g, h => by
    unfold chkI at h
    refine i_seq (snd_E a X Wx e g h) fun i hi => ?_
    subst hi
    unfold chkE at h
    split at h
    · obtain ⟨h1, h2, h3, h4⟩ := var_ok g h
      exact i_var h1 h2 h3 h4
    · cases h
  | .rng1 a, X, Wx, tg, e, g, h => by
    unfold chkI at h
    split at h
    · simp only [Bool.and_eq_true, decide_eq_true_eq] at h
      obtain ⟨⟨rfl, h2⟩, h3⟩ := h
      exact i_rng1 (gl_of h2) (g.bi _ (by decide +kernel)) (snd_E a X Wx _ g h3)
    · cases h
  | .rng2 a b, X, Wx, tg, e, g, h => by
    unfold chkI at h
    split at h
    · simp only [Bool.and_eq_true, decide_eq_true_eq] at h
      obtain ⟨⟨⟨rfl, h2⟩, h3⟩, h4⟩ := h
      exact i_rng2 (gl_of h2) (g.bi _ (by decide +kernel)) (snd_E a X Wx _ g h3) (snd_E b X Wx _ g h4)
    · cases h
  | .zip a b, X, Wx, tg, e, g, h => by
    unfold chkI at h
    split at h
    · split at h
      · simp only [Bool.and_eq_true, decide_eq_true_eq] at h
        obtain ⟨⟨⟨rfl, h2⟩, h3⟩, h4⟩ := h
        exact i_zip (gl_of h2) (g.bi _ (by decide +kernel)) (snd_E a X Wx _ g h3) (snd_E b X Wx _ g h4)
      · cases h
    · cases h
  | .enum a, X, Wx, tg, e, g, h => by
    unfold chkI at h
    split at h
    · split at h
      · simp only [Bool.and_eq_true, decide_eq_true_eq] at h
        obtain ⟨⟨rfl, h2⟩, h3⟩ := h
        exact i_enum (gl_of h2) (g.bi _ (by decide +kernel)) (snd_E a X Wx _ g h3)
      · cases h
    · cases h
  | .enumZ a b, X, Wx, tg, e, g, h => by
    unfold chkI at h
    split at h
    · split at h
      · simp only [Bool.and_eq_true, decide_eq_true_eq] at h
        obtain ⟨⟨⟨⟨⟨rfl, h2⟩, rfl⟩, h4⟩, h5⟩, h6⟩ := h
        exact i_enumZ (gl_of h2) (g.bi _ (by decide +kernel)) (gl_of h4) (g.bi _ (by decide +kernel)) (snd_E a X Wx _ g h5) (snd_E b X Wx _ g h6)
      · cases h
    · cases h
  | .items a, X, Wx, tg, e, g, h => by
    unfold chkI at h
    split at h
    · split at h
      · simp only [Bool.and_eq_true, decide_eq_true_eq, Bool.not_eq_true'] at h
        obtain ⟨⟨⟨rfl, h2⟩, h3⟩, h4⟩ := h
        exact i_items (snd_E a X Wx _ g h3) h2 h4
      · cases h
    · cases h
  | .rngD a b, X, Wx, tg, e, g, h => by
    unfold chkI at h
    split at h
    · simp only [Bool.and_eq_true, decide_eq_true_eq] at h
      obtain ⟨⟨⟨rfl, h2⟩, h3⟩, h4⟩ := h
      exact i_rngD (gl_of h2) (g.bi _ (by decide +kernel)) (snd_E a X Wx _ g h3) (snd_E b X Wx _ g h4)
    · cases h
end
end
end FX
set_option maxHeartbeats 2000000
/-! ### isinstance of an own error, with or without fields -/
namespace PySem.W
open PySem PySem.Spec PyProof.Rows
section
variable {prog : Program} {w : World} {A : Around} {E : Value → Shared → Prop} {K : Frag} {x D : Addr} {ox : Obj} {od : Option Obj} {s : Shared}
theorem fx_classE {Q : Option Value → Shared → Prop} (hga : findIn K (.ref D) "__getattribute__" = some (some (.builtin "BaseException.__getattribute__"))) (hgt : findIn K (.ref D) "__getattr__" = some none) (hsub : subIn K (.ref D) (.type "BaseException") = some true)
    (hdct : hasDictIn K D = true) (ha : findIn K (.ref D) "__class__" = some (some (.builtin "object.__class__")))
    (hn : specialIn K (.builtin "object.__class__") "__get__" = some (some (.builtin "getset_descriptor.__get__"))) (htk : takesIn K (.builtin "object.__class__") = some true) (hm : mroIn K D (.type "object") = some true)
    (X : K.In s.heap) (I : InstAt s.heap x ox D od) (h : Q (some (.ref D)) { s with toks := s.toks + 1 }) : wpAny (model prog w) A (getAttr? (.ref x) "__class__") Q E s := by
  have hf : findObj K D od "__class__" = some (.bind (.builtin "getset_descriptor.__get__") (.builtin "object.__class__")) := by
    obtain ⟨cd, hc, _⟩ := any_some hdct
    unfold findObj
    rw [hc, Option.bind_some, ha, Option.bind_some]
    simp [hn, htk]
  obtain ⟨hp, g, d, t, os⟩ := s
  have L0 := I.type (M := model prog w)
  have L1 := looks_findIn (M := model prog w) X hga
  have L2 := looks_findIn (M := model prog w) X hgt
  have L3 := looks_find (M := model prog w) X I hf
  have sub : Looks (model prog w) hp (isInstance (.ref x) (.type "BaseException")) true := L0.andThen (looks_subIn X hsub)
  have hx0 : (false && onTheHeap (Value.builtin "BaseException.__getattribute__")) = false := rfl
  have hx2 : (Value.builtin "BaseException.__getattribute__" == Value.builtin "object.__getattribute__") = false := by decide +kernel
  have hx1 : (onTheHeap (Value.ref D) && Value.builtin "BaseException.__getattribute__" == Value.builtin "object.__getattribute__") = false := by rw [hx2]; rfl
  unfold getAttr? getAttrBy? getAttrBy
  refine wpAny_bind (wpAny_mkText (wpAny_bind (wpAny_attempt (wpAny_holding (wpAny_bind (L0.at (wpAny_bind (L1.at ?_))))))))
  show wpAny _ _ (if (onTheHeap (Value.ref D) && Value.builtin "BaseException.__getattribute__" == Value.builtin "object.__getattribute__") = true then _ else _) _ _ _
  rw [hx1, if_neg Bool.false_ne_true]
  unfold getAttrByItsOwn hookBefore
  refine wpAny_bind ?_
  rw [if_pos (show onTheHeap (Value.ref D) = true from rfl)]
  refine L2.at ?_
  refine wpAny_bind (wpAny_attempt (wpAny_holding ?_))
  unfold callGetattribute
  rw [hx0, if_neg Bool.false_ne_true]
  unfold boundAndCalled
  rw [PySem.F.excAttr_ValueError.ga.bind (.ref x)]
  refine wpAny_bind (wpAny_pure ?_)
  show wpAny _ _ (call (.builtin "BaseException.__getattribute__") [.ref x, .str "__class__" t]) _ _ _
  refine wpAny_call (codeAny_call_builtin PySem.F.excAttr_ValueError.ga.plain PySem.F.entry_bexc_ga ?_)
  refine @check_slot (model prog w) _ _ ⟨hp, g, d, t + 1, os⟩ "BaseException.__getattribute__" "BaseException" "__getattribute__" (.ref x) [.str "__class__" t] [] _ (by decide +kernel) (by decide +kernel) sub (PySem.F.args_bexc_ga (.ref x) (.str "__class__" t)) ?_
  unfold Builtin.«object.__getattribute__»
  refine wpAny_bind (wpAny_of_eq (a := ((Value.ref x : Value), [Value.str "__class__" t])) (by first | rfl | (simp only [slotArgs]; rfl)) ?_)
  refine wpAny_bind (wpAny_pure (wpAny_bind (L0.at (wpAny_bind (L3.at ?_)))))
  show wpAny _ _ (holding [Value.builtin "object.__class__"] (call (.builtin "getset_descriptor.__get__") [.builtin "object.__class__", .ref x, .ref D]) >>= ret) _ _ _
  refine wpAny_bind (wpAny_holding (wpAny_call (class_get (s := ⟨hp, g, d, t + 1, os⟩) (ox := ox) (od := od) X I hm ?_)))
  refine wpAny_pure ?_
  show wpAny _ _ (handedOut (.ref D)) _ _ _
  rw [handedOut_of (v := .ref D) rfl]
  first
    | exact wpAny_pure (wpAny_pure h)
    | exact wpAny_pure h
    | exact wpAny_pure (wpAny_bind (wpAny_pure (wpAny_pure h)))
theorem fx_kitx (C : L2.ExcC K D) : KitX K (.ref x) (.ref D) (fun h => ∃ od, InstAt h x ox D od) where
  ty := fun _ _ _ ⟨_, I⟩ => I.type
  it := fun _ _ X _ => by
    obtain ⟨cdD, hcD, _⟩ := any_some C.hd
    unfold clsIn at hcD
    split at hcD
    · rename_i c' d' cd' sl' ho
      intro A' Q' E' s' k q
      unfold isType loadHead
      exact wpAny_bind (wpAny_loadPart (k _ _ (X _ _ ho)) (wpAny_pure q))
    · cases hcD
  ne := fun h tp dd its n sl X htp => by
    obtain ⟨cdD, hcD, _⟩ := any_some C.hd
    refine Bool.eq_false_iff.mpr fun q => ?_
    have e : D = tp := Value.ref.inj (beq_iff_eq.mp q)
    subst e
    unfold clsIn at hcD
    split at hcD
    · rename_i c' d' cd' sl' ho
      have z := (X _ _ ho).symm.trans htp
      cases z
    · cases hcD
  ca := fun X ⟨od, I⟩ k => fx_classE C.hg C.hk C.hs C.hd C.ha C.hn C.ht C.hm X I k
end
end PySem.W
namespace FX
variable [Wc]
open PySem PySem.Spec PyProof.Rows L2
def veT : List Value := [.type "ValueError", .type "Exception", .type "BaseException", .type "object"]
/-- what the written part says of an own error class; b: it has no own __init__ -/
structure ClsF (K : PySem.W.Frag) (C : Addr) (b : Bool) : Prop where
  kp : PySem.W.keepIn K (.ref C) = true
  sb : PySem.W.subIn K (.ref C) (.type "BaseException") = some true
  ty : PySem.W.typeIn K (.ref C) = some (.type "type")
  xc : ExcC K C
  made : b = true → PySem.W.excIn K C veT "ValueError.__new__" = true
/-- the classes of errors, by number, over a written part -/
structure ClsAll (K : PySem.W.Frag) (ce : ExcT) (sub : Nat → Nat → Bool) : Prop where
  xc : ∀ c v, ce.cls c = some v → ∃ D, v = .ref D ∧ ExcC K D
  kit : ∀ i j u v, ce.cls i = some u → ce.cls j = some v → PySem.W.kitOne K u v = some (sub i j) ∧ PySem.W.exmOne K u v = some (sub i j)
section
variable {X : Cx} {ce : ExcT} {Wx : WX} {G : Gm}
theorem st_rais {c : Nat} {C : Addr} {x m : Str} {j : Nat} {p p2 pos pos' : Pos} (hc : X.calm = true) (tk : Takes X Wx) (cf : ClsF X.K C true) (hC : ce.cls c = some (.ref C)) (hm : X.mg x = some (.ref C)) (hg : Gl X x) (hdb : (x == ("__debug__" : Str)) = false) :
    SSt X ce Wx G (.rais c .nil) (.Raise (some (.Call (.Name x p) [.Constant (.str m) j p2] [] pos)) none pos') := by
  refine PS.imp (ps_raise hc tk (pmk_own PySem.F.excBase_ValueError (cf.made rfl) hm cf.kp (raises_own cf.sb cf.ty) hg hdb)) ?_
  rintro D σ H ⟨F, τ, ρ, D0, hl, R, q, d⟩
  have q : D0.ex ⟨c, none⟩ ρ := q
  exact d.ex ⟨c, none⟩ ρ F H σ (.ref C) none q hl rfl agree.refl (fun _ _ e => e) R ⟨hC, rfl⟩
/-! ### except suites that answer a text -/
/-- isinstance(e, c) -/
def rIsX (ce : ExcT) (sub : Nat → Nat → Bool) (cls : Value) (d : Option Addr) (a : Addr) (c : Nat) : List V → Hp → VK → Prop := fun xs H Q => ∃ (x : Exc) (Cc : Addr), xs = [.ref a, .ref Cc] ∧ ExcR ce x cls d H ∧ ce.cls c = some (.ref Cc) ∧ Q (.bl (sub x.cls c)) H
theorem call_isX {sub : Nat → Nat → Bool} {a : Addr} {oe : Obj} {cls : Value} {d : Option Addr} {pn : List (Addr × Obj)} {c : Nat} (A : ClsAll X.K ce sub) (hz : Zc cls d oe) (hf : ∃ vs, oe.data = .fields vs) :
    CallR (X.suite a ((a, oe) :: pn)) (.builtin "isinstance") (rIsX ce sub cls d a c) := by
  intro pins s σ H xs us Q I r h
  obtain ⟨x, Cc, rfl, hx, hc, q⟩ := h
  obtain ⟨u1, u2, rfl, r1, r2⟩ := vals2 r
  cases (show u1 = Value.ref a from r1)
  cases (show u2 = Value.ref Cc from r2)
  obtain ⟨D, rfl, xc⟩ := A.xc _ _ hx.1
  obtain ⟨hget, _⟩ := I.pin (a, oe) (List.mem_append.mpr (.inl List.mem_cons_self))
  obtain ⟨vs, hv⟩ := hf
  have J : ∃ od, PySem.W.InstAt s.heap a oe D od := by
    obtain ⟨oc, od, oda, osl⟩ := oe
    obtain ⟨h1, h2⟩ := hz
    dsimp only at h1 h2 hv
    subst h1 h2 hv
    have hp := hx.2
    cases hpay : x.pay with
    | none =>
      rw [hpay] at hp
      subst hp
      exact ⟨none, hget, rfl, rfl, trivial⟩
    | some p =>
      rw [hpay] at hp
      obtain ⟨dx, f, n, rfl, _, _, hd⟩ := hp
      obtain ⟨mA, ⟨o, es, ep, ho, _⟩, _⟩ := (show ObjOk X.prog X.w H s.heap dx (.xd [(f, .int n)]) from I.hok dx _ hd)
      exact ⟨some o, hget, rfl, rfl, ho⟩
  exact PySem.W.kia_one (PySem.W.fx_kitx xc) I.kIn J (A.kit _ _ _ _ hx.1 hc).1 (fun z => nomatch z) fun tk => ⟨.bl _, H, I.kept (t' := tk) fun _ _ z => z, rfl, q⟩
/-- the test of an except suite -/
def tHC (ce : ExcT) (sub : Nat → Nat → Bool) (cls : Value) (d : Option Addr) (a : Addr) (ie : Nat) (h : HC) : TT := fun σ H Q => ∃ x, ExcR ce x cls d H ∧ σ[ie]? = some (some (.ref a)) ∧ Q (h.ok sub x) H
def tHX (ce : ExcT) (sub : Nat → Nat → Bool) (cls : Value) (d : Option Addr) (a : Addr) (ie : Nat) (h : HX) : TE := fun σ H Q => ∃ x s, ExcR ce x cls d H ∧ σ[ie]? = some (some (.ref a)) ∧ h.val sub x = some s ∧ Q (.str s) H
section
variable {sub : Nat → Nat → Bool} {a : Addr} {oe : Obj} {cls : Value} {d : Option Addr} {pn : List (Addr × Obj)} {ie : Nat}
theorem pt_isX {c : Nat} {C : Addr} {n cn : Str} {p1 p2 p3 pos : Pos} (A : ClsAll X.K ce sub) (hz : Zc cls d oe) (hf : ∃ vs, oe.data = .fields vs) (hg : Gl X "isinstance") (hm : X.mg "isinstance" = none) (hN : X.N[ie]? = some n) (hv : Vis X.env.scope n)
    (hd : (n == ("__debug__" : Str)) = false) (hcd : (n == ("__classdict__" : Str)) = false) (hC : ce.cls c = some (.ref C)) (gC : Gl X cn) (mC : X.mg cn = some (.ref C)) (dC : (cn == ("__debug__" : Str)) = false) :
    PT (X.suite a ((a, oe) :: pn)) (.Call (.Name "isinstance" p1) [.Name n p2, .Name cn p3] [] pos) (tHC ce sub cls d a ie (.isC c)) := by
  have bt : bootBuiltins ("isinstance" : Str) = some (.builtin "isinstance") := by decide +kernel
  have h := pe_callB (X := X.suite a ((a, oe) :: pn)) (pos := pos) (p := p1) (call_isX (pn := pn) (c := c) A hz hf) hg hm bt (pa_cons (pe_var (pos := p2) hN hv hd hcd) (pa_cons (pe_glob (v := .ref C) (pos := p3) gC mC rfl dC) pa_nil))
  refine ⟨fun pins s σ H Q I ⟨x, h1, h2, q⟩ => (pt_val h).run pins s σ H Q I ?_⟩
  exact ⟨.ref a, h2, x, C, rfl, h1, hC, _, rfl, q⟩
theorem PT.imp' {X : Cx} {e : Expr} {t t' : TT} (p : PT X e t) (h : ∀ σ H Q, t' σ H Q → t σ H Q) : PT X e t' := ⟨fun pins s σ H Q I q => p.run pins s σ H Q I (h σ H Q q)⟩
theorem pt_ntX {X' : Cx} {h : HC} {e : Expr} {pos : Pos} (he : PT X' e (tHC ce sub cls d a ie h)) : PT X' (.UnaryOp .Not e pos) (tHC ce sub cls d a ie (.nt h)) :=
  PT.imp' (pt_not he) fun σ H Q ⟨x, h1, h2, q⟩ => ⟨x, h1, h2, q⟩
theorem pt_andX {X' : Cx} {h g : HC} {e f : Expr} {pos : Pos} (he : PT X' e (tHC ce sub cls d a ie h)) (hf : PT X' f (tHC ce sub cls d a ie g)) : PT X' (.BoolOp .And [e, f] pos) (tHC ce sub cls d a ie (.and h g)) :=
  PT.imp' (pw_and he (pw_and1 hf)).pt fun σ H Q ⟨x, h1, h2, q⟩ => ⟨x, h1, h2, by
    have q : Q (h.ok sub x && g.ok sub x) H := q
    cases e : h.ok sub x with
    | true =>
      rw [e, Bool.true_and] at q
      exact ⟨x, h1, h2, q⟩
    | false =>
      rw [e, Bool.false_and] at q
      exact q⟩
theorem pe_txtX {X' : Cx} {s : Str} {j : Nat} {pos : Pos} : PE X' (.Constant (.str s) j pos) (tHX ce sub cls d a ie (.txt s)) :=
  PE.imp pe_str fun σ H Q ⟨x, s', h1, h2, e, q⟩ => by
    cases e
    exact q
theorem pe_iteX {X' : Cx} {h : HC} {x y : HX} {c e f : Expr} {pos : Pos} (hc : PT X' c (tHC ce sub cls d a ie h)) (he : PE X' e (tHX ce sub cls d a ie x)) (hf : PE X' f (tHX ce sub cls d a ie y)) : PE X' (.IfExp c e f pos) (tHX ce sub cls d a ie (.ite h x y)) :=
  PE.imp (pe_ifExp hc he hf) fun σ H Q ⟨z, s, h1, h2, hv, q⟩ => ⟨z, h1, h2, by
    have hv : (if h.ok sub z = true then x.val sub z else y.val sub z) = some s := hv
    cases e : h.ok sub z with
    | true =>
      rw [e, if_pos rfl] at hv
      show (if true = true then _ else _)
      rw [if_pos rfl]
      exact ⟨z, s, h1, h2, hv, q⟩
    | false =>
      rw [e, if_neg Bool.false_ne_true] at hv
      show (if false = true then _ else _)
      rw [if_neg Bool.false_ne_true]
      exact ⟨z, s, h1, h2, hv, q⟩⟩
end
theorem PS.impL {X : Cx} {e : Stmt} {t t' : TS} (p : PS X e t) (h : ∀ D σ H, σ.length = X.N.length → t' D σ H → t D σ H) : PS X e t' := ⟨fun pins s σ H D I q => p.run pins s σ H D I (h D σ H I.len q)⟩
theorem st_tryR {b : S} {c i : Nat} {h : HX} {C : Addr} {x n : Str} {body : List Stmt} {e : Expr} {np pr pos' pos : Pos} (hs : X.stack = X.env :: X.outer) (hf : X.env.frame = some X.env.locals) (hN : X.N.Nodup) (hi : X.N[i]? = some n) (hln : X.env.kindOf n = some .local)
    (tk : Takes X Wx) (A : ClsAll X.K ce G.sub) (hC : ce.cls c = some (.ref C)) (gC : Gl X x) (mC : X.mg x = some (.ref C)) (dC : (x == ("__debug__" : Str)) = false)
    (hb : ∀ (W : WX) (pn : List (Addr × Obj)) (xe : Value → Shared → Prop), Takes (X.tr pn xe) W → PassesOwn (model X.prog X.w) X.A X.env xe → SSs (X.tr pn xe) ce W G b body)
    (hh : ∀ (a : Addr) (oe : Obj) (cls : Value) (d : Option Addr) (pn : List (Addr × Obj)), Zc cls d oe → (∃ vs, oe.data = .fields vs) → PE (X.suite a ((a, oe) :: pn)) e (tHX ce G.sub cls d a i h)) :
    SSt X ce Wx G (.tryR b c i h) (.Try body [.ExceptHandler (some (.Name x np)) (some n) [.Return (some e) pr] pos'] [] [] pos) := by
  refine PS.impL (ps_try_as (i := i) (c := .ref C) (tb := fun W => liftS X.K ce W b.asgs (WS G b)) (ts := fun a cls d => tRet (tHX ce G.sub cls d a i h)) hs hf hN hi hln ⟨gC, dC, .inl mC⟩ tk hb fun a oe cls d pn hz hd => pss_one (ps_ret (hh a oe cls d pn hz hd))) ?_
  rintro D σ H hlen ⟨F, τ, ρ, D0, hl, R, q, d⟩
  refine ⟨F, τ, ρ, _, hl, R, q, ?_⟩
  have d2 : DOk X.K ce Wx b.asgs F τ σ D0 D := d.step (ω := []) (a := []) agree.refl (fun i h => by cases h) (fun i h => List.mem_cons_of_mem _ h) rfl (fun _ _ e => e)
  refine ⟨d2.nx, d2.bk, d2.ct, d2.rt, ?_⟩
  intro x ρ' F' H' σ' cls dd q' l1 l2 g s R' hx
  refine ⟨G.sub x.cls c, (A.kit _ _ _ _ hx.1 hC).2, fun hb a ha => ?_, fun hb => ?_⟩
  · have q' : (if G.sub x.cls c = true then h.run G.sub x (fun s => D0.rt (.d (.str s)) ρ') else D0.ex x ρ') := q'
    rw [if_pos hb] at q'
    unfold HX.run at q'
    cases hv : h.val G.sub x with
    | none => rw [hv] at q'; exact q'.elim
    | some t =>
      rw [hv] at q'
      have hlt : i < σ'.length := by
        have h1 := (List.getElem?_eq_some_iff.mp hi).1
        omega
      exact ⟨x, t, hx, by rw [List.getElem?_set_self hlt], hv, d2.rt (.d (.str t)) ρ' F' H' σ' (.str t) q' l1 l2 g s (R'.consD (.str t))⟩
  · have q' : (if G.sub x.cls c = true then h.run G.sub x (fun s => D0.rt (.d (.str s)) ρ') else D0.ex x ρ') := q'
    rw [if_neg (by rw [hb]; exact Bool.false_ne_true)] at q'
    exact d2.ex x ρ' F' H' σ' cls dd q' l1 l2 g s R' hx
end
end FX
set_option maxHeartbeats 4000000
namespace FX
variable [Wc]
open PySem PySem.Spec PyProof.Rows L2
/-- a comprehension that is stored as it is made -/
def swOn (sc : Scope) (x : Str) (p : Pos) : Expr → Bool
  | .ListComp _ _ scope cp => (match sc.names.lookup x with
      | some .local => true
      | _ => false) && (p.line == cp.line) && !(scope.names.any fun (n, k) => n == x && (k == .local || k == .cell))
  | _ => false
def isLC : Expr → Bool
  | .ListComp _ _ _ _ => true
  | _ => false
def isStarB : Expr → Bool
  | .Starred _ _ => true
  | _ => false
def parNone (es : List Expr) : Expr → Bool
  | .Tuple vs _ _ => (es.length != 2 && es.length != 3) || vs.all (foldedForSure 8)
  | _ => true
def parSome (sc : Scope) (vs : List Expr) : Bool := !(vs.any isStarB) && !(vs.all (foldedForSure 8)) && !(vs.all (constantsAlone 8))
def locB (sc : Scope) (x : Str) : Bool := match sc.names.lookup x with
  | some .local => true
  | _ => false
def augOp : PF → Option Operator
  | .add => some .Add
  | .sub => some .Sub
  | _ => none
def clsB (T : Tb) (c : Nat) (x : Str) : Bool := match T.cls[c]? with
  | some p => decide (p.1 = x)
  | none => false
def chkHC (T : Tb) (sc : Scope) (n : Str) : HC → Expr → Bool
  | .isC c, e => match e with
    | .Call (.Name f _) [.Name y _, .Name cn _] [] _ => decide (f = ("isinstance" : Str)) && glB sc f && decide (y = n) && clsB T c cn && glB sc cn
    | _ => false
  | .nt h, e => match e with
    | .UnaryOp .Not a _ => chkHC T sc n h a
    | _ => false
  | .and a b, e => match e with
    | .BoolOp .And [x, y] _ => chkHC T sc n a x && chkHC T sc n b y
    | _ => false
def chkHX (T : Tb) (sc : Scope) (n : Str) : HX → Expr → Bool
  | .txt s, e => match e with
    | .Constant (.str x) _ _ => decide (x = s)
    | _ => false
  | .ite c a b, e => match e with
    | .IfExp x y z _ => chkHC T sc n c x && chkHX T sc n a y && chkHX T sc n b z
    | _ => false
  | .lim _, _ => false
mutual
def chkS (T : Tb) (fn : Str → Bool) (sc : Scope) : S → Stmt → Bool
  | .never, _ => true
  | .pass, st => match st with
    | .Pass _ => true
    | .Expr (.Constant (.str _) _ _) _ => true
    | _ => false
  | .brk, st => match st with
    | .Break _ => true
    | _ => false
  | .cnt, st => match st with
    | .Continue _ => true
    | _ => false
  | .ex a, st => match st with
    | .Expr e _ => chkE T fn sc a e && !isComp e
    | _ => false
  | .asg (.nm i) a, st => match st with
    | .Assign [.Name x p] e _ => decide (T.N[i]? = some x) && tgtB fn sc x && chkE T fn sc a e && (isLC e || !isComp e)
    | _ => false
  | .asg (.tp ts) a, st => match st with
    | .Assign [.Tuple es k p] e _ => chkT T.N fn sc (.tp ts) (.Tuple es k p) && chkE T fn sc a e && !isComp e && parNone es e
    | _ => false
  | .asgT (.cons (.nm i) (.cons (.nm j) .nil)) as, st => match st with
    | .Assign [.Tuple [.Name x px, .Name y py] _ _] (.Tuple [a, b] _ _) _ => decide (T.N[i]? = some x) && decide (T.N[j]? = some y) && ((decide (i ≠ j) && locB sc x && locB sc y && decide (x ≠ y) && (py.line == px.line) && parSome sc [a, b]) || (tgtB fn sc x && tgtB fn sc y && !(locB sc x && locB sc y))) && chkEs T fn sc as [a, b]
    | _ => false
  | .asgT (.cons (.nm i) (.cons (.nm j) (.cons (.nm l) .nil))) as, st => match st with
    | .Assign [.Tuple [.Name x px, .Name y py, .Name z pz] _ _] (.Tuple [a, b, c] _ _) _ => decide (T.N[i]? = some x) && decide (T.N[j]? = some y) && decide (T.N[l]? = some z) && ((decide (i ≠ j) && decide (i ≠ l) && decide (j ≠ l) && locB sc x && locB sc y && locB sc z &&
      decide (x ≠ y) && decide (x ≠ z) && decide (y ≠ z) && (py.line == px.line) && (pz.line == px.line) && parSome sc [a, b, c]) || (tgtB fn sc x && tgtB fn sc y && tgtB fn sc z && !(locB sc x && locB sc y && locB sc z))) && chkEs T fn sc as [a, b, c]
    | _ => false
  | .aug i f a, st => match st with
    | .AugAssign (.Name x _) op e _ => decide (T.N[i]? = some x) && tgtB fn sc x && decide (augOp f = some op) && chkE T fn sc a e
    | _ => false
  | .setI i ix a, st => match st with
    | .Assign [.Subscript (.Name x _) u _] e _ => varB T sc i x && chkE T fn sc ix u && chkE T fn sc a e && !isSlice u && !isComp e
    | _ => false
  | .ifs c a b, st => match st with
    | .If e x y _ => chkE T fn sc c e && chkSs T fn sc a x && chkSs T fn sc b y
    | _ => false
  | .whl c b, st => match st with
    | .While e x [] _ => chkE T fn sc c e && chkSs T fn sc b x
    | _ => false
  | .fr t it b, st => match st with
    | .For tg e x [] _ => chkT T.N fn sc t tg && chkI T fn sc it tg e && !isSet e && chkSs T fn sc b x
    | _ => false
  | .ret a, st => match st with
    | .Return (some e) _ => chkE T fn sc a e
    | _ => false
  | .retv a, st => match st with
    | .Return (some e) _ => chkE T fn sc a e
    | _ => false
  | .retN, st => match st with
    | .Return none _ => true
    | _ => false
  | .setI2 i ix iy a, st => match st with
    | .Assign [.Tuple [.Subscript (.Name x _) u _, .Subscript (.Name y _) w _] k p] e _ => varB T sc i x && decide (x = y) && chkE T fn sc ix u && chkE T fn sc iy w && chkE T fn sc a e && !isSlice u && !isSlice w && !isComp e
    | _ => false
  | .rais c .nil, st => match st with
    | .Raise (some (.Call (.Name x _) [.Constant (.str _) _ _] [] _)) none _ => decide (T.cls[c]? = some (x, true)) && glB sc x
    | _ => false
  | .tryR b c i h, st => match st with
    | .Try body [.ExceptHandler (some (.Name x _)) (some n) [.Return (some e) _] _] [] [] _ => decide (T.N[i]? = some n) && locB sc n && clsB T c x && glB sc x && chkSs T fn sc b body && chkHX T sc n h e
    | _ => false
  | _, _ => false
def chkSs (T : Tb) (fn : Str → Bool) (sc : Scope) : S → List Stmt → Bool
  | .skip, sts => sts.isEmpty
  | .never, _ => true
  | .seq a b, sts => match sts with
    | st :: rest => chkS T fn sc a st && chkSs T fn sc b rest
    | [] => false
  | _, _ => false
end
section
variable {ce : ExcT} {G : Gm} {T : Tb} {X : Cx} {Wx : WX}
theorem sw_lc {el : Expr} {gs : List Comprehension} {scope : Scope} {cp p : Pos} {x : Str} {l : Nat} {env : Env} (hk : env.scope.kind = .function) : swapsWith (.ListComp el gs scope cp) (some (.Name x p)) l env = pure (swOn env.scope x p (.ListComp el gs scope cp)) := by
  have hb : env.blockKind = .function := by unfold Env.blockKind; rw [hk]; rfl
  unfold swapsWith swOn
  simp only [hb, Expr.pos]
  cases h : env.scope.names.lookup x with
  | none =>
    have h' : env.kindOf x = none := h
    simp [h']
    try rfl
  | some k =>
    have h' : env.kindOf x = some k := h
    cases k <;> simp [h'] <;> rfl
theorem par_none {es : List Expr} {k : Nat} {p : Pos} {e : Expr} {env : Env} (h : parNone es e = true) : swappedStores [.Tuple es k p] e env = pure none := by
  cases e <;> try rfl
  case Tuple vs k2 p2 =>
    have h : ((es.length != 2 && es.length != 3) || vs.all (foldedForSure 8)) = true := h
    unfold swappedStores
    simp only [Bool.or_eq_true, Bool.and_eq_true, bne_iff_ne] at h
    dsimp only
    by_cases c1 : (!(es.length == 2 || es.length == 3) || vs.length != es.length || env.blockKind != .function) = true
    · rw [if_pos c1]
    · rw [if_neg c1]
      rcases h with ⟨h1, h2⟩ | h
      · exfalso
        apply c1
        simp [h1, h2]
      · split
        · rfl
        · split
          · rfl
          · first
              | rw [if_pos h]
              | (simp [h]; done)
theorem par_sub {o1 i1 o2 i2 : Expr} {p1 p2 : Pos} {k : Nat} {p : Pos} {e : Expr} {env : Env} : swappedStores [.Tuple [.Subscript o1 i1 p1, .Subscript o2 i2 p2] k p] e env = pure none := by
  cases e <;> try rfl
  case Tuple vs k2 p2' =>
    unfold swappedStores
    dsimp only
    split
    · rfl
    · split
      · rfl
      · rw [if_pos]
        simp [List.filterMap_cons, List.filterMap_nil]
theorem loc_of {sc : Scope} {x : Str} (h : locB sc x = true) : sc.names.lookup x = some .local := by
  unfold locB at h
  split at h
  · assumption
  · cases h
theorem par_two {x y : Str} {px py pt pt2 : Pos} {kt k2 : Nat} {a b : Expr} {env : Env} (hk : env.scope.kind = .function) (hx : env.scope.names.lookup x = some .local) (hy : env.scope.names.lookup y = some .local) (hxy : x ≠ y) (hl : (py.line == px.line) = true) (h : parSome env.scope [a, b] = true) :
    swappedStores [.Tuple [.Name x px, .Name y py] kt pt] (.Tuple [a, b] k2 pt2) env = pure (some [x, y]) := by
  have hb : env.blockKind = .function := by unfold Env.blockKind; rw [hk]; rfl
  have hx' : env.kindOf x = some .local := hx
  have hy' : env.kindOf y = some .local := hy
  have hyx : ¬ y = x := fun e => hxy e.symm
  unfold parSome at h
  simp only [Bool.and_eq_true, Bool.not_eq_true'] at h
  obtain ⟨⟨h1, h2⟩, h3⟩ := h
  have hl : py.line = px.line := by simpa using hl
  simp only [List.any_cons, List.any_nil, Bool.or_false, Bool.or_eq_false_iff] at h1
  unfold swappedStores
  simp only [hb, h2, h3, hx', hy', Expr.pos, List.filterMap_cons, List.filterMap_nil, hl, List.head?_cons, Option.map_some, Option.getD_some, beq_self_eq_true, Bool.and_self, if_true, List.length_cons, List.length_nil]
  simp [List.eraseDups_cons, List.eraseDups_nil, hxy, hyx]
  intro hh
  exfalso
  rcases hh with hh | hh
  · exact Bool.noConfusion (h1.1.symm.trans hh)
  · exact Bool.noConfusion (h1.2.symm.trans hh)
theorem par_three {x y z : Str} {px py pz pt pt2 : Pos} {kt k2 : Nat} {a b c : Expr} {env : Env} (hk : env.scope.kind = .function) (hx : env.scope.names.lookup x = some .local) (hy : env.scope.names.lookup y = some .local) (hz : env.scope.names.lookup z = some .local) (hxy : x ≠ y) (hxz : x ≠ z) (hyz : y ≠ z) (hl : (py.line == px.line) = true) (hl2 : (pz.line == px.line) = true) (h : parSome env.scope [a, b, c] = true) :
    swappedStores [.Tuple [.Name x px, .Name y py, .Name z pz] kt pt] (.Tuple [a, b, c] k2 pt2) env = pure (some [x, y, z]) := by
  have hb : env.blockKind = .function := by unfold Env.blockKind; rw [hk]; rfl
  have hx' : env.kindOf x = some .local := hx
  have hy' : env.kindOf y = some .local := hy
  have hz' : env.kindOf z = some .local := hz
  have hyx : ¬ y = x := fun e => hxy e.symm
  have hzx : ¬ z = x := fun e => hxz e.symm
  have hzy : ¬ z = y := fun e => hyz e.symm
  unfold parSome at h
  simp only [Bool.and_eq_true, Bool.not_eq_true'] at h
  obtain ⟨⟨h1, h2⟩, h3⟩ := h
  simp only [List.any_cons, List.any_nil, Bool.or_false, Bool.or_eq_false_iff] at h1
  have hl : py.line = px.line := by simpa using hl
  have hl2 : pz.line = px.line := by simpa using hl2
  unfold swappedStores
  simp only [hb, h2, h3, hx', hy', hz', Expr.pos, List.filterMap_cons, List.filterMap_nil, hl, hl2, List.head?_cons, Option.map_some, Option.getD_some, beq_self_eq_true, Bool.and_self, if_true, List.length_cons, List.length_nil]
  simp [List.eraseDups_cons, List.eraseDups_nil, hxy, hyx, hxz, hzx, hyz, hzy]
  intro hh
  exfalso
  rcases hh with hh | hh | hh
  · exact Bool.noConfusion (h1.1.symm.trans hh)
  · exact Bool.noConfusion (h1.2.1.symm.trans hh)
  · exact Bool.noConfusion (h1.2.2.symm.trans hh)
theorem loc_kind {sc : Scope} {x : Str} (h : locB sc x = false) : (sc.names.lookup x == some NameKind.local) = false := by
  unfold locB at h
  cases e : sc.names.lookup x with
  | none => rfl
  | some k => cases k <;> first | rfl | (rw [e] at h; cases h)
theorem par_two0 {x y : Str} {px py pt pt2 : Pos} {kt k2 : Nat} {a b : Expr} {env : Env} (h : (locB env.scope x && locB env.scope y) = false) :
    swappedStores [.Tuple [.Name x px, .Name y py] kt pt] (.Tuple [a, b] k2 pt2) env = pure none := by
  have hk : ∀ z, locB env.scope z = false → (env.kindOf z == some NameKind.local) = false := fun z hz => loc_kind hz
  rw [Bool.and_eq_false_iff] at h
  unfold swappedStores
  dsimp only
  split
  · rfl
  · split
    · rfl
    · rw [if_pos]
      simp only [List.filterMap_cons, List.filterMap_nil]
      rcases h with h | h
      · rw [hk x h]
        simp only [Bool.false_and, Bool.false_eq_true, if_false]
        split <;> simp
      · rw [hk y h]
        simp only [Bool.false_and, Bool.false_eq_true, if_false]
        split <;> simp
theorem par_three0 {x y z : Str} {px py pz pt pt2 : Pos} {kt k2 : Nat} {a b c : Expr} {env : Env} (h : (locB env.scope x && locB env.scope y && locB env.scope z) = false) :
    swappedStores [.Tuple [.Name x px, .Name y py, .Name z pz] kt pt] (.Tuple [a, b, c] k2 pt2) env = pure none := by
  have hk : ∀ z, locB env.scope z = false → (env.kindOf z == some NameKind.local) = false := fun z hz => loc_kind hz
  rw [Bool.and_eq_false_iff, Bool.and_eq_false_iff] at h
  unfold swappedStores
  dsimp only
  split
  · rfl
  · split
    · rfl
    · rw [if_pos]
      simp only [List.filterMap_cons, List.filterMap_nil]
      rcases h with (h | h) | h
      · rw [hk x h]
        simp only [Bool.false_and, Bool.false_eq_true, if_false]
        split <;> split <;> simp
      · rw [hk y h]
        simp only [Bool.false_and, Bool.false_eq_true, if_false]
        split <;> split <;> simp
      · rw [hk z h]
        simp only [Bool.false_and, Bool.false_eq_true, if_false]
        split <;> split <;> simp
/-- name = [..], stored as it is made -/
theorem st_asgLc (g : Good X ce Wx G T) {i : Nat} {x : Str} {a : E} {el : Expr} {gs : List Comprehension} {scope : Scope} {cp p pos : Pos} (hi : X.N[i]? = some x) (ht : tgtB X.fn X.env.scope x = true) (h : chkE T X.fn X.env.scope a (.ListComp el gs scope cp) = true) :
    SSt X ce Wx G (.asg (.nm i) a) (.Assign [.Name x p] (.ListComp el gs scope cp) pos) := by
  have hN : X.N.Nodup := by rw [g.eN]; exact g.nd
  cases hsw : swOn X.env.scope x p (.ListComp el gs scope cp) with
  | false => exact st_asgN hN hi ht (snd_E a X Wx _ g h) (by rw [sw_lc g.kind, hsw])
  | true =>
    have sw : swapsWith (.ListComp el gs scope cp) (some (.Name x p)) pos.line X.env = pure true := by rw [sw_lc g.kind, hsw]
    have hl : X.env.scope.names.lookup x = some .local := by
      unfold swOn at hsw
      simp only [Bool.and_eq_true] at hsw
      exact loc_of hsw.1.1
    cases a with
    | comp own elt t it cond =>
      unfold chkE at h
      match gs, h with
      | [⟨tg, iter, ifs, asy⟩], h =>
        simp only [Bool.and_eq_true, decide_eq_true_eq, Bool.not_eq_true'] at h
        obtain ⟨⟨⟨⟨⟨⟨⟨⟨h0, h1⟩, h2⟩, h3⟩, h4⟩, h5⟩, h6⟩, h7⟩, h8⟩ := h
        subst h0
        have gb := fun s H C cl fp => g.blk (s := s) (H := H) (C := C) (cl := cl) (fp := fp) (blk_kind h1)
        rw [← g.eN] at h1 h5
        have ps := ps_setLc (elt := _) (g := gL X.K t) (tt := liftT X.K ce noW (Ws G cond).andT) (te := liftV X.K ce noW (W G elt).v) g.calm hN hi hl sw (snd_I it X Wx tg iter g h3) (blkOk_by h1) (fun s H C cl fp => g_T (X := X.blk s H scope (compEnvC scope cl C X.env) fp) g.calm hN t tg h5)
          (fun s H C cl fp => pts_ok h6 (snd_Es cond _ noW ifs (gb s H C cl fp) h7)) (fun s H C cl fp => (snd_E elt _ noW _ (gb s H C cl fp) h8).v) fun _ => noset h4
        rw [own_ok] at ps
        exact PS.imp ps fun D σ H q => lift_asgN (fun σ H Q q => lc_imp (sub_ok h2) q) D σ H q
      | [], h => cases h
      | _ :: _ :: _, h => cases h
    | comp2 own own1 elt t it cond t1 it1 cond1 =>
      unfold chkE at h
      match gs, h with
      | [⟨tg, iter, ifs, asy⟩, ⟨tg1, iter1, ifs1, asy1⟩], h =>
        simp only [Bool.and_eq_true, decide_eq_true_eq, Bool.not_eq_true'] at h
        obtain ⟨⟨⟨⟨⟨⟨⟨⟨⟨⟨⟨⟨⟨⟨⟨⟨a0, a1⟩, a2⟩, a3⟩, a4⟩, a5⟩, a6⟩, a7⟩, a8⟩, a9⟩, a10⟩, a11⟩, a12⟩, a13⟩, a14⟩, a15⟩, a16⟩ := h
        subst a0
        subst a1
        have gb := fun s H C cl fp => g.blk (s := s) (H := H) (C := C) (cl := cl) (fp := fp) (blk_kind a2)
        rw [← g.eN] at a2 a9 a10
        have ps := ps_setLc2 (vs1 := own1) (elt := _) (g := gL X.K t) (g1 := gL X.K t1) (tg1 := tg1) (iter1 := iter1) (wi1 := liftI X.K ce noW (WI G it1)) (tt := liftT X.K ce noW (Ws G cond).andT) (tt1 := liftT X.K ce noW (Ws G cond1).andT) (te := liftV X.K ce noW (W G elt).v) g.calm hN hi hl sw
          (snd_I it X Wx tg iter g a6) (blkOk_by a2) (by rw [own_ok]; exact sub_ok a5) (fun s H C cl fp => g_T (X := X.blk s H scope (compEnvC scope cl C X.env) fp) g.calm hN t tg a9)
          (fun s H C cl fp => pts_ok a11 (snd_Es cond _ noW ifs (gb s H C cl fp) a13)) (fun s H C cl fp => snd_I it1 _ noW tg1 iter1 (gb s H C cl fp) a15) (fun s H C cl fp => g_T (X := X.blk s H scope (compEnvC scope cl C X.env) fp) g.calm hN t1 tg1 a10)
          (fun s H C cl fp => pts_ok a12 (snd_Es cond1 _ noW ifs1 (gb s H C cl fp) a14)) (fun s H C cl fp => (snd_E elt _ noW _ (gb s H C cl fp) a16).v) (fun _ => noset a7) (fun _ _ => noset a8)
        rw [own_ok] at ps
        exact PS.imp ps fun D σ H q => lift_asgN (fun σ H Q q => lc2_imp (sub_ok a3) (sub_ok a4) q) D σ H q
      | [], h => cases h
      | [_], h => cases h
      | _ :: _ :: _ :: _, h => cases h
    | prim f as => simp [chkE, primV] at h
    | mo k as => cases k <;> simp [chkE, moV'] at h
    | nev => simp [chkE, isComp] at h
    | _ => simp [chkE] at h
theorem aug_ok {f : PF} {op : Operator} (h : augOp f = some op) : (f = .add ∧ op = .Add) ∨ (f = .sub ∧ op = .Sub) := by
  cases f <;> first
    | (cases h; exact .inl ⟨rfl, rfl⟩)
    | (cases h; exact .inr ⟨rfl, rfl⟩)
    | (cases h; done)
theorem asgT_ok (g : Good X ce Wx G T) {ts : Ts} {as : Es} {st : Stmt} (h : chkS T X.fn X.env.scope (.asgT ts as) st = true) : SSt X ce Wx G (.asgT ts as) st := by
  have hN : X.N.Nodup := by rw [g.eN]; exact g.nd
  match ts, h with
  | .cons (.nm i) (.cons (.nm j) .nil), h =>
    unfold chkS at h
    split at h
    · simp only [Bool.and_eq_true, decide_eq_true_eq] at h
      obtain ⟨⟨⟨h1, h2⟩, h3⟩, h9⟩ := h
      rw [← g.eN] at h1 h2
      rw [Bool.or_eq_true] at h3
      rcases h3 with h3 | h3
      · simp only [Bool.and_eq_true, decide_eq_true_eq] at h3
        obtain ⟨⟨⟨⟨⟨h3, h4⟩, h5⟩, h6⟩, h7⟩, h8⟩ := h3
        exact st_asg2 g.calm hN h1 h2 h3 (loc_of h4) (loc_of h5) (snd_Es as X Wx _ g h9) (par_two g.kind (loc_of h4) (loc_of h5) h6 h7 h8)
      · rw [Bool.and_eq_true, Bool.and_eq_true, Bool.not_eq_true'] at h3
        exact st_asg2c g.calm hN h1 h2 h3.1.1 h3.1.2 (snd_Es as X Wx _ g h9) (par_two0 h3.2)
    · cases h
  | .cons (.nm i) (.cons (.nm j) (.cons (.nm l) .nil)), h =>
    unfold chkS at h
    split at h
    · simp only [Bool.and_eq_true, decide_eq_true_eq] at h
      obtain ⟨⟨⟨⟨h1, h2⟩, h3⟩, h4⟩, h16⟩ := h
      rw [← g.eN] at h1 h2 h3
      rw [Bool.or_eq_true] at h4
      rcases h4 with h4 | h4
      · simp only [Bool.and_eq_true, decide_eq_true_eq] at h4
        obtain ⟨⟨⟨⟨⟨⟨⟨⟨⟨⟨⟨h4, h5⟩, h6⟩, h7⟩, h8⟩, h9⟩, h10⟩, h11⟩, h12⟩, h13⟩, h14⟩, h15⟩ := h4
        exact st_asg3 g.calm hN h1 h2 h3 h4 h5 h6 (loc_of h7) (loc_of h8) (loc_of h9) (snd_Es as X Wx _ g h16) (par_three g.kind (loc_of h7) (loc_of h8) (loc_of h9) h10 h11 h12 h13 h14 h15)
      · rw [Bool.and_eq_true, Bool.and_eq_true, Bool.and_eq_true, Bool.not_eq_true'] at h4
        exact st_asg3c g.calm hN h1 h2 h3 h4.1.1.1 h4.1.1.2 h4.1.2 (snd_Es as X Wx _ g h16) (par_three0 h4.2)
    · cases h
  | .nil, h => cases h
  | .cons (.tp _) _, h => cases h
  | .cons (.nm _) .nil, h => cases h
  | .cons (.nm _) (.cons (.tp _) _), h => cases h
  | .cons (.nm _) (.cons (.nm _) (.cons (.tp _) _)), h => cases h
  | .cons (.nm _) (.cons (.nm _) (.cons (.nm _) (.cons _ _))), h => cases h
/-- what the own error classes must bring -/
structure GoodC (X : Cx) (ce : ExcT) (G : Gm) (T : Tb) : Prop where
  stk : X.stack = X.env :: X.outer
  frm : X.env.frame = some X.env.locals
  all : ClsAll X.K ce G.sub
  cl : ∀ c x b, T.cls[c]? = some (x, b) → ∃ C, X.mg x = some (.ref C) ∧ ce.cls c = some (.ref C) ∧ ClsF X.K C b
  db : ∀ (c : Nat) (x : Str) (b : Bool), T.cls[c]? = some (x, b) → (x == ("__debug__" : Str)) = false
theorem Good.tr (g : Good X ce Wx G T) {W : WX} {pn : List (Addr × Obj)} {xe : Value → Shared → Prop} (tk : Takes (X.tr pn xe) W) : Good (X.tr pn xe) ce W G T where
  calm := g.calm
  eN := g.eN
  nd := g.nd
  dbN := g.dbN
  dbF := g.dbF
  dbC := g.dbC
  units := g.units
  guards := g.guards
  tk := tk
  kind := g.kind
  bi := g.bi
  fns := g.fns
  cons := g.cons
  ob := g.ob
  oc := g.oc
  okk := g.okk
  mts := fun m hm c C mask sp h1 h2 => let ⟨k, ad, fd, ps, M, hf⟩ := g.mts m hm c C mask sp h1 h2; ⟨k, ad, fd, ps, ⟨M.fn, M.rm, M.gd, M.bd, M.at_, M.isf⟩, hf⟩
  prs := g.prs
  cts := g.cts
theorem GoodC.tr (g : GoodC X ce G T) {pn : List (Addr × Obj)} {xe : Value → Shared → Prop} : GoodC (X.tr pn xe) ce G T := ⟨g.stk, g.frm, g.all, g.cl, g.db⟩
theorem cls_of {c : Nat} {x : Str} (h : clsB T c x = true) : ∃ b, T.cls[c]? = some (x, b) := by
  unfold clsB at h
  split at h
  · rename_i p e
    obtain ⟨y, b⟩ := p
    obtain rfl := of_decide_eq_true h
    exact ⟨b, e⟩
  · cases h
section
variable {n : Str} {ie : Nat} {a : Addr} {oe : Obj} {cls : Value} {d : Option Addr} {pn : List (Addr × Obj)}
theorem snd_HC (g : Good X ce Wx G T) (gc : GoodC X ce G T) (hn : X.N[ie]? = some n) (hl : X.env.scope.names.lookup n = some .local) (hd : dbgOk n = true) (hz : Zc cls d oe) (hf : ∃ vs, oe.data = .fields vs) : ∀ (h : HC) (e : Expr), chkHC T X.env.scope n h e = true → PT (X.suite a ((a, oe) :: pn)) e (tHC ce G.sub cls d a ie h)
  | .isC c, e, h => by
    unfold chkHC at h
    split at h
    · simp only [Bool.and_eq_true, decide_eq_true_eq] at h
      obtain ⟨⟨⟨⟨rfl, h2⟩, rfl⟩, h4⟩, h5⟩ := h
      obtain ⟨bb, hc⟩ := cls_of h4
      obtain ⟨C, c1, c2, c3⟩ := gc.cl c _ bb hc
      have mi : ("isinstance" : Str) ∈ biNames := by decide +kernel
      exact pt_isX gc.all hz hf (gl_of h2) (g.bi _ mi) hn (.inl hl) (dbg1 hd).1 (dbg1 hd).2 c2 (gl_of h5) c1 (gc.db _ _ _ hc)
    · cases h
  | .nt h', e, h => by
    unfold chkHC at h
    split at h
    · exact pt_ntX (snd_HC g gc hn hl hd hz hf h' _ h)
    · cases h
  | .and h1 h2, e, h => by
    unfold chkHC at h
    split at h
    · rw [Bool.and_eq_true] at h
      exact pt_andX (snd_HC g gc hn hl hd hz hf h1 _ h.1) (snd_HC g gc hn hl hd hz hf h2 _ h.2)
    · cases h
theorem snd_HX (g : Good X ce Wx G T) (gc : GoodC X ce G T) (hn : X.N[ie]? = some n) (hl : X.env.scope.names.lookup n = some .local) (hd : dbgOk n = true) (hz : Zc cls d oe) (hf : ∃ vs, oe.data = .fields vs) : ∀ (h : HX) (e : Expr), chkHX T X.env.scope n h e = true → PE (X.suite a ((a, oe) :: pn)) e (tHX ce G.sub cls d a ie h)
  | .txt s, e, h => by
    unfold chkHX at h
    split at h
    · obtain rfl := of_decide_eq_true h
      exact pe_txtX
    · cases h
  | .ite c x y, e, h => by
    unfold chkHX at h
    split at h
    · simp only [Bool.and_eq_true] at h
      exact pe_iteX (snd_HC g gc hn hl hd hz hf c _ h.1.1) (snd_HX g gc hn hl hd hz hf x _ h.1.2) (snd_HX g gc hn hl hd hz hf y _ h.2)
    · cases h
  | .lim _, e, h => by simp [chkHX] at h
end
mutual
theorem snd_S : ∀ (a : S) (X : Cx) (Wx : WX) (_ : Good X ce Wx G T) (_ : GoodC X ce G T) (_ : PassesOwn (model X.prog X.w) X.A X.env X.xe) (st : Stmt), chkS T X.fn X.env.scope a st = true → SSt X ce Wx G a st
  | .never, X, Wx, g, gc, hp, st, h => st_never
  | .skip, X, Wx, g, gc, hp, st, h => by simp [chkS] at h
  | .seq _ _, X, Wx, g, gc, hp, st, h => by simp [chkS] at h
  | .rais _ (.cons _ _), X, Wx, g, gc, hp, st, h => by simp [chkS] at h
  | .rais c .nil, X, Wx, g, gc, hp, st, h => by
    unfold chkS at h
    split at h
    · rename_i x p m j p2 pos pos'
      simp only [Bool.and_eq_true, decide_eq_true_eq] at h
      obtain ⟨C, h1, h2, h3⟩ := gc.cl c x true h.1
      exact st_rais g.calm g.tk h3 h2 h1 (gl_of h.2) (gc.db _ _ _ h.1)
    · cases h
  | .tryR b c i hx, X, Wx, g, gc, hp, st, h => by
    unfold chkS at h
    split at h
    · rename_i body x np n e pr pos' pos
      simp only [Bool.and_eq_true, decide_eq_true_eq] at h
      obtain ⟨⟨⟨⟨⟨h1, h2⟩, h3⟩, h4⟩, h5⟩, h6⟩ := h
      obtain ⟨bb, hc⟩ := cls_of h3
      obtain ⟨C, c1, c2, c3⟩ := gc.cl c x bb hc
      have hN : X.N.Nodup := by rw [g.eN]; exact g.nd
      have hn : X.N[i]? = some n := by rw [g.eN]; exact h1
      exact st_tryR gc.stk gc.frm hN hn (loc_of h2) g.tk gc.all c2 (gl_of h4) c1 (gc.db _ _ _ hc) (fun W pn xe tk hp' => snd_Ss b (X.tr pn xe) W (g.tr tk) (gc.tr) hp' body h5) (fun a oe cls d pn hz hd => snd_HX g gc hn (loc_of h2) (g.dbN _ (mem_get h1)) hz hd hx e h6)
    · cases h
  | .pass, X, Wx, g, gc, hp, st, h => by
    unfold chkS at h
    split at h
    · exact st_pass
    · exact st_doc
    · cases h
  | .brk, X, Wx, g, gc, hp, st, h => by
    unfold chkS at h
    split at h
    · exact st_brk
    · cases h
  | .cnt, X, Wx, g, gc, hp, st, h => by
    unfold chkS at h
    split at h
    · exact st_cnt
    · cases h
  | .ex a, X, Wx, g, gc, hp, st, h => by
    unfold chkS at h
    split at h
    · simp only [Bool.and_eq_true, Bool.not_eq_true'] at h
      exact st_ex (snd_E a X Wx _ g h.1) h.2
    · cases h
  | .asg (.nm i) a, X, Wx, g, gc, hp, st, h => by
    have hN : X.N.Nodup := by rw [g.eN]; exact g.nd
    unfold chkS at h
    split at h
    · rename_i x p e pos
      simp only [Bool.and_eq_true, Bool.or_eq_true, decide_eq_true_eq, Bool.not_eq_true'] at h
      obtain ⟨⟨⟨h1, h2⟩, h3⟩, h4⟩ := h
      rw [← g.eN] at h1
      by_cases hl : isLC e = true
      · cases e <;> try (cases hl; done)
        exact st_asgLc g h1 h2 h3
      · rcases h4 with h4 | h4
        · exact absurd h4 hl
        · exact st_asgN hN h1 h2 (snd_E a X Wx _ g h3) (no_swap h4)
    · cases h
  | .asg (.tp ts) a, X, Wx, g, gc, hp, st, h => by
    have hN : X.N.Nodup := by rw [g.eN]; exact g.nd
    unfold chkS at h
    split at h
    · simp only [Bool.and_eq_true, Bool.not_eq_true'] at h
      obtain ⟨⟨⟨h1, h2⟩, h3⟩, h4⟩ := h
      rw [← g.eN] at h1
      exact st_asgTup g.calm hN h1 (snd_E a X Wx _ g h2) h3 (par_none h4)
    · cases h
  | .asgT ts as, X, Wx, g, gc, hp, st, h => asgT_ok g h
  | .aug i f a, X, Wx, g, gc, hp, st, h => by
    have hN : X.N.Nodup := by rw [g.eN]; exact g.nd
    unfold chkS at h
    split at h
    · simp only [Bool.and_eq_true, decide_eq_true_eq] at h
      obtain ⟨⟨⟨h1, h2⟩, h3⟩, h4⟩ := h
      rw [← g.eN] at h1
      exact st_aug hN h1 h2 (snd_E a X Wx _ g h4) (aug_ok h3)
    · cases h
  | .setI i ix a, X, Wx, g, gc, hp, st, h => by
    unfold chkS at h
    split at h
    · rename_i x px u p e pos
      simp only [Bool.and_eq_true, Bool.not_eq_true'] at h
      obtain ⟨⟨⟨⟨h1, h2⟩, h3⟩, h4⟩, h5⟩ := h
      obtain ⟨k1, k2, k3, k4⟩ := var_ok g h1
      refine st_setI g.units k1 k2 k3 k4 (snd_E ix X Wx _ g h2) (snd_E a X Wx _ g h3) h4 h5 fun v => ?_
      cases u <;> first
        | rfl
        | (cases h4; done)
    · cases h
  | .setI2 i ix iy a, X, Wx, g, gc, hp, st, h => by
    unfold chkS at h
    split at h
    · rename_i x px u p y py w q k pt e pos
      simp only [Bool.and_eq_true, Bool.not_eq_true', decide_eq_true_eq] at h
      obtain ⟨⟨⟨⟨⟨⟨⟨h1, hxy⟩, h2⟩, h3⟩, h4⟩, h5⟩, h6⟩, h7⟩ := h
      obtain ⟨k1, k2, k3, k4⟩ := var_ok g h1
      refine st_setI2 g.calm k1 k2 k3 k4 hxy (snd_E ix X Wx _ g h2) (snd_E iy X Wx _ g h3) (snd_E a X Wx _ g h4) h7 par_sub (fun v => ?_) (fun v => ?_)
      · cases u <;> first
          | rfl
          | (cases h5; done)
      · cases w <;> first
          | rfl
          | (cases h6; done)
    · cases h
  | .ifs c a b, X, Wx, g, gc, hp, st, h => by
    unfold chkS at h
    split at h
    · simp only [Bool.and_eq_true] at h
      exact st_ifs (snd_E c X Wx _ g h.1.1) (snd_Ss a X Wx g gc hp _ h.1.2) (snd_Ss b X Wx g gc hp _ h.2)
    · cases h
  | .whl c b, X, Wx, g, gc, hp, st, h => by
    unfold chkS at h
    split at h
    · simp only [Bool.and_eq_true] at h
      exact st_whl hp (snd_E c X Wx _ g h.1) (snd_Ss b X Wx g gc hp _ h.2)
    · cases h
  | .fr t it b, X, Wx, g, gc, hp, st, h => by
    have hN : X.N.Nodup := by rw [g.eN]; exact g.nd
    unfold chkS at h
    split at h
    · simp only [Bool.and_eq_true, Bool.not_eq_true'] at h
      obtain ⟨⟨⟨h1, h2⟩, h3⟩, h4⟩ := h
      rw [← g.eN] at h1
      exact st_fr hp g.calm (snd_I it X Wx _ _ g h2) (g_T g.calm hN t _ h1) (snd_Ss b X Wx g gc hp _ h4) h3
    · cases h
  | .ret a, X, Wx, g, gc, hp, st, h => by
    unfold chkS at h
    split at h
    · exact st_ret (snd_E a X Wx _ g h)
    · cases h
  | .retv a, X, Wx, g, gc, hp, st, h => by
    unfold chkS at h
    split at h
    · exact st_retv (snd_E a X Wx _ g h)
    · cases h
  | .retN, X, Wx, g, gc, hp, st, h => by
    unfold chkS at h
    split at h
    · exact st_retN
    · cases h
theorem snd_Ss : ∀ (a : S) (X : Cx) (Wx : WX) (_ : Good X ce Wx G T) (_ : GoodC X ce G T) (_ : PassesOwn (model X.prog X.w) X.A X.env X.xe) (sts : List Stmt), chkSs T X.fn X.env.scope a sts = true → SSs X ce Wx G a sts
  | .skip, X, Wx, g, gc, hp, [], h => ss_skip
  | .skip, X, Wx, g, gc, hp, _ :: _, h => by simp [chkSs] at h
  | .never, X, Wx, g, gc, hp, sts, h => ss_never
  | .seq a b, X, Wx, g, gc, hp, [], h => by simp [chkSs] at h
  | .seq a b, X, Wx, g, gc, hp, st :: rest, h => by
    unfold chkSs at h
    simp only [Bool.and_eq_true] at h
    exact ss_seq (snd_S a X Wx g gc hp st h.1) (snd_Ss b X Wx g gc hp rest h.2)
  | .pass, X, Wx, g, gc, hp, sts, h | .brk, X, Wx, g, gc, hp, sts, h | .cnt, X, Wx, g, gc, hp, sts, h | .ex _, X, Wx, g, gc, hp, sts, h | .asg _ _, X, Wx, g, gc, hp, sts, h | .asgT _ _, X, Wx, g, gc, hp, sts, h | .aug _ _ _, X, Wx, g, gc, hp, sts, h | .setI _ _ _, X, Wx, g, gc, hp, sts, h | .ifs _ _ _, X, Wx, g, gc, hp, sts, h | .whl _ _, X, Wx, g, gc, hp, sts, h | .fr _ _ _, X, Wx, g, gc, hp, sts, h | .ret _, X, Wx, g, gc, hp, sts, h | .retv _, X, Wx, g, gc, hp, sts, h | .retN, X, Wx, g, gc, hp, sts, h | .rais _ _, X, Wx, g, gc, hp, sts, h | .tryR _ _ _ _, X, Wx, g, gc, hp, sts, h | .setI2 _ _ _ _, X, Wx, g, gc, hp, sts, h => by simp [chkSs] at h
end
end
end FX
set_option maxHeartbeats 4000000
namespace FX
variable [Wc]
open PySem PySem.Spec PyProof.Rows L2
section
variable {K : PySem.W.Frag} {F H : Hp} {ce : ExcT}
theorem rp_none {z : Zs} (R : Rp K F H z) : ∀ n : Nat, Rp K F H (z ++ List.replicate n (Sl.no, (none : Option V)))
  | 0 => by simpa using R
  | n + 1 => by
    have R1 := rp_none R n
    rw [List.replicate_succ]
    exact R1.consN.perm List.perm_middle.symm
theorem rs_sl {s : Sl} {r : Rs} (h : s.rs = some r) : s = r.sl := by
  cases s <;> cases h <;> rfl
theorem outs_rp : ∀ {mask : List Bool} {args outs : List Rs} {ρ : FE} {vs : List V} {σ : SV} {ω : Zs}, outsOf mask args ρ = some outs → mask.length = vs.length → (∀ (i : Nat) v, mask[i]? = some true → vs[i]? = some v → σ[i]? = some (some v)) → ρ.length = σ.length →
    Rp K F H (ω ++ ρ.zip σ) → outs.length = vs.length ∧ Rp K F H (outZ mask outs vs ++ ω)
  | [], [], outs, ρ, vs, σ, ω, h, hm, ha, hl, R => by
    cases vs with
    | nil =>
      cases h
      refine ⟨rfl, ?_⟩
      have : Rp K F H (ρ.zip σ ++ ω) := R.perm List.perm_append_comm
      exact this.app
    | cons _ _ => simp at hm
  | [], _ :: _, outs, ρ, vs, σ, ω, h, hm, ha, hl, R => by simp [outsOf] at h
  | b :: bs, [], outs, ρ, vs, σ, ω, h, hm, ha, hl, R => by cases b <;> simp [outsOf] at h
  | b :: bs, a :: as, outs, [], vs, σ, ω, h, hm, ha, hl, R => by cases b <;> simp [outsOf] at h
  | b :: bs, a :: as, outs, s :: ρ, vs, σ, ω, h, hm, ha, hl, R => by
    cases vs with
    | nil => simp at hm
    | cons v vs =>
      cases σ with
      | nil => simp at hl
      | cons u σ =>
        have ha' : ∀ (i : Nat) v, bs[i]? = some true → vs[i]? = some v → σ[i]? = some (some v) := fun i v h1 h2 => by simpa using ha (i + 1) v (by simpa using h1) (by simpa using h2)
        have R1 : Rp K F H ((ω ++ [(s, u)]) ++ ρ.zip σ) := by simpa using R
        cases b with
        | false =>
          simp only [outsOf, Option.map_eq_some_iff] at h
          obtain ⟨rs, h1, rfl⟩ := h
          have R2 : Rp K F H (ω ++ ρ.zip σ) := by
            have : Rp K F H ((s, u) :: (ω ++ ρ.zip σ)) := R.perm (by simpa using List.perm_middle)
            exact this.tail
          obtain ⟨k1, k2⟩ := outs_rp h1 (by simpa using hm) ha' (by simpa using hl) R2
          exact ⟨by simp [k1], k2⟩
        | true =>
          have hu : u = some v := by simpa using ha 0 v (by simp) (by simp)
          subst hu
          unfold outsOf at h
          cases e1 : s.rs with
          | none => rw [e1] at h; cases h
          | some r =>
            cases e2 : outsOf bs as ρ with
            | none => rw [e1, e2] at h; cases h
            | some rs =>
              rw [e1, e2] at h
              cases h
              obtain rfl := rs_sl e1
              obtain ⟨k1, k2⟩ := outs_rp e2 (by simpa using hm) ha' (by simpa using hl) R1
              refine ⟨by simp [k1], k2.perm ?_⟩
              show (outZ bs rs vs ++ (ω ++ [(r.sl, some v)])).Perm ((r.sl, some v) :: (outZ bs rs vs ++ ω))
              rw [← List.append_assoc]
              exact List.perm_append_comm
end
section
variable {P : Program} {w : World} {K : PySem.W.Frag} {mg : Str → Option Value} {base : Heap} {ce : ExcT} {G : Gm} {T : Tb}
/-- classes of objects: their names with their field's, the methods, properties, classes that are ready -/
structure Ow where
  ocl : List (Str × Str) := []
  mtd : List Str := []
  prp : List Str := []
  ctd : List Nat := []
/-- what the module brings, at depth k -/
structure Modl (P : Program) (w : World) (K : PySem.W.Frag) (mg : Str → Option Value) (base : Heap) (ce : ExcT) (G : Gm) (fnN conN : List Str) (clsN : List (Str × Bool)) (ow : Ow) (k : Nat) : Prop where
  dbF : ∀ x ∈ fnN, dbgOk x = true
  dbC : ∀ x ∈ conN, dbgOk x = true
  bi : ∀ x ∈ biNames, mg x = none
  fns : ∀ (f : Nat) (x : Str), fnN[f]? = some x → ∀ mask sp, G.fn f = some (mask, sp) → ∃ ad fd ps, FnG P w K mg base k ad fd ps (liftSp K ce mask sp) ∧ mg x = some (.ref ad) ∧ PySem.W.keepIn K (.ref ad) = true ∧ Binds K fd ps []
  cons : ∀ (g : Nat) (x : Str), conN[g]? = some x → ∀ c, G.con g = some c → ∃ u v, mg x = some u ∧ RelV v u ∧ ∀ F, DD K F v c
  all : ClsAll K ce G.sub
  cl : ∀ (c : Nat) (x : Str) (b : Bool), clsN[c]? = some (x, b) → ∃ C, mg x = some (.ref C) ∧ ce.cls c = some (.ref C) ∧ ClsF K C b
  dbX : ∀ (c : Nat) (x : Str) (b : Bool), clsN[c]? = some (x, b) → (x == ("__debug__" : Str)) = false
  ob : ∀ (c : Nat) (x f : Str), ow.ocl[c]? = some (x, f) → Wc.fld c = f ∧ (x == ("__debug__" : Str)) = false ∧ ∃ C, Wc.cls K c = some C ∧ mg x = some (.ref C) ∧ PySem.W.keepIn K (.ref C) = true
  oc : ∀ c C, Wc.cls K c = some C → ObjC K C (Wc.fld c)
  okk : ∀ c' C' c C, Wc.cls K c' = some C' → Wc.cls K c = some C → PySem.W.kitOne K (.ref C') (.ref C) = some (c' == c) ∧ PySem.W.notFirst K C (.ref C') = true
  mts : ∀ m ∈ ow.mtd, ∀ c C mask sp, G.mt c m = some (mask, sp) → Wc.cls K c = some C → ∃ j ad fd ps, j + 1 ≤ k ∧ FnG P w K mg base j ad fd ps (liftSp K ce mask sp) ∧ Binds K fd ps [] ∧ PySem.W.findIn K (.ref C) m = some (some (.ref ad)) ∧ PySem.W.isFn K (.ref ad) = true ∧ PySem.W.fnIn K ad = true
  prs : ∀ f ∈ ow.prp, ∀ c C mask sp, G.mt c f = some (mask, sp) → Wc.cls K c = some C → ∃ j p g fd ps, j + 1 ≤ k ∧ PropOf K C f p g ∧ FnG P w K mg base j g fd ps (liftSp K ce mask sp) ∧ Binds K fd ps []
  cts : ∀ c ∈ ow.ctd, ∀ C, Wc.cls K c = some C → ∀ sp, G.ct c = some sp → ∃ j fI fd ps, j + 1 ≤ k ∧ Mk K C fI ∧ FnG P w K mg base j fI fd ps (iniSp K ce c C sp) ∧ Binds K fd ps []
theorem fn_chk {k : Nat} {x qual : Str} {st : Stmt} {f : Addr} {fd : FuncData} {ps N fnN conN : List Str} {clsN : List (Str × Bool)} {ow : Ow} {mask : List Bool} {ir : S} (F : Fun K x qual st f fd) (Sc : FnScope N ps (defScope st)) (M : Modl P w K mg base ce G fnN conN clsN ow k)
    (dbN : ∀ x ∈ N, dbgOk x = true) (hm : mask.length = ps.length) (ha : ∀ i, mask[i]? = some true → i ∉ ir.asgs) (hck : chkSs ⟨N, fnN, conN, clsN, ow.ocl, ow.mtd, ow.prp, ow.ctd⟩ (fun _ => true) (defScope st) ir (defBody st) = true) :
    FnG P w K mg base (k + 1) f fd ps (liftSp K ce mask (runB G ir N.length mask)) := by
  refine fnG_of F Sc (fun vs H Q E h => (liftSp_len vs H Q E h).trans hm) fun cdv A outer s H vs Q E hr hg h => ?_
  have gd : Good (cxOf (L2.CX P w) P w K mg base N qual (defScope st) f cdv A outer s H E) ce (fun cls d _ H => E cls d H) G ⟨N, fnN, conN, clsN, ow.ocl, ow.mtd, ow.prp, ow.ctd⟩ :=
    { calm := rfl, eN := rfl, nd := Sc.nd, dbN := dbN, dbF := M.dbF, dbC := M.dbC
      units := by
        have := hr.un
        show (A.deeper _).units + 65 < cLine
        omega
      guards := (deeper_guards A _).trans hg
      tk := takes_of rfl rfl rfl rfl
      kind := Sc.kind
      bi := M.bi
      fns := fun f x hx mask sp hs => by
        obtain ⟨ad, fd, ps, h1, h2, h3, h4⟩ := M.fns f x hx mask sp hs
        exact ⟨k, ad, fd, ps, h1, hr, h2, h3, h4⟩
      cons := M.cons
      ob := M.ob
      oc := M.oc
      okk := M.okk
      mts := fun m hm c C mask sp h1 h2 => by
        obtain ⟨j, ad, fd, ps, g1, g2, g3, g4, g5, g6⟩ := M.mts m hm c C mask sp h1 h2
        exact ⟨j, ad, fd, ps, ⟨g2, hr.mono g1, (deeper_guards A _).trans hg, g3, g4, g5⟩, g6⟩
      prs := fun m hm c C mask sp h1 h2 => by
        obtain ⟨j, p, g, fd, ps, g1, g2, g3, g4⟩ := M.prs m hm c C mask sp h1 h2
        exact ⟨p, g, j, fd, ps, g2, g3, hr.mono g1, (deeper_guards A _).trans hg, g4⟩
      cts := fun c hc C hC sp hs => by
        obtain ⟨j, fI, fd, ps, g1, g2, g3, g4⟩ := M.cts c hc C hC sp hs
        exact ⟨fI, j, fd, ps, g2, g3, hr.mono g1, (deeper_guards A _).trans hg, g4⟩ }
  refine ⟨_, snd_Ss ir _ _ gd ⟨rfl, rfl, M.all, M.cl, M.dbX⟩ (passes_of rfl) (defBody st) hck, ?_⟩
  obtain ⟨F0, τ, args, Q0, E0, hla, hlm, R, q, hQ, hE⟩ := h
  obtain ⟨q1, q2, q⟩ := q
  have hln : vs.length ≤ N.length := by omega
  have l0 : (args.map Rs.sl ++ List.replicate (N.length - args.length) Sl.no).length = (L2.start N vs).length := by simp [L2.start, hla]
  have at0 : ∀ (i : Nat) v, vs[i]? = some v → (L2.start N vs)[i]? = some (some v) := fun i v h => by
    obtain ⟨h1, h2⟩ := List.getElem?_eq_some_iff.mp h
    unfold L2.start
    rw [List.getElem?_append_left (by simpa using h1), List.getElem?_map, h]
    rfl
  have atm : ∀ {σ' : SV}, agree ir.asgs (L2.start N vs) σ' → ∀ (i : Nat) v, mask[i]? = some true → vs[i]? = some v → σ'[i]? = some (some v) := fun {σ'} a i v h1 h2 => (a i (ha i h1)).trans (at0 i v h2)
  refine ⟨F0, τ, _, _, l0, ?_, q, ?_, ?_, ?_, ?_, ?_⟩
  · have e : ZE τ (args.map Rs.sl ++ List.replicate (N.length - args.length) Sl.no) (L2.start N vs) = ZE τ (args.map Rs.sl) (vs.map some) ++ List.replicate (N.length - args.length) (Sl.no, (none : Option V)) := by
      unfold ZE L2.start
      rw [List.zip_append (by simp [hla]), hla, List.zip_replicate', List.append_assoc]
    rw [e]
    exact rp_none R _
  · intro ρ' F' H' σ' q' l1 l2 a' s' R'
    dsimp only at q'
    cases e : outsOf mask args ρ' with
    | none => rw [e] at q'; exact q'.elim
    | some outs =>
      rw [e] at q'
      obtain ⟨k1, k2⟩ := outs_rp e hlm (atm a') l1 R'
      exact hQ _ outs F' H' .non q' k1 s' (k2.consD .non)
  · exact fun ρ' F' H' σ' q' => False.elim q'
  · exact fun ρ' F' H' σ' q' => False.elim q'
  · intro r ρ' F' H' σ' v q' l1 l2 a' s' R'
    dsimp only at q'
    cases e : outsOf mask args ρ' with
    | none => rw [e] at q'; exact q'.elim
    | some outs =>
      rw [e] at q'
      obtain ⟨k1, k2⟩ := outs_rp (ω := (r.sl, some v) :: τ) e hlm (atm a') l1 R'
      exact hQ r outs F' H' v q' k1 s' (k2.perm List.perm_middle)
  · intro x ρ' F' H' σ' cls d q' l1 l2 a' s' R' hx
    dsimp only at q'
    cases e : outsOf mask args ρ' with
    | none => rw [e] at q'; exact q'.elim
    | some outs =>
      rw [e] at q'
      obtain ⟨k1, k2⟩ := outs_rp e hlm (atm a') l1 R'
      exact hE x outs F' H' cls d q' k1 s' k2 hx
/-- .. by a simpler promise -/
theorem fn_sp {k : Nat} {f : Addr} {fd : FuncData} {ps : List Str} {mask : List Bool} {sp sp' : FSp} (F : FnG P w K mg base k f fd ps (liftSp K ce mask sp)) (h : ∀ args Q E, sp' args Q E → sp args Q E) : FnG P w K mg base k f fd ps (liftSp K ce mask sp') :=
  F.imp fun vs H Q E ⟨F0, τ, args, Q0, E0, hla, hlm, R, q, hQ, hE⟩ => ⟨F0, τ, args, Q0, E0, hla, hlm, R, h _ _ _ q, hQ, hE⟩
/-- the law's own promise, from its reading at a script -/
theorem law_sp {sp : FSp} {H : Hp} {a : Addr} {ns : List Int} (hS : SqL K H a (ns.map V.int)) (h : sp [.d (.dict (scrK ns))] (fun r _ => r = .d (.bool true)) fun _ _ => False) :
    liftSp K ce [false] sp [.ref a] H (fun v _ => v = .bl true) fun _ _ _ => False := by
  refine ⟨H, [], [.d (.dict (scrK ns))], _, _, rfl, rfl, ⟨fun _ _ e => e, fun p hp => ?_, List.nodup_nil⟩, h, fun r outs F' H' v e _ _ R => ?_, fun x outs _ _ _ _ e _ _ _ _ => e⟩
  · have : p = (Sl.d (.dict (scrK ns)), some (V.ref a)) := by simpa [ZE, Rs.sl] using hp
    subst this
    exact DD.scr ns hS rfl
  · subst e
    have hd : DD K F' v (.bool true) := R.head
    cases hd
    rfl
end
end FX
set_option maxHeartbeats 4000000
namespace FX
variable [Wc]
open PySem PySem.Spec PyProof.Rows L2
/-- what the written part K says of a def -/
def FactF (K : PySem.W.Frag) (x : Str) (st : Stmt) : Prop := ∃ (f : Addr) (oc : Value) (od an : Option Addr) (osl : Array (Option Value)) (kV doc pm cdv ct : Value),
  PySem.W.nsIn K mainGlobals x = some (some (.ref f)) ∧ K.lookup f = some ⟨oc, od, .func (PySem.W.fnOf x x (defArgs st) (defBody st) (defScope st) .none kV doc pm an cdv ct), osl⟩ ∧ PySem.W.codeIn K cdv x = true ∧ PySem.W.keepIn K (.ref f) = true
theorem factF_mk {K : PySem.W.Frag} {x : Str} {st : Stmt} {f : Addr} {oc : Value} {od an : Option Addr} {osl : Array (Option Value)} {kV doc pm cdv ct : Value} (a : PySem.W.nsIn K mainGlobals x = some (some (.ref f)))
    (l : K.lookup f = some ⟨oc, od, .func (PySem.W.fnOf x x (defArgs st) (defBody st) (defScope st) .none kV doc pm an cdv ct), osl⟩) (c : PySem.W.codeIn K cdv x = true) (k : PySem.W.keepIn K (.ref f) = true) : FactF K x st := ⟨f, oc, od, an, osl, kV, doc, pm, cdv, ct, a, l, c, k⟩
def FreeB (K : PySem.W.Frag) (x : Str) : Prop := PySem.W.nsIn K mainGlobals x = some none
def BiF (K : PySem.W.Frag) : Prop := FreeB K "len" ∧ FreeB K "abs" ∧ FreeB K "max" ∧ FreeB K "min" ∧ FreeB K "sum" ∧ FreeB K "all" ∧ FreeB K "any" ∧ FreeB K "sorted" ∧ FreeB K "repr" ∧ FreeB K "list" ∧ FreeB K "tuple" ∧ FreeB K "int" ∧ FreeB K "str" ∧ FreeB K "isinstance" ∧ FreeB K "bool" ∧ FreeB K "dict" ∧ FreeB K "range" ∧ FreeB K "zip" ∧ FreeB K "enumerate" ∧ FreeB K "set"
/-- arguments by places alone -/
def BindB (st : Stmt) (ps : List Str) : Prop := ∀ (x : Str) (kV doc pm : Value) (an : Option Addr) (cdv ct : Value) (us : List Value), us.length = ps.length → bindArgs (PySem.W.fnOf x x (defArgs st) (defBody st) (defScope st) .none kV doc pm an cdv ct) ⟨us, []⟩ = pure (ps.zip us)
section
variable {P : Program} {w : World} {K : PySem.W.Frag} {mg : Str → Option Value} {base h : Heap} {ce : ExcT} {G : Gm} {l conN : List Str} {clsN : List (Str × Bool)} {ow : Ow} {k : Nat}
theorem bi_of (X : K.In h) (Gn : h.Ns mainGlobals mg) (b : BiF K) : ∀ x ∈ biNames, mg x = none := by
  obtain ⟨b1, b2, b3, b4, b5, b6, b7, b8, b9, b10, b11, b12, b13, b14, b15, b16, b17, b18, b19, b20⟩ := b
  intro x hx
  simp only [biNames, List.mem_cons, List.not_mem_nil, or_false] at hx
  rcases hx with rfl | rfl | rfl | rfl | rfl | rfl | rfl | rfl | rfl | rfl | rfl | rfl | rfl | rfl | rfl | rfl | rfl | rfl | rfl | rfl <;> (refine PySem.W.mg_none_of X Gn ?_; assumption)
/-- the classes' numbers, over a written part -/
def ceK (K : PySem.W.Frag) (l : List (Str × Bool)) : ExcT := ⟨fun c => match l[c]? with
  | some p => (match PySem.W.nsIn K mainGlobals p.1 with
    | some (some v) => some v
    | _ => none)
  | none => none, fun _ => none⟩
theorem ceK_at {l : List (Str × Bool)} {c : Nat} {x : Str} {b : Bool} {v : Value} (h : l[c]? = some (x, b)) (e : PySem.W.nsIn K mainGlobals x = some (some v)) : (ceK K l).cls c = some v := by
  show (match l[c]? with
    | some p => (match PySem.W.nsIn K mainGlobals p.1 with
      | some (some v) => some v
      | _ => none)
    | none => none) = some v
  rw [h]
  dsimp only
  rw [e]
theorem ceK_in {l : List (Str × Bool)} {c : Nat} {v : Value} (h : (ceK K l).cls c = some v) : ∃ x b, l[c]? = some (x, b) ∧ PySem.W.nsIn K mainGlobals x = some (some v) := by
  have h : (match l[c]? with
    | some p => (match PySem.W.nsIn K mainGlobals p.1 with
      | some (some v) => some v
      | _ => none)
    | none => none) = some v := h
  cases e : l[c]? with
  | none => rw [e] at h; cases h
  | some p =>
    rw [e] at h
    dsimp only at h
    refine ⟨p.1, p.2, rfl, ?_⟩
    split at h
    · rename_i v' e2
      cases h
      exact e2
    · cases h
/-- what the written part says of a class of errors, by its name -/
def FactC (K : PySem.W.Frag) (x : Str) (b : Bool) : Prop := ∃ C, PySem.W.nsIn K mainGlobals x = some (some (.ref C)) ∧ ClsF K C b
theorem factC_mk {x : Str} {C : Addr} {b : Bool} (a : PySem.W.nsIn K mainGlobals x = some (some (.ref C))) (k : PySem.W.keepIn K (.ref C) = true) (s : PySem.W.subIn K (.ref C) (.type "BaseException") = some true) (t : PySem.W.typeIn K (.ref C) = some (.type "type"))
    (hg : PySem.W.findIn K (.ref C) "__getattribute__" = some (some (.builtin "BaseException.__getattribute__"))) (hk : PySem.W.findIn K (.ref C) "__getattr__" = some none) (hd : PySem.W.hasDictIn K C = true) (ha : PySem.W.findIn K (.ref C) "__class__" = some (some (.builtin "object.__class__")))
    (hn : PySem.W.specialIn K (.builtin "object.__class__") "__get__" = some (some (.builtin "getset_descriptor.__get__"))) (ht : PySem.W.takesIn K (.builtin "object.__class__") = some true) (hm : PySem.W.mroIn K C (.type "object") = some true)
    (m : b = true → PySem.W.excIn K C veT "ValueError.__new__" = true) : FactC K x b := ⟨C, a, k, s, t, ⟨hg, hk, s, hd, ha, hn, ht, hm⟩, m⟩
/-- one class below another, or not -/
def FactS (K : PySem.W.Frag) (x y : Str) (b : Bool) : Prop := ∃ Ci Cj, PySem.W.nsIn K mainGlobals x = some (some (.ref Ci)) ∧ PySem.W.nsIn K mainGlobals y = some (some (.ref Cj)) ∧ PySem.W.subIn K (.ref Ci) (.ref Cj) = some b ∧ (Ci = Cj → b = true)
theorem factS_mk {x y : Str} {Ci Cj : Addr} {b : Bool} (a : PySem.W.nsIn K mainGlobals x = some (some (.ref Ci))) (c : PySem.W.nsIn K mainGlobals y = some (some (.ref Cj))) (s : PySem.W.subIn K (.ref Ci) (.ref Cj) = some b) (d : Ci = Cj → b = true) : FactS K x y b := ⟨Ci, Cj, a, c, s, d⟩
theorem clsAll_of {l : List (Str × Bool)} {sub : Nat → Nat → Bool} (h1 : ∀ (c : Nat) (x : Str) (b : Bool), l[c]? = some (x, b) → FactC K x b) (h2 : ∀ (i j : Nat) (x y : Str) (b b' : Bool), l[i]? = some (x, b) → l[j]? = some (y, b') → FactS K x y (sub i j)) : ClsAll K (ceK K l) sub where
  xc := fun c v e => by
    obtain ⟨x, b, e1, e2⟩ := ceK_in e
    obtain ⟨C, e3, cf⟩ := h1 c x b e1
    rw [e2] at e3
    cases e3
    exact ⟨C, rfl, cf.xc⟩
  kit := fun i j u v e f => by
    obtain ⟨x, b, e1, e2⟩ := ceK_in e
    obtain ⟨y, b', f1, f2⟩ := ceK_in f
    obtain ⟨Ci, Cj, s1, s2, s3, s4⟩ := h2 i j x y b b' e1 f1
    rw [e2] at s1
    cases s1
    rw [f2] at s2
    cases s2
    obtain ⟨C', e3, cf⟩ := h1 j y b' f1
    rw [f2] at e3
    cases e3
    have ex := PySem.W.exm_ref cf.sb cf.xc.hd cf.ty s3
    refine ⟨?_, ex⟩
    unfold PySem.W.kitOne
    split
    · rename_i q
      have : Ci = Cj := Value.ref.inj (beq_iff_eq.mp q)
      rw [s4 this]
    · have : PySem.W.exmOne K (.ref Ci) (.ref Cj) = (if (PySem.W.subIn K (.ref Cj) (.type "BaseException") == some true) = true then PySem.W.kitCls K (.ref Ci) (.ref Cj) else none) := rfl
      rw [this, if_pos (by rw [cf.sb]; rfl)] at ex
      exact ex
theorem cl_of {l : List (Str × Bool)} (X : K.In h) (Gn : h.Ns mainGlobals mg) (h1 : ∀ (c : Nat) (x : Str) (b : Bool), l[c]? = some (x, b) → FactC K x b) : ∀ (c : Nat) (x : Str) (b : Bool), l[c]? = some (x, b) → ∃ C, mg x = some (.ref C) ∧ (ceK K l).cls c = some (.ref C) ∧ ClsF K C b := fun c x b e => by
  obtain ⟨C, e3, cf⟩ := h1 c x b e
  exact ⟨C, PySem.W.mg_of X Gn e3, ceK_at e e3, cf⟩
/-- what the module says of its classes of objects -/
structure OwOk (K : PySem.W.Frag) (mg : Str → Option Value) (ocl : List (Str × Str)) : Prop where
  ob : ∀ (c : Nat) (x f : Str), ocl[c]? = some (x, f) → Wc.fld c = f ∧ (x == ("__debug__" : Str)) = false ∧ ∃ C, Wc.cls K c = some C ∧ mg x = some (.ref C) ∧ PySem.W.keepIn K (.ref C) = true
  oc : ∀ c C, Wc.cls K c = some C → ObjC K C (Wc.fld c)
  okk : ∀ c' C' c C, Wc.cls K c' = some C' → Wc.cls K c = some C → PySem.W.kitOne K (.ref C') (.ref C) = some (c' == c) ∧ PySem.W.notFirst K C (.ref C') = true
theorem Modl.nil {ocl : List (Str × Str)} (ok : OwOk K mg ocl) (all : ClsAll K ce G.sub) (cl : ∀ (c : Nat) (x : Str) (b : Bool), clsN[c]? = some (x, b) → ∃ C, mg x = some (.ref C) ∧ ce.cls c = some (.ref C) ∧ ClsF K C b) (dbX : ∀ (c : Nat) (x : Str) (b : Bool), clsN[c]? = some (x, b) → (x == ("__debug__" : Str)) = false) (dbC : ∀ x ∈ conN, dbgOk x = true) (bi : ∀ x ∈ biNames, mg x = none) (cons : ∀ (g : Nat) (x : Str), conN[g]? = some x → ∀ c, G.con g = some c → ∃ u v, mg x = some u ∧ RelV v u ∧ ∀ F, DD K F v c) : Modl P w K mg base ce G [] conN clsN { ocl := ocl } k :=
  ⟨(fun _ h => by cases h), dbC, bi, (fun f x hx => by simp at hx), cons, all, cl, dbX, ok.ob, ok.oc, ok.okk, (fun _ h => by cases h), (fun _ h => by cases h), (fun _ h => by cases h)⟩
/-- deeper -/
theorem Modl.up (M : Modl P w K mg base ce G l conN clsN ow k) : Modl P w K mg base ce G l conN clsN ow (k + 1) where
  dbF := M.dbF
  dbC := M.dbC
  bi := M.bi
  fns := fun f x hx mask sp hs => let ⟨ad, fd, ps, h1, h2⟩ := M.fns f x hx mask sp hs; ⟨ad, fd, ps, h1.mono (Nat.le_succ k), h2⟩
  cons := M.cons
  all := M.all
  cl := M.cl
  dbX := M.dbX
  ob := M.ob
  oc := M.oc
  okk := M.okk
  mts := fun m hm c C mask sp h1 h2 => let ⟨j, ad, fd, ps, g1, g2⟩ := M.mts m hm c C mask sp h1 h2; ⟨j, ad, fd, ps, Nat.le_succ_of_le g1, g2⟩
  prs := fun m hm c C mask sp h1 h2 => let ⟨j, p, g, fd, ps, g1, g2⟩ := M.prs m hm c C mask sp h1 h2; ⟨j, p, g, fd, ps, Nat.le_succ_of_le g1, g2⟩
  cts := fun c hc C hC sp hs => let ⟨j, fI, fd, ps, g1, g2⟩ := M.cts c hc C hC sp hs; ⟨j, fI, fd, ps, Nat.le_succ_of_le g1, g2⟩
/-- one def more -/
theorem Modl.step (M : Modl P w K mg base ce G l conN clsN ow k) (X : K.In h) (Gn : h.Ns mainGlobals mg) {x : Str} {st : Stmt} (ff : FactF K x st) {ps N : List Str} (Sc : FnScope N ps (defScope st)) (bb : BindB st ps) {mask : List Bool} {ir : S} {sp : FSp} (dbx : dbgOk x = true)
    (dbN : ∀ x ∈ N, dbgOk x = true) (hm : mask.length = ps.length) (ha : ∀ i, mask[i]? = some true → i ∉ ir.asgs) (hck : chkSs ⟨N, l, conN, clsN, ow.ocl, ow.mtd, ow.prp, ow.ctd⟩ (fun _ => true) (defScope st) ir (defBody st) = true) (hG : G.fn l.length = some (mask, sp))
    (hsp : ∀ args Q E, sp args Q E → runB G ir N.length mask args Q E) : Modl P w K mg base ce G (l ++ [x]) conN clsN ow (k + 1) := by
  obtain ⟨f, oc, od, an, osl, kV, doc, pm, cdv, ct, h1, h2, h3, h4⟩ := ff
  have F := fun_mk (st := st) h2 h3 h4
  have fn : FnG P w K mg base (k + 1) f _ ps (liftSp K ce mask sp) := fn_sp (fn_chk F Sc M dbN hm ha hck) hsp
  refine ⟨fun y hy => ?_, M.dbC, M.bi, fun g y hy mask' sp' hs => ?_, M.cons, M.all, M.cl, M.dbX, M.ob, M.oc, M.okk, M.up.mts, M.up.prs, M.up.cts⟩
  · rcases List.mem_append.mp hy with hy | hy
    · exact M.dbF y hy
    · rw [List.mem_singleton] at hy
      subst hy
      exact dbx
  · by_cases hg : g < l.length
    · rw [List.getElem?_append_left hg] at hy
      obtain ⟨ad, fd, ps', f1, f2, f3, f4⟩ := M.fns g y hy mask' sp' hs
      exact ⟨ad, fd, ps', f1.mono (Nat.le_succ k), f2, f3, f4⟩
    · have : g = l.length := by
        have := (List.getElem?_eq_some_iff.mp hy).1
        rw [List.length_append, List.length_singleton] at this
        omega
      subst this
      rw [List.getElem?_append_right (Nat.le_refl _), Nat.sub_self] at hy
      obtain rfl : x = y := by simpa using hy
      rw [hG] at hs
      cases hs
      exact ⟨f, _, ps, fn, PySem.W.mg_of X Gn h1, h4, F.binds fun kV doc pm an cdv ct us hl => bb x kV doc pm an cdv ct us hl⟩
/-- what the written part K says of a method -/
def FactM (K : PySem.W.Frag) (cn m qual : Str) (st : Stmt) : Prop := ∃ (C f : Addr) (oc : Value) (od an : Option Addr) (osl : Array (Option Value)) (kV doc pm cdv ct : Value),
  PySem.W.nsIn K mainGlobals cn = some (some (.ref C)) ∧ PySem.W.findIn K (.ref C) m = some (some (.ref f)) ∧ K.lookup f = some ⟨oc, od, .func (PySem.W.fnOf m qual (defArgs st) (defBody st) (defScope st) .none kV doc pm an cdv ct), osl⟩ ∧ PySem.W.codeIn K cdv qual = true ∧ PySem.W.keepIn K (.ref f) = true ∧ PySem.W.isFn K (.ref f) = true
theorem factM_mk {cn m qual : Str} {st : Stmt} {C f : Addr} {oc : Value} {od an : Option Addr} {osl : Array (Option Value)} {kV doc pm cdv ct : Value} (n : PySem.W.nsIn K mainGlobals cn = some (some (.ref C))) (a : PySem.W.findIn K (.ref C) m = some (some (.ref f)))
    (l : K.lookup f = some ⟨oc, od, .func (PySem.W.fnOf m qual (defArgs st) (defBody st) (defScope st) .none kV doc pm an cdv ct), osl⟩) (c : PySem.W.codeIn K cdv qual = true) (k : PySem.W.keepIn K (.ref f) = true) (i : PySem.W.isFn K (.ref f) = true) : FactM K cn m qual st := ⟨C, f, oc, od, an, osl, kV, doc, pm, cdv, ct, n, a, l, c, k, i⟩
/-- .. of a property -/
def FactP (K : PySem.W.Frag) (cn m qual : Str) (st : Stmt) : Prop := ∃ (C p f : Addr) (oc : Value) (od an : Option Addr) (osl : Array (Option Value)) (kV doc pm cdv ct : Value),
  PySem.W.nsIn K mainGlobals cn = some (some (.ref C)) ∧ PropOf K C m p f ∧ K.lookup f = some ⟨oc, od, .func (PySem.W.fnOf m qual (defArgs st) (defBody st) (defScope st) .none kV doc pm an cdv ct), osl⟩ ∧ PySem.W.codeIn K cdv qual = true ∧ PySem.W.keepIn K (.ref f) = true
theorem factP_mk {cn m qual : Str} {st : Stmt} {C p f : Addr} {oc : Value} {od an : Option Addr} {osl : Array (Option Value)} {rest : List Value} {kV doc pm cdv ct : Value} (n : PySem.W.nsIn K mainGlobals cn = some (some (.ref C))) (a : PySem.W.findIn K (.ref C) m = some (some (.ref p)))
    (g : PySem.W.specialIn K (.ref p) "__get__" = some (some (.builtin "property.__get__"))) (t : PySem.W.takesIn K (.ref p) = some true) (r : PySem.W.recIn K p "property" = some (.ref f :: rest))
    (l : K.lookup f = some ⟨oc, od, .func (PySem.W.fnOf m qual (defArgs st) (defBody st) (defScope st) .none kV doc pm an cdv ct), osl⟩) (c : PySem.W.codeIn K cdv qual = true) (k : PySem.W.keepIn K (.ref f) = true) : FactP K cn m qual st := ⟨C, p, f, oc, od, an, osl, kV, doc, pm, cdv, ct, n, ⟨a, g, t, rest, r⟩, l, c, k⟩
/-- arguments by places alone -/
def BindM (x qual : Str) (st : Stmt) (ps : List Str) : Prop := ∀ (kV doc pm : Value) (an : Option Addr) (cdv ct : Value) (us : List Value), us.length = ps.length → bindArgs (PySem.W.fnOf x qual (defArgs st) (defBody st) (defScope st) .none kV doc pm an cdv ct) ⟨us, []⟩ = pure (ps.zip us)
/-- one method more -/
theorem Modl.stepM (M : Modl P w K mg base ce G l conN clsN ow k) {cn m qual : Str} {st : Stmt} {c0 : Nat} (ff : FactM K cn m qual st) (hc0 : ∀ C, PySem.W.nsIn K mainGlobals cn = some (some (.ref C)) → Wc.cls K c0 = some C) (hone : ∀ c C, Wc.cls K c = some C → G.mt c m ≠ none → c = c0) {ps N : List Str} (Sc : FnScope N ps (defScope st)) (bb : BindM m qual st ps) {mask : List Bool} {ir : S} {sp : FSp}
    (dbN : ∀ x ∈ N, dbgOk x = true) (hm : mask.length = ps.length) (ha : ∀ i, mask[i]? = some true → i ∉ ir.asgs) (hck : chkSs ⟨N, l, conN, clsN, ow.ocl, ow.mtd, ow.prp, ow.ctd⟩ (fun _ => true) (defScope st) ir (defBody st) = true) (hG : G.mt c0 m = some (mask, sp))
    (hsp : ∀ args Q E, sp args Q E → runB G ir N.length mask args Q E) : Modl P w K mg base ce G l conN clsN { ow with mtd := ow.mtd ++ [m] } (k + 2) := by
  obtain ⟨C0, f, oc, od, an, osl, kV, doc, pm, cdv, ct, h0, h1, h2, h3, h4, h5⟩ := ff
  have F := fun_mk (st := st) h2 h3 h4
  have fn : FnG P w K mg base (k + 1) f _ ps (liftSp K ce mask sp) := fn_sp (fn_chk F Sc M dbN hm ha hck) hsp
  have U := M.up.up
  refine ⟨U.dbF, U.dbC, U.bi, U.fns, U.cons, U.all, U.cl, U.dbX, U.ob, U.oc, U.okk, fun m' hm' c C mask' sp' e1 e2 => ?_, U.prs, U.cts⟩
  rcases List.mem_append.mp hm' with hm' | hm'
  · exact U.mts m' hm' c C mask' sp' e1 e2
  · rw [List.mem_singleton] at hm'
    subst hm'
    obtain rfl := hone c C e2 (by rw [e1]; simp)
    rw [hG] at e1
    cases e1
    have := hc0 C0 h0
    rw [e2] at this
    cases this
    exact ⟨k + 1, f, _, ps, Nat.le_refl _, fn, F.binds fun kV doc pm an cdv ct us hl => bb kV doc pm an cdv ct us hl, h1, h5, by unfold PySem.W.fnIn; rw [h2]⟩
/-- one property more -/
theorem Modl.stepP (M : Modl P w K mg base ce G l conN clsN ow k) {cn m qual : Str} {st : Stmt} {c0 : Nat} (ff : FactP K cn m qual st) (hc0 : ∀ C, PySem.W.nsIn K mainGlobals cn = some (some (.ref C)) → Wc.cls K c0 = some C) (hone : ∀ c C, Wc.cls K c = some C → G.mt c m ≠ none → c = c0) {ps N : List Str} (Sc : FnScope N ps (defScope st)) (bb : BindM m qual st ps) {mask : List Bool} {ir : S} {sp : FSp}
    (dbN : ∀ x ∈ N, dbgOk x = true) (hm : mask.length = ps.length) (ha : ∀ i, mask[i]? = some true → i ∉ ir.asgs) (hck : chkSs ⟨N, l, conN, clsN, ow.ocl, ow.mtd, ow.prp, ow.ctd⟩ (fun _ => true) (defScope st) ir (defBody st) = true) (hG : G.mt c0 m = some (mask, sp))
    (hsp : ∀ args Q E, sp args Q E → runB G ir N.length mask args Q E) : Modl P w K mg base ce G l conN clsN { ow with prp := ow.prp ++ [m] } (k + 2) := by
  obtain ⟨C0, p, f, oc, od, an, osl, kV, doc, pm, cdv, ct, h0, h1, h2, h3, h4⟩ := ff
  have F := fun_mk (st := st) h2 h3 h4
  have fn : FnG P w K mg base (k + 1) f _ ps (liftSp K ce mask sp) := fn_sp (fn_chk F Sc M dbN hm ha hck) hsp
  have U := M.up.up
  refine ⟨U.dbF, U.dbC, U.bi, U.fns, U.cons, U.all, U.cl, U.dbX, U.ob, U.oc, U.okk, U.mts, fun m' hm' c C mask' sp' e1 e2 => ?_, U.cts⟩
  rcases List.mem_append.mp hm' with hm' | hm'
  · exact U.prs m' hm' c C mask' sp' e1 e2
  · rw [List.mem_singleton] at hm'
    subst hm'
    obtain rfl := hone c C e2 (by rw [e1]; simp)
    rw [hG] at e1
    cases e1
    have := hc0 C0 h0
    rw [e2] at this
    cases this
    exact ⟨k + 1, p, f, _, ps, Nat.le_refl _, h1, fn, F.binds fun kV doc pm an cdv ct us hl => bb kV doc pm an cdv ct us hl⟩
/-- need(x); self.f = x -/
theorem ini_ok (M : Modl P w K mg base ce G l conN clsN ow k) {x nx fl qual : Str} {st : Stmt} {f : Addr} {fd : FuncData} {nf c : Nat} {C : Addr} {b : Bool} {fsp : FSp} {sp : PyData → (Str → Prop) → (Exc → Prop) → Prop} {p1 p2 p3 p4 p5 p6 p7 p8 : Pos} (F : Fun K "__init__" qual st f fd) (Sc : FnScope ["self", x] ["self", x] (defScope st))
    (hb : defBody st = [.Expr (.Call (.Name nx p1) [.Name x p2] [] p3) p4, .Assign [.Attribute (.Name "self" p5) fl p6] (.Name x p7) p8]) (hg : glB (defScope st) nx = true) (v0 : visB (defScope st) "self" = true) (v1 : visB (defScope st) x = true) (hx : dbgOk x = true) (hn : l[nf]? = some nx) (hG : G.fn nf = some ([b], fsp)) (hoc : ObjC K C fl) (hfl : Wc.fld c = fl)
    (hsp : ∀ x k e, sp x k e → ∃ t, x = .str t ∧ fsp [.d (.str t)] (fun _ _ => k t) fun exc _ => e exc) : FnG P w K mg base (k + 1) f fd ["self", x] (iniSp K ce c C sp) := by
  refine fnG_of F Sc (fun vs H Q E h => ?_) fun cdv A outer s H vs Q E hr hgd h => ?_
  · obtain ⟨_, _, _, _, _, _, _, _, rfl, _⟩ := h
    rfl
  obtain ⟨ad, fd', ps', f1, f2, f3, f4⟩ := M.fns nf nx hn _ _ hG
  obtain ⟨d1, d2⟩ := dbg1 hx
  rw [hb]
  refine ⟨_, pss_cons (ps_expr (pe_callG (k := k) f1 hr ((deeper_guards A _).trans hgd) (gl_of hg) f2 f3 f4 (W := fun cls d _ H => E cls d H) (takes_of rfl rfl rfl rfl) (pa_cons (pe_var (i := 1) rfl (vis_of v1) d1 d2) pa_nil) (dbg1 (M.dbF _ (mem_get hn))).1 rfl rfl)) (pss_one (ps_fld (pe_var (i := 0) rfl (vis_of v0) (by decide) (by decide)) (pe_var (i := 1) rfl (vis_of v1) d1 d2) rfl)), ?_⟩
  obtain ⟨F0, z, a, dx, v, d, Q0, E0, rfl, R, hd, q, hQ, hE⟩ := h
  obtain ⟨t, rfl, q2⟩ := hsp _ _ _ q
  cases hd
  refine ⟨.str t, rfl, ?_⟩
  refine me_lift (ds := [.str t]) (Q0 := fun _ => Q0 t) (E0 := E0) R (.cons (.str t) .nil) rfl q2 (fun r F' H' v' q' s' R' => ?_) fun e F' H' cls dd q' s' R' hx => ?_
  · have R2 := R'.tail
    obtain ⟨_, e2⟩ := R2.head
    refine ⟨.str t, rfl, .ref a, rfl, a, C, dx, [], rfl, e2, hoc.cl, hoc.na, by decide, ?_⟩
    refine hQ t F' _ q' s' ?_
    rw [hfl]
    exact R2.writeH
  · exact hE e F' H' cls dd q' s' R'.tail.tail hx
/-- one class more whose objects can be made -/
theorem Modl.stepC (M : Modl P w K mg base ce G l conN clsN ow k) {cn x nx fl qual : Str} {st : Stmt} {c0 nf : Nat} {b : Bool} {fsp : FSp} {sp : PyData → (Str → Prop) → (Exc → Prop) → Prop} {p1 p2 p3 p4 p5 p6 p7 p8 : Pos} (ff : FactM K cn "__init__" qual st) (hmk : ∀ C, PySem.W.nsIn K mainGlobals cn = some (some (.ref C)) → PySem.W.makesIn K C = true) (hkp : ∀ C, PySem.W.nsIn K mainGlobals cn = some (some (.ref C)) → PySem.W.keepIn K (.ref C) = true)
    (hc0 : ∀ C, PySem.W.nsIn K mainGlobals cn = some (some (.ref C)) → Wc.cls K c0 = some C) (Sc : FnScope ["self", x] ["self", x] (defScope st)) (bb : BindM "__init__" qual st ["self", x])
    (hb : defBody st = [.Expr (.Call (.Name nx p1) [.Name x p2] [] p3) p4, .Assign [.Attribute (.Name "self" p5) fl p6] (.Name x p7) p8]) (hg : glB (defScope st) nx = true) (v0 : visB (defScope st) "self" = true) (v1 : visB (defScope st) x = true) (hx : dbgOk x = true) (hn : l[nf]? = some nx) (hG : G.fn nf = some ([b], fsp)) (hfl : Wc.fld c0 = fl)
    (hsp : ∀ x k e, sp x k e → ∃ t, x = .str t ∧ fsp [.d (.str t)] (fun _ _ => k t) fun exc _ => e exc) (hct : G.ct c0 = some sp) : Modl P w K mg base ce G l conN clsN { ow with ctd := ow.ctd ++ [c0] } (k + 2) := by
  obtain ⟨C0, f, oc, od, an, osl, kV, doc, pm, cdv, ct, h0, h1, h2, h3, h4, h5⟩ := ff
  have F := fun_mk (st := st) h2 h3 h4
  have hC := hc0 C0 h0
  have ho := M.oc c0 C0 hC
  rw [hfl] at ho
  have fn := ini_ok (c := c0) M F Sc hb hg v0 v1 hx hn hG ho hfl hsp
  have U := M.up.up
  refine ⟨U.dbF, U.dbC, U.bi, U.fns, U.cons, U.all, U.cl, U.dbX, U.ob, U.oc, U.okk, U.mts, U.prs, fun c hc C e2 sp' e1 => ?_⟩
  rcases List.mem_append.mp hc with hc | hc
  · exact U.cts c hc C e2 sp' e1
  · rw [List.mem_singleton] at hc
    subst hc
    rw [hct] at e1
    cases e1
    rw [hC] at e2
    cases e2
    exact ⟨k + 1, f, _, _, Nat.le_refl _, ⟨hmk _ h0, h1, h5, hkp _ h0⟩, fn, F.binds fun kV doc pm an cdv ct us hl => bb kV doc pm an cdv ct us hl⟩
/-- the law itself -/
theorem Modl.law (M : Modl P w K mg base ce G l conN clsN ow k) {x a : Str} {st : Stmt} {N : List Str} (Sc : FnScope N [a] (defScope st)) {ir : S} (dbN : ∀ x ∈ N, dbgOk x = true) (hck : chkSs ⟨N, l, conN, clsN, ow.ocl, ow.mtd, ow.prp, ow.ctd⟩ (fun _ => true) (defScope st) ir (defBody st) = true)
    {f : Addr} {oc : Value} {od an : Option Addr} {osl : Array (Option Value)} {kV doc pm cdv ct : Value} (h2 : K.lookup f = some ⟨oc, od, .func (PySem.W.fnOf x x (defArgs st) (defBody st) (defScope st) .none kV doc pm an cdv ct), osl⟩) (h3 : PySem.W.codeIn K cdv x = true) (h4 : PySem.W.keepIn K (.ref f) = true) :
    FnG P w K mg base (k + 1) f (PySem.W.fnOf x x (defArgs st) (defBody st) (defScope st) .none kV doc pm an cdv ct) [a] (liftSp K ce [false] (runB G ir N.length [false])) :=
  fn_chk (fun_mk (st := st) h2 h3 h4) Sc M dbN rfl (fun i hi => by
    cases i with
    | zero => simp at hi
    | succ i => simp at hi) hck
/-- the class of that name -/
def clsA (K : PySem.W.Frag) (x : Str) : Option Addr := match PySem.W.nsIn K mainGlobals x with
  | some (some (.ref C)) => some C
  | _ => none
theorem clsA_of {x : Str} {C : Addr} (h : PySem.W.nsIn K mainGlobals x = some (some (.ref C))) : clsA K x = some C := by
  unfold clsA
  rw [h]
theorem clsA_in {x : Str} {C : Addr} (h : clsA K x = some C) : PySem.W.nsIn K mainGlobals x = some (some (.ref C)) := by
  unfold clsA at h
  split at h
  · rename_i e
    cases h
    exact e
  · cases h
/-- a method of the class that stands there -/
def inCls (st : Stmt) (j : Nat) : Stmt := match st with
  | .ClassDef _ _ _ b _ _ _ _ _ _ _ => b.getD j (.Pass ⟨0, 0, 0, 0⟩)
  | s => s
/-- what the written part says of a class of objects -/
def FactO (K : PySem.W.Frag) (x f : Str) : Prop := ∃ C, PySem.W.nsIn K mainGlobals x = some (some (.ref C)) ∧ PySem.W.keepIn K (.ref C) = true ∧ PySem.W.makesIn K C = true ∧ ObjC K C f
theorem factO_mk {x f : Str} {C : Addr} {rc fo ro : Option Value} (a : PySem.W.nsIn K mainGlobals x = some (some (.ref C))) (k : PySem.W.keepIn K (.ref C) = true) (m : PySem.W.makesIn K C = true)
    (c1 : PySem.W.plainGet K C Str.empty = true) (c2 : PySem.W.hasDictIn K C = true) (c3 : PySem.W.plainOver K C = true) (c4 : PySem.W.findIn K (.ref C) "__setattr__" = some (some (.builtin "object.__setattr__"))) (c5 : PySem.W.findIn K (.ref C) f = some none)
    (i1 : PySem.W.findIn K (.ref C) "__class__" = some (some (.builtin "object.__class__"))) (i2 : PySem.W.specialIn K (.builtin "object.__class__") "__get__" = some (some (.builtin "getset_descriptor.__get__"))) (i3 : PySem.W.takesIn K (.builtin "object.__class__") = some true) (i4 : PySem.W.mroIn K C (.type "object") = some true) (i5 : PySem.W.kitOne K (.ref C) (.ref C) = some true)
    (s : PySem.W.selfFirst K C = true) (m1 : PySem.W.findIn K (.ref C) "__rmul__" = some rc) (m2 : rc = none ∨ ∃ g : Addr, rc = some (.ref g)) (m3 : PySem.W.findIn K (.type "int") "__mul__" = some fo) (m4 : PySem.W.findIn K (.type "int") "__rmul__" = some ro)
    (n1 : PySem.W.subIn K (.type "NoneType") (.ref C) = some false) (n2 : PySem.W.subIn K (.type "bool") (.ref C) = some false) (n3 : PySem.W.subIn K (.type "int") (.ref C) = some false) (n4 : PySem.W.subIn K (.type "str") (.ref C) = some false) (n5 : PySem.W.subIn K (.type "list") (.ref C) = some false) (n6 : PySem.W.subIn K (.type "tuple") (.ref C) = some false)
    (t1 : PySem.W.kitOne K (.type "NoneType") (.ref C) = some false) (t2 : PySem.W.kitOne K (.type "bool") (.ref C) = some false) (t3 : PySem.W.kitOne K (.type "int") (.ref C) = some false) (t4 : PySem.W.kitOne K (.type "str") (.ref C) = some false) (t5 : PySem.W.kitOne K (.type "list") (.ref C) = some false) (t6 : PySem.W.kitOne K (.type "tuple") (.ref C) = some false)
    (e1 : PySem.W.findIn K (.ref C) "__ne__" = some (some (.builtin "object.__ne__"))) (b1 : PySem.W.kitOne K (.ref C) (.type "NoneType") = some false) (b2 : PySem.W.kitOne K (.ref C) (.type "bool") = some false) (b3 : PySem.W.kitOne K (.ref C) (.type "int") = some false) (b4 : PySem.W.kitOne K (.ref C) (.type "str") = some false) (b5 : PySem.W.kitOne K (.ref C) (.type "list") = some false) (b6 : PySem.W.kitOne K (.ref C) (.type "tuple") = some false) (b7 : PySem.W.kitOne K (.ref C) (.type "dict") = some false) : FactO K x f :=
  ⟨C, a, k, m, ⟨c1, c2, c3, c4⟩, c5, ⟨⟨c1, c2, c3, c4⟩, i1, i2, i3, i4, i5⟩, s, ⟨rc, fo, ro, m1, m2, m3, m4, n3⟩,
    fun T hT => by
      simp only [List.mem_cons, List.not_mem_nil, or_false] at hT
      rcases hT with rfl | rfl | rfl | rfl | rfl | rfl <;> assumption,
    fun T hT => by
      simp only [List.mem_cons, List.not_mem_nil, or_false] at hT
      rcases hT with rfl | rfl | rfl | rfl | rfl | rfl <;> assumption, e1,
    fun T hT => by
      simp only [List.mem_cons, List.not_mem_nil, or_false] at hT
      rcases hT with rfl | rfl | rfl | rfl | rfl | rfl | rfl <;> assumption⟩
theorem owOk_none (h : ∀ c, Wc.cls K c = none) : OwOk K mg [] := ⟨(fun c x f e => by simp at e), (fun c C e => by rw [h] at e; cases e), (fun c' C' c C e => by rw [h] at e; cases e)⟩
theorem owOk_one {x f : Str} (X : K.In h) (Gn : h.Ns mainGlobals mg) (hd : (x == ("__debug__" : Str)) = false) (h0 : Wc.cls K 0 = clsA K x) (hn : ∀ c, c ≠ 0 → Wc.cls K c = none) (hf : Wc.fld 0 = f) (o : FactO K x f) : OwOk K mg [(x, f)] := by
  obtain ⟨C, a, k, m, ob⟩ := o
  have hC : Wc.cls K 0 = some C := by rw [h0]; exact clsA_of a
  have z : ∀ c C', Wc.cls K c = some C' → c = 0 ∧ C' = C := fun c C' e => by
    by_cases hc : c = 0
    · subst hc
      rw [hC] at e
      exact ⟨rfl, (Option.some.inj e).symm⟩
    · rw [hn c hc] at e
      cases e
  refine ⟨fun c y g e => ?_, fun c C' e => ?_, fun c' C' c C'' e e' => ?_⟩
  · have hc : c = 0 := by
      have := (List.getElem?_eq_some_iff.mp e).1
      simp at this
      exact this
    subst hc
    cases e
    exact ⟨hf, hd, C, hC, PySem.W.mg_of X Gn a, k⟩
  · obtain ⟨rfl, rfl⟩ := z c C' e
    rw [hf]
    exact ob
  · obtain ⟨rfl, rfl⟩ := z c' C' e
    obtain ⟨rfl, rfl⟩ := z c C'' e'
    exact ⟨ob.ic.me, by unfold PySem.W.notFirst; simp⟩
/-- constants of the module -/
theorem con_int {i : Int} {t : Tok} {x : Str} (X : K.In h) (Gn : h.Ns mainGlobals mg) (e : PySem.W.nsIn K mainGlobals x = some (some (.int i t))) : ∃ u v, mg x = some u ∧ RelV v u ∧ ∀ F, DD K F v (.int i) :=
  ⟨_, .int i, PySem.W.mg_of X Gn e, ⟨t, rfl⟩, fun _ => .int i⟩
theorem con_str {i : Str} {t : Tok} {x : Str} (X : K.In h) (Gn : h.Ns mainGlobals mg) (e : PySem.W.nsIn K mainGlobals x = some (some (.str i t))) : ∃ u v, mg x = some u ∧ RelV v u ∧ ∀ F, DD K F v (.str i) :=
  ⟨_, .str i, PySem.W.mg_of X Gn e, ⟨t, rfl⟩, fun _ => .str i⟩
/-- what a plain value of a tuple stands for -/
def plainD : Value → Option (V × PyData)
  | .int i _ => some (.int i, .int i)
  | .str s _ => some (.str s, .str s)
  | .none => some (.non, .none)
  | .bool b => some (.bl b, .bool b)
  | _ => none
def plainDs : List Value → Option (List PyData)
  | [] => some []
  | u :: us => match plainD u, plainDs us with
    | some (_, d), some ds => some (d :: ds)
    | _, _ => none
theorem plain_ok : ∀ {us : List Value} {ds : List PyData}, plainDs us = some ds → ∃ vs, Vals vs us ∧ ∀ F, DDs K F vs ds
  | [], ds, e => by
    cases e
    exact ⟨[], .nil, fun _ => .nil⟩
  | u :: us, ds, e => by
    unfold plainDs at e
    cases h1 : plainD u with
    | none => rw [h1] at e; cases e
    | some p =>
      obtain ⟨v, d⟩ := p
      cases h2 : plainDs us with
      | none => rw [h1, h2] at e; cases e
      | some es =>
        rw [h1, h2] at e
        cases e
        obtain ⟨vs, r, hd⟩ := plain_ok h2
        have hv : RelV v u ∧ ∀ F, DD K F v d := by
          cases u <;> try (cases h1; done)
          · cases h1; exact ⟨rfl, fun _ => .non⟩
          · cases h1; exact ⟨rfl, fun _ => .bl _⟩
          · cases h1; exact ⟨⟨_, rfl⟩, fun _ => .int _⟩
          · cases h1; exact ⟨⟨_, rfl⟩, fun _ => .str _⟩
        exact ⟨v :: vs, .cons hv.1 r, fun F => .cons (hv.2 F) (hd F)⟩
theorem con_tup {a : Addr} {x : Str} {us : List Value} {n : Nat} {ds : List PyData} {od : Option Addr} {sl : Array (Option Value)} (X : K.In h) (Gn : h.Ns mainGlobals mg) (e : PySem.W.nsIn K mainGlobals x = some (some (.ref a)))
    (l : K.lookup a = some ⟨.type "tuple", od, .seq us.toArray n, sl⟩) (hl : us.length ≤ sizeLine) (hp : plainDs us = some ds) : ∃ u v, mg x = some u ∧ RelV v u ∧ ∀ F, DD K F v (.tuple ds) := by
  obtain ⟨vs, r, hd⟩ := plain_ok (K := K) hp
  exact ⟨_, .ref a, PySem.W.mg_of X Gn e, rfl, fun F => .tup (.inr ⟨_, us.toArray, n, l, rfl, rfl, by simpa using hl, by simpa using r⟩) (hd F)⟩
end
/-- a promise, its own errors by the written part -/
abbrev liftK (K : PySem.W.Frag) (l : List (Str × Bool)) (mask : List Bool) (sp : FSp) : Sp := liftSp K (ceK K l) mask sp
theorem law_spK {K : PySem.W.Frag} {l : List (Str × Bool)} {sp : FSp} {H : Hp} {a : Addr} {ns : List Int} (hS : SqL K H a (ns.map V.int)) (h : sp [.d (.dict (scrK ns))] (fun r _ => r = .d (.bool true)) fun _ _ => False) :
    liftK K l [false] sp [.ref a] H (fun v _ => v = .bl true) fun _ _ _ => False := law_sp hS h
end FX
set_option maxHeartbeats 4000000
namespace FX
open PySem PySem.Spec PyProof.Rows L2
/-- a call, its operands read -/
def callK (mask : List Bool) (sp : FSp) (os : List Op) (ρ : FE) (Q : KQ) (E : KX) : Prop := match passArgs mask os ρ with
  | none => False
  | some (ps, ρ2) => sp (ps.map (·.1)) (fun r outs => Q r (backIo ps outs ρ2)) (fun x outs => E x (backIo ps outs ρ2))
def Sl.isv : Sl → Bool
  | .no => false
  | .h _ => false
  | _ => true
section
variable {G : Gm} {ρ : FE} {Q : KQ} {E : KX} {QO : Op → FE → Prop} {QT : Bool → FE → Prop} {D : FEnds}
/-! ### readings, step by step (all by rfl) -/
theorem wv_cst {c : PyData} : (W G (.cst c)).v ρ Q E = Q (.d c) ρ := rfl
theorem wo_cst {c : PyData} : (W G (.cst c)).o ρ QO E = QO (.v (.d c)) ρ := rfl
theorem wm_cst {c : PyData} : (W G (.cst c)).m ρ Q E = Q (.d c) ρ := rfl
theorem wt_cst {c : PyData} : (W G (.cst c)).t ρ QT E = truthK (.v (.d c)) ρ fun b => QT b ρ := rfl
theorem wv_var {i : Nat} : (W G (.var i)).v ρ Q E = (match at_ ρ i with
        | .no => False
        | .h _ => False
        | .d x => Q (.d x) ρ
        | .o xs => Q (.d (.list xs)) (ρ.set i (.d (.list xs)))
        | .t kvs => Q (.d (.dict kvs)) (ρ.set i (.d (.dict kvs)))) := rfl
theorem wo_var {i : Nat} : (W G (.var i)).o ρ QO E = ((at_ ρ i).isv = true ∧ QO (.s i) ρ) := by
  show (match at_ ρ i with
        | .no => False
        | .h _ => False
        | _ => QO (.s i) ρ) = _
  cases at_ ρ i <;> simp [Sl.isv]
theorem isv_d {x : PyData} : ((Sl.d x).isv = true) = True := eq_self _
theorem isv_o {x : List PyData} : ((Sl.o x).isv = true) = True := eq_self _
theorem isv_t {x : List (PyData × PyData)} : ((Sl.t x).isv = true) = True := eq_self _
theorem isv_r {r : Rs} : (r.sl.isv = true) = True := by cases r <;> exact eq_self _
theorem sld_r {r : Rs} : r.sl.data = some r.data := by cases r <;> rfl
theorem slr_r {r : Rs} : r.sl.rs = some r := by cases r <;> rfl
theorem wt_var {i : Nat} : (W G (.var i)).t ρ QT E = truthK (.s i) ρ fun b => QT b ρ := rfl
theorem wm_var {i : Nat} : (W G (.var i)).m ρ Q E = (match at_ ρ i with
        | .no => False
        | .h _ => False
        | .d x => Q (.d x) ρ
        | .o xs => Q (.o xs) (ρ.set i .no)
        | .t kvs => Q (.d (.dict kvs)) (ρ.set i (.d (.dict kvs)))) := rfl
theorem wv_glob {g : Nat} : (W G (.glob g)).v ρ Q E = (match G.con g with
      | some c => Q (.d c) ρ
      | none => False) := rfl
theorem wo_glob {g : Nat} : (W G (.glob g)).o ρ QO E = (match G.con g with
      | some c => QO (.v (.d c)) ρ
      | none => False) := rfl
theorem wv_prim {f : PF} {as : Es} : (W G (.prim f as)).v ρ Q E = (Ws G as).os ρ (fun os ρ' => match gets ρ' os with
      | some ds => psem f ds fun r => Q r ρ'
      | none => False) E := rfl
theorem wo_prim {f : PF} {as : Es} : (W G (.prim f as)).o ρ QO E = (Ws G as).os ρ (fun os ρ' => match gets ρ' os with
      | some ds => psem f ds fun r => QO (.v r) ρ'
      | none => False) E := rfl
theorem wm_prim {f : PF} {as : Es} : (W G (.prim f as)).m ρ Q E = (Ws G as).os ρ (fun os ρ' => match gets ρ' os with
      | some ds => psem f ds fun r => Q r ρ'
      | none => False) E := rfl
theorem wt_prim {f : PF} {as : Es} : (W G (.prim f as)).t ρ QT E = (Ws G as).os ρ (fun os ρ' => match gets ρ' os with
      | some ds => psem f ds fun r => truthK (.v r) ρ' fun b => QT b ρ'
      | none => False) E := rfl
theorem wv_ands {as : Es} : (W G (.ands as)).v ρ Q E = (Ws G as).andV ρ Q E := rfl
theorem wo_ands {as : Es} : (W G (.ands as)).o ρ QO E = (Ws G as).andV ρ (fun r ρ' => QO (.v r) ρ') E := rfl
theorem wm_ands {as : Es} : (W G (.ands as)).m ρ Q E = (Ws G as).andV ρ Q E := rfl
theorem wt_ands {as : Es} : (W G (.ands as)).t ρ QT E = (Ws G as).andT ρ QT E := rfl
theorem wv_ors {as : Es} : (W G (.ors as)).v ρ Q E = (Ws G as).orV ρ Q E := rfl
theorem wo_ors {as : Es} : (W G (.ors as)).o ρ QO E = (Ws G as).orV ρ (fun r ρ' => QO (.v r) ρ') E := rfl
theorem wm_ors {as : Es} : (W G (.ors as)).m ρ Q E = (Ws G as).orV ρ Q E := rfl
theorem wt_ors {as : Es} : (W G (.ors as)).t ρ QT E = (Ws G as).orT ρ QT E := rfl
theorem wv_nt {a : FX.E} : (W G (.nt a)).v ρ Q E = (W G a).v ρ (fun r ρ' => match r with
        | .d (.bool b) => Q (.d (.bool (!b))) ρ'
        | _ => False) E := rfl
theorem wo_nt {a : FX.E} : (W G (.nt a)).o ρ QO E = (W G a).v ρ (fun r ρ' => match r with
        | .d (.bool b) => QO (.v (.d (.bool (!b)))) ρ'
        | _ => False) E := rfl
theorem wm_nt {a : FX.E} : (W G (.nt a)).m ρ Q E = (W G a).v ρ (fun r ρ' => match r with
        | .d (.bool b) => Q (.d (.bool (!b))) ρ'
        | _ => False) E := rfl
theorem wt_nt {a : FX.E} : (W G (.nt a)).t ρ QT E = (W G a).t ρ (fun b ρ' => QT (!b) ρ') E := rfl
theorem wv_ite {c a b : FX.E} : (W G (.ite c a b)).v ρ Q E = (W G c).t ρ (fun k ρ' => if k = true then (W G a).v ρ' Q E else (W G b).v ρ' Q E) E := rfl
theorem wo_ite {c a b : FX.E} : (W G (.ite c a b)).o ρ QO E = (W G c).t ρ (fun k ρ' => if k = true then (W G a).v ρ' (fun r => QO (.v r)) E else (W G b).v ρ' (fun r => QO (.v r)) E) E := rfl
theorem wm_ite {c a b : FX.E} : (W G (.ite c a b)).m ρ Q E = (W G c).t ρ (fun k ρ' => if k = true then (W G a).m ρ' Q E else (W G b).m ρ' Q E) E := rfl
theorem wt_ite {c a b : FX.E} : (W G (.ite c a b)).t ρ QT E = (W G c).t ρ (fun k ρ' => if k = true then (W G a).t ρ' QT E else (W G b).t ρ' QT E) E := rfl
theorem wv_chain {f g : PF} {a b c : FX.E} : (W G (.chain f g a b c)).v ρ Q E = (W G a).o ρ (fun x ρ1 => (W G b).o ρ1 (fun y ρ2 => match gets ρ2 [x, y] with
      | none => False
      | some ds => psem f ds fun r => match r with
        | .d (.bool k) => if k = true then (W G c).o ρ2 (fun z ρ3 => match gets ρ3 [y, z] with
            | none => False
            | some es => psem g es fun r => Q r ρ3) E else Q (.d (.bool false)) ρ2
        | _ => False) E) E := rfl
theorem wm_chain {f g : PF} {a b c : FX.E} : (W G (.chain f g a b c)).m ρ Q E = (W G (.chain f g a b c)).v ρ Q E := rfl
theorem wo_chain {f g : PF} {a b c : FX.E} : (W G (.chain f g a b c)).o ρ QO E = (W G (.chain f g a b c)).v ρ (fun r ρ' => QO (.v r) ρ') E := rfl
theorem wt_chain {f g : PF} {a b c : FX.E} : (W G (.chain f g a b c)).t ρ QT E = (W G (.chain f g a b c)).v ρ (fun r ρ' => match r with
        | .d (.bool k) => QT k ρ'
        | _ => False) E := rfl
theorem wv_call {f : Nat} {as : Es} : (W G (.call f as)).v ρ Q E = (match G.fn f with
      | none => False
      | some (mask, sp) => (Ws G as).os ρ (fun os ρ' => callK mask sp os ρ' Q E) E) := rfl
theorem wm_call {f : Nat} {as : Es} : (W G (.call f as)).m ρ Q E = (W G (.call f as)).v ρ Q E := rfl
theorem wo_call {f : Nat} {as : Es} : (W G (.call f as)).o ρ QO E = (W G (.call f as)).v ρ (fun r ρ' => QO (.v r) ρ') E := rfl
theorem wt_call {f : Nat} {as : Es} : (W G (.call f as)).t ρ QT E = (W G (.call f as)).v ρ (fun r ρ' => truthK (.v r) ρ' fun b => QT b ρ') E := rfl
theorem wv_lst {as : Es} : (W G (.lst as)).v ρ Q E = (Ws G as).rs ρ (fun rs ρ' => rs.length ≤ sizeLine ∧ Q (.o (rs.map Rs.data)) ρ') E := rfl
theorem wm_lst {as : Es} : (W G (.lst as)).m ρ Q E = (Ws G as).rs ρ (fun rs ρ' => rs.length ≤ sizeLine ∧ Q (.o (rs.map Rs.data)) ρ') E := rfl
theorem wo_lst {as : Es} : (W G (.lst as)).o ρ QO E = (Ws G as).rs ρ (fun rs ρ' => rs.length ≤ sizeLine ∧ QO (.v (.o (rs.map Rs.data))) ρ') E := rfl
theorem wt_lst {as : Es} : (W G (.lst as)).t ρ QT E = (Ws G as).rs ρ (fun rs ρ' => rs.length ≤ sizeLine ∧ truthK (.v (.o (rs.map Rs.data))) ρ' fun b => QT b ρ') E := rfl
theorem wv_tup {as : Es} : (W G (.tup as)).v ρ Q E = (Ws G as).rs ρ (fun rs ρ' => rs.length ≤ sizeLine ∧ Q (.d (.tuple (rs.map Rs.data))) ρ') E := rfl
theorem wm_tup {as : Es} : (W G (.tup as)).m ρ Q E = (Ws G as).rs ρ (fun rs ρ' => rs.length ≤ sizeLine ∧ Q (.d (.tuple (rs.map Rs.data))) ρ') E := rfl
theorem wo_tup {as : Es} : (W G (.tup as)).o ρ QO E = (Ws G as).rs ρ (fun rs ρ' => rs.length ≤ sizeLine ∧ QO (.v (.d (.tuple (rs.map Rs.data)))) ρ') E := rfl
theorem wv_comp {own : List Nat} {elt : FX.E} {t : T} {it : I} {cond : Es} : (W G (.comp own elt t it cond)).v ρ Q E = (WI G it) ρ (fun xs lk ρ1 =>
      lkOk lk (wipeF own ρ1) ∧ compL lk t.put (fun ρ K => (Ws G cond).andT ρ K noX) (fun ρ K => (W G elt).v ρ K noX) own xs [] (wipeF own ρ1) fun ys ρ2 => Q (.o ys) ρ2) E := rfl
theorem wm_comp {own : List Nat} {elt : FX.E} {t : T} {it : I} {cond : Es} : (W G (.comp own elt t it cond)).m ρ Q E = (W G (.comp own elt t it cond)).v ρ Q E := rfl
theorem wo_comp {own : List Nat} {elt : FX.E} {t : T} {it : I} {cond : Es} : (W G (.comp own elt t it cond)).o ρ QO E = (W G (.comp own elt t it cond)).v ρ (fun r ρ' => QO (.v r) ρ') E := rfl
theorem wv_comp2 {own own1 : List Nat} {elt : FX.E} {t : T} {it : I} {cond : Es} {t1 : T} {it1 : I} {cond1 : Es} : (W G (.comp2 own own1 elt t it cond t1 it1 cond1)).v ρ Q E = (WI G it) ρ (fun xs lk ρ1 =>
      lkOk lk (wipeF own ρ1) ∧ compL2 lk t.put (fun ρ K => (Ws G cond).andT ρ K noX) (fun (acc : List PyData) (ρ : FE) (K : List PyData → FE → Prop) => (WI G it1) ρ (fun ys lk1 ρ2 =>
        lkOk lk1 (wipeF own1 ρ2) ∧ compL lk1 t1.put (fun ρ K => (Ws G cond1).andT ρ K noX) (fun ρ K => (W G elt).v ρ K noX) own1 ys acc (wipeF own1 ρ2) K) noX) own xs [] (wipeF own ρ1) fun ys ρ2 => Q (.o ys) ρ2) E := rfl
theorem wm_comp2 {own own1 : List Nat} {elt : FX.E} {t : T} {it : I} {cond : Es} {t1 : T} {it1 : I} {cond1 : Es} : (W G (.comp2 own own1 elt t it cond t1 it1 cond1)).m ρ Q E = (W G (.comp2 own own1 elt t it cond t1 it1 cond1)).v ρ Q E := rfl
theorem wo_comp2 {own own1 : List Nat} {elt : FX.E} {t : T} {it : I} {cond : Es} {t1 : T} {it1 : I} {cond1 : Es} : (W G (.comp2 own own1 elt t it cond t1 it1 cond1)).o ρ QO E = (W G (.comp2 own own1 elt t it cond t1 it1 cond1)).v ρ (fun r ρ' => QO (.v r) ρ') E := rfl
theorem wv_mcall {m : MF} {i : Nat} {as : Es} : (W G (.mcall m i as)).v ρ Q E = ((match at_ ρ i with
      | .o _ => True
      | _ => False) ∧ (Ws G as).rs ρ (fun rs ρ' => match at_ ρ' i with
      | .o xs => msem m xs (rs.map Rs.data) fun y xs' => Q (.d y) (ρ'.set i (.o xs'))
      | _ => False) E) := rfl
theorem wo_mcall {m : MF} {i : Nat} {as : Es} : (W G (.mcall m i as)).o ρ QO E = (W G (.mcall m i as)).v ρ (fun r ρ' => QO (.v r) ρ') E := rfl
theorem wv_meth {t : Ty} {f : PF} {a : FX.E} {as : Es} : (W G (.meth t f a as)).v ρ Q E = (W G a).o ρ (fun x ρ1 => (∃ d, x.get ρ1 = some d ∧ tyM d = t) ∧ (Ws G as).os ρ1 (fun os ρ2 => match gets ρ2 (x :: os) with
      | some ds => psem f ds fun r => Q r ρ2
      | none => False) E) E := rfl
theorem wm_meth {t : Ty} {f : PF} {a : FX.E} {as : Es} : (W G (.meth t f a as)).m ρ Q E = (W G (.meth t f a as)).v ρ Q E := rfl
theorem wo_meth {t : Ty} {f : PF} {a : FX.E} {as : Es} : (W G (.meth t f a as)).o ρ QO E = (W G (.meth t f a as)).v ρ (fun r ρ' => QO (.v r) ρ') E := rfl
theorem wv_reprL {as : Es} : (W G (.reprL as)).v ρ Q E = (Ws G as).os ρ (fun os ρ' => os.length ≤ sizeLine ∧ match gets ρ' os with
      | some ds => psem .repr [.list ds] fun r => Q r ρ'
      | none => False) E := rfl
theorem wm_reprL {as : Es} : (W G (.reprL as)).m ρ Q E = (W G (.reprL as)).v ρ Q E := rfl
theorem wo_reprL {as : Es} : (W G (.reprL as)).o ρ QO E = (W G (.reprL as)).v ρ (fun r ρ' => QO (.v r) ρ') E := rfl
theorem wv_lenS {a : FX.E} : (W G (.lenS a)).v ρ Q E = (W G a).o ρ (fun x ρ1 => match x.get ρ1 with
      | some (.list xs) => ∃ ns : List Int, xs = ns.map .int ∧ ns.length ≤ 4000 ∧ Q (.d (.int ((dedI ns).length : Nat))) ρ1
      | _ => False) E := rfl
theorem wm_lenS {a : FX.E} : (W G (.lenS a)).m ρ Q E = (W G (.lenS a)).v ρ Q E := rfl
theorem wo_lenS {a : FX.E} : (W G (.lenS a)).o ρ QO E = (W G (.lenS a)).v ρ (fun r ρ1 => QO (.v r) ρ1) E := rfl
theorem wv_new {c : Nat} {a : FX.E} : (W G (.new c a)).v ρ Q E = (W G a).v ρ (fun r ρ1 => match G.ct c with
      | some sp => sp r.data (fun z => Q (.d (objD c z)) ρ1) fun x => E x ρ1
      | none => False) E := rfl
theorem wm_new {c : Nat} {a : FX.E} : (W G (.new c a)).m ρ Q E = (W G (.new c a)).v ρ Q E := rfl
theorem wo_new {c : Nat} {a : FX.E} : (W G (.new c a)).o ρ QO E = (W G (.new c a)).v ρ (fun r ρ1 => QO (.v r) ρ1) E := rfl
theorem wv_fld {c : Nat} {a : FX.E} : (W G (.fld a c)).v ρ Q E = (W G a).v ρ (fun r ρ1 => match objOf r.data with
      | some (c', z) => c' = c ∧ Q (.d (.str z)) ρ1
      | none => False) E := rfl
theorem wm_fld {c : Nat} {a : FX.E} : (W G (.fld a c)).m ρ Q E = (W G (.fld a c)).v ρ Q E := rfl
theorem wo_fld {c : Nat} {a : FX.E} : (W G (.fld a c)).o ρ QO E = (W G (.fld a c)).v ρ (fun r ρ1 => QO (.v r) ρ1) E := rfl
theorem wi_fld {c : Nat} {a : FX.E} {QI : List PyData → Lk → FE → Prop} : WI G (.seq (.fld a c)) ρ QI E = (W G (.fld a c)).v ρ (fun r ρ' => match itemsOf r.data with
      | some xs => QI xs [] ρ'
      | none => False) E := rfl
theorem wv_mo {k : MO} {as : Es} : (W G (.mo k as)).v ρ Q E = (Ws G as).rs ρ (fun rs ρ1 => moR G.mt k (rs.map Rs.data) (fun r => Q r ρ1) fun x => E x ρ1) E := rfl
theorem wm_mo {k : MO} {as : Es} : (W G (.mo k as)).m ρ Q E = (W G (.mo k as)).v ρ Q E := rfl
theorem wo_mo {k : MO} {as : Es} : (W G (.mo k as)).o ρ QO E = (W G (.mo k as)).v ρ (fun r ρ1 => QO (.v r) ρ1) E := rfl
theorem wt_mo {k : MO} {as : Es} : (W G (.mo k as)).t ρ QT E = (W G (.mo k as)).v ρ (fun r ρ' => truthK (.v r) ρ' fun b => QT b ρ') E := rfl
theorem wi_mo {k : MO} {as : Es} {QI : List PyData → Lk → FE → Prop} : WI G (.seq (.mo k as)) ρ QI E = (W G (.mo k as)).v ρ (fun r ρ' => match itemsOf r.data with
      | some xs => QI xs [] ρ'
      | none => False) E := rfl
theorem wv_isO {c : Nat} {a : FX.E} : (W G (.isO a c)).v ρ Q E = (W G a).v ρ (fun r ρ1 => eqOk r.data = true ∧ Q (.d (.bool (match objOf r.data with
      | some (c', _) => c' == c
      | none => false))) ρ1) E := rfl
theorem wm_isO {c : Nat} {a : FX.E} : (W G (.isO a c)).m ρ Q E = (W G (.isO a c)).v ρ Q E := rfl
theorem wo_isO {c : Nat} {a : FX.E} : (W G (.isO a c)).o ρ QO E = (W G (.isO a c)).v ρ (fun r ρ1 => QO (.v r) ρ1) E := rfl
theorem wt_isO {c : Nat} {a : FX.E} : (W G (.isO a c)).t ρ QT E = (W G (.isO a c)).v ρ (fun r ρ' => truthK (.v r) ρ' fun b => QT b ρ') E := rfl
theorem wv_isT {t : Ty} {a : FX.E} : (W G (.isT t a)).v ρ Q E = (W G a).v ρ (fun r ρ1 => eqOk r.data = true ∧ Q (.d (.bool (match objOf r.data with
      | some _ => false
      | none => isTy t r.data))) ρ1) E := rfl
theorem wm_isT {t : Ty} {a : FX.E} : (W G (.isT t a)).m ρ Q E = (W G (.isT t a)).v ρ Q E := rfl
theorem wo_isT {t : Ty} {a : FX.E} : (W G (.isT t a)).o ρ QO E = (W G (.isT t a)).v ρ (fun r ρ1 => QO (.v r) ρ1) E := rfl
theorem wt_isT {t : Ty} {a : FX.E} : (W G (.isT t a)).t ρ QT E = (W G (.isT t a)).v ρ (fun r ρ' => truthK (.v r) ρ' fun b => QT b ρ') E := rfl
theorem wv_smul {a b : FX.E} : (W G (.smul a b)).v ρ Q E = (W G a).o ρ (fun x ρ1 => (W G b).o ρ1 (fun y ρ2 => match gets ρ2 [x, y] with
      | some [.str z, .int j] => -(2 ^ 63) ≤ j ∧ j < 2 ^ 63 ∧ z.length * j.toNat ≤ sizeLine ∧ Q (.d (.str (repS z j.toNat))) ρ2
      | _ => False) E) E := rfl
theorem wm_smul {a b : FX.E} : (W G (.smul a b)).m ρ Q E = (W G (.smul a b)).v ρ Q E := rfl
theorem wo_smul {a b : FX.E} : (W G (.smul a b)).o ρ QO E = (W G (.smul a b)).v ρ (fun r ρ1 => QO (.v r) ρ1) E := rfl
theorem oo_objD {c : Nat} {z : Str} : objOf (objD c z) = some (c, z) := rfl
theorem eo_objD {c : Nat} {z : Str} : eqOk (objD c z) = true := rfl
theorem eo_n : eqOk .none = true := rfl
theorem eo_b {b : Bool} : eqOk (.bool b) = true := rfl
theorem eo_i {b : Int} : eqOk (.int b) = true := rfl
theorem eo_s {b : Str} : eqOk (.str b) = true := rfl
theorem eo_l {b : List PyData} : eqOk (.list b) = true := rfl
theorem eo_t {b : List PyData} : eqOk (.tuple b) = true := rfl
theorem oo_n : objOf .none = none := rfl
theorem oo_b {b : Bool} : objOf (.bool b) = none := rfl
theorem oo_i {b : Int} : objOf (.int b) = none := rfl
theorem oo_s {b : Str} : objOf (.str b) = none := rfl
theorem oo_l {b : List PyData} : objOf (.list b) = none := rfl
theorem oo_tu {b : List PyData} : objOf (.tuple b) = none := rfl
section
variable {mt : Nat → Str → Option (List Bool × FSp)} {QM : Rs → Prop} {EM : Exc → Prop}
/-- a promise over arguments that are all plain data -/
def PureD (p : List PyData → (Rs → Prop) → Prop) : FSp := fun args Q _ => ∃ ds : List PyData, args = ds.map .d ∧ p ds fun r => Q r args
/-- a method's call, its operands read -/
def meK (mask : List Bool) (sp : FSp) (ds : List PyData) (QM : Rs → Prop) (EM : Exc → Prop) : Prop := mask.length = ds.length ∧ sp (ds.map .d) (fun r _ => QM r) (fun x _ => EM x)
theorem me_ob {m : Str} {c : Nat} {z : Str} {ds : List PyData} : meR mt m (objD c z :: ds) QM EM = (match mt c m with
    | none => False
    | some (mask, sp) => meK mask sp (objD c z :: ds) QM EM) := rfl
theorem meK_D {p : List PyData → (Rs → Prop) → Prop} {mask : List Bool} {ds : List PyData} (hl : mask.length = ds.length) (h : p ds QM) : meK mask (PureD p) ds QM EM := ⟨hl, ds, rfl, h⟩
theorem mo_neg {x : PyData} : moR mt .neg [x] QM EM = meR mt "__neg__" [x] QM EM := rfl
theorem mo_add {c : Nat} {z t : Str} : moR mt .add [objD c z, objD c t] QM EM = meR mt "__add__" [objD c z, objD c t] QM EM := propext ⟨fun h => h.2, fun h => ⟨⟨_, _, _, rfl, rfl⟩, h⟩⟩
theorem mo_mul {x : PyData} {n : Int} : moR mt .mul [x, .int n] QM EM = meR mt "__mul__" [x, .int n] QM EM := propext ⟨fun h => h.2, fun h => ⟨⟨_, rfl⟩, h⟩⟩
theorem mo_call {ds : List PyData} : moR mt .call ds QM EM = meR mt "__call__" ds QM EM := by cases ds <;> rfl
theorem mo_prop {f : Str} {x : PyData} : moR mt (.prop f) [x] QM EM = meR mt f [x] QM fun _ => False := rfl
theorem mo_len {x : PyData} : moR mt .len [x] QM EM = meR mt "__len__" [x] (fun r => ∃ n : Int, r = .d (.int n) ∧ 0 ≤ n ∧ n < 2 ^ 63 ∧ QM (.d (.int n))) fun _ => False := rfl
theorem mo_item {x y : PyData} : moR mt .item [x, y] QM EM = meR mt "__getitem__" [x, y] QM EM := rfl
theorem mo_inn {x y : PyData} : moR mt .inn [y, x] QM EM = meR mt "__contains__" [x, y] (fun r => ∃ b, r = .d (.bool b) ∧ QM (.d (.bool b))) fun _ => False := rfl
theorem mo_eq {x y : PyData} : moR mt .eq [x, y] QM EM = (eqOk y = true ∧ meR mt "__eq__" [x, y] (fun r => ∃ b, r = .d (.bool b) ∧ QM (.d (.bool b))) fun _ => False) := rfl
theorem mo_ne {x y : PyData} : moR mt .ne [x, y] QM EM = (eqOk y = true ∧ meR mt "__eq__" [x, y] (fun r => ∃ b, r = .d (.bool b) ∧ QM (.d (.bool (!b)))) fun _ => False) := rfl
end
theorem wv_litD {k : PyData} {n : Int} : (W G (.litD k n)).v ρ Q E = (litk [(k, .int n)] = true ∧ Q (.d (.dict [(k, .int n)])) ρ) := rfl
theorem wm_litD {k : PyData} {n : Int} : (W G (.litD k n)).m ρ Q E = (litk [(k, .int n)] = true ∧ Q (.d (.dict [(k, .int n)])) ρ) := rfl
theorem wo_litD {k : PyData} {n : Int} : (W G (.litD k n)).o ρ QO E = (litk [(k, .int n)] = true ∧ QO (.v (.d (.dict [(k, .int n)]))) ρ) := rfl
theorem wv_dct0 : (W G .dct0).v ρ Q E = Q (.t []) ρ := rfl
theorem wo_dct0 : (W G .dct0).o ρ QO E = QO (.v (.t [])) ρ := rfl
theorem wv_dct1 {a b : FX.E} : (W G (.dct1 a b)).v ρ Q E = (W G a).v ρ (fun x ρ1 => (W G b).v ρ1 (fun y ρ2 => keyOk x.data = true ∧ scalar y.data = true ∧ Q (.t [(x.data, y.data)]) ρ2) E) E := rfl
theorem wv_dupd {i : Nat} {a : FX.E} : (W G (.dupd i a)).v ρ Q E = ((match at_ ρ i with
      | .t _ => True
      | _ => False) ∧ (W G a).v ρ (fun x ρ1 => match x.data, at_ ρ1 i with
      | .dict more, .t kvs => dkd more = true ∧ kvs ≠ [] ∧ kvs.length + more.length ≤ sizeLine ∧ Q (.d .none) (ρ1.set i (.t (mergeD kvs more)))
      | _, _ => False) E) := rfl
theorem wo_dupd {i : Nat} {a : FX.E} : (W G (.dupd i a)).o ρ QO E = (W G (.dupd i a)).v ρ (fun r ρ' => QO (.v r) ρ') E := rfl
theorem wv_sl {a l h : FX.E} : (W G (.sl a l h)).v ρ Q E = (W G a).o ρ (fun x ρ1 => (W G l).v ρ1 (fun r ρ2 => match r with
      | .d (.int i) => (W G h).v ρ2 (fun r2 ρ3 => match r2 with
        | .d (.int j) => (match x.get ρ3 with
          | some p => sliceD p (some i) (some j) fun r => Q r ρ3
          | none => False)
        | _ => False) E
      | _ => False) E) E := rfl
theorem wm_sl {a l h : FX.E} : (W G (.sl a l h)).m ρ Q E = (W G (.sl a l h)).v ρ Q E := rfl
theorem wo_sl {a l h : FX.E} : (W G (.sl a l h)).o ρ QO E = (W G (.sl a l h)).v ρ (fun r ρ' => QO (.v r) ρ') E := rfl
theorem ws_nil_os {QS : List Op → FE → Prop} : (Ws G .nil).os ρ QS E = QS [] ρ := rfl
theorem ws_nil_rs {QS : List Rs → FE → Prop} : (Ws G .nil).rs ρ QS E = QS [] ρ := rfl
theorem ws_nil_andT : (Ws G .nil).andT ρ QT E = QT true ρ := rfl
theorem ws_nil_orT : (Ws G .nil).orT ρ QT E = QT false ρ := rfl
theorem ws_os {a : FX.E} {as : Es} {QS : List Op → FE → Prop} : (Ws G (.cons a as)).os ρ QS E = (W G a).o ρ (fun x ρ1 => (Ws G as).os ρ1 (fun xs ρ2 => QS (x :: xs) ρ2) E) E := rfl
theorem ws_rs {a : FX.E} {as : Es} {QS : List Rs → FE → Prop} : (Ws G (.cons a as)).rs ρ QS E = (W G a).v ρ (fun x ρ1 => (Ws G as).rs ρ1 (fun xs ρ2 => QS (x :: xs) ρ2) E) E := rfl
theorem ws_andT {a : FX.E} {as : Es} : (Ws G (.cons a as)).andT ρ QT E = (W G a).t ρ (fun b ρ1 => if b = true then (Ws G as).andT ρ1 QT E else QT false ρ1) E := rfl
theorem ws_orT {a : FX.E} {as : Es} : (Ws G (.cons a as)).orT ρ QT E = (W G a).t ρ (fun b ρ1 => if b = true then QT true ρ1 else (Ws G as).orT ρ1 QT E) E := rfl
theorem ws_andV1 {a : FX.E} : (Ws G (.cons a .nil)).andV ρ Q E = (W G a).v ρ Q E := rfl
theorem ws_orV1 {a : FX.E} : (Ws G (.cons a .nil)).orV ρ Q E = (W G a).v ρ Q E := rfl
theorem ws_andV {a b : FX.E} {as : Es} : (Ws G (.cons a (.cons b as))).andV ρ Q E = (W G a).v ρ (fun r ρ1 => match r with
          | .d (.bool c) => if c = true then (Ws G (.cons b as)).andV ρ1 Q E else Q (.d (.bool false)) ρ1
          | _ => False) E := rfl
theorem ws_orV {a b : FX.E} {as : Es} : (Ws G (.cons a (.cons b as))).orV ρ Q E = (W G a).v ρ (fun r ρ1 => match r with
          | .d (.bool c) => if c = true then Q (.d (.bool true)) ρ1 else (Ws G (.cons b as)).orV ρ1 Q E
          | _ => False) E := rfl
theorem wi_var {i : Nat} {QI : List PyData → Lk → FE → Prop} : WI G (.seq (.var i)) ρ QI E = (match (at_ ρ i).data with
      | some (.dict kvs) => dkd kvs = true ∧ QI (kvs.map (·.1)) [] (ρ.set i (.d (.dict kvs)))
      | some x => (match itemsOf x with
        | some xs => QI xs [(i, at_ ρ i)] ρ
        | none => False)
      | none => False) := rfl
theorem wi_items {a : FX.E} {QI : List PyData → Lk → FE → Prop} : WI G (.items a) ρ QI E = (W G a).v ρ (fun r ρ' => match r.data with
      | .dict kvs => dkd kvs = true ∧ QI (pairsD kvs) [] ρ'
      | _ => False) E := rfl
theorem wi_ite {c a b : FX.E} {QI : List PyData → Lk → FE → Prop} : WI G (.seq (.ite c a b)) ρ QI E = (W G (.ite c a b)).v ρ (fun r ρ' => match itemsOf r.data with
      | some xs => QI xs [] ρ'
      | none => False) E := rfl
theorem wi_call {f : Nat} {as : Es} {QI : List PyData → Lk → FE → Prop} : WI G (.seq (.call f as)) ρ QI E = (W G (.call f as)).v ρ (fun r ρ' => match itemsOf r.data with
      | some xs => QI xs [] ρ'
      | none => False) E := rfl
theorem wi_prim {f : PF} {as : Es} {QI : List PyData → Lk → FE → Prop} : WI G (.seq (.prim f as)) ρ QI E = (W G (.prim f as)).v ρ (fun r ρ' => match itemsOf r.data with
      | some xs => QI xs [] ρ'
      | none => False) E := rfl
theorem wi_lst {as : Es} {QI : List PyData → Lk → FE → Prop} : WI G (.seq (.lst as)) ρ QI E = (W G (.lst as)).v ρ (fun r ρ' => match itemsOf r.data with
      | some xs => QI xs [] ρ'
      | none => False) E := rfl
theorem wi_tup {as : Es} {QI : List PyData → Lk → FE → Prop} : WI G (.seq (.tup as)) ρ QI E = (W G (.tup as)).v ρ (fun r ρ' => match itemsOf r.data with
      | some xs => QI xs [] ρ'
      | none => False) E := rfl
theorem wi_meth {t : Ty} {f : PF} {a : FX.E} {as : Es} {QI : List PyData → Lk → FE → Prop} : WI G (.seq (.meth t f a as)) ρ QI E = (W G (.meth t f a as)).v ρ (fun r ρ' => match itemsOf r.data with
      | some xs => QI xs [] ρ'
      | none => False) E := rfl
theorem wi_sl {a l h : FX.E} {QI : List PyData → Lk → FE → Prop} : WI G (.seq (.sl a l h)) ρ QI E = (W G (.sl a l h)).v ρ (fun r ρ' => match itemsOf r.data with
      | some xs => QI xs [] ρ'
      | none => False) E := rfl
theorem wi_comp {own : List Nat} {elt : FX.E} {t : T} {it : I} {cond : Es} {QI : List PyData → Lk → FE → Prop} : WI G (.seq (.comp own elt t it cond)) ρ QI E = (W G (.comp own elt t it cond)).v ρ (fun r ρ' => match itemsOf r.data with
      | some xs => QI xs [] ρ'
      | none => False) E := rfl
theorem wi_comp2 {own own1 : List Nat} {elt : FX.E} {t : T} {it : I} {cond : Es} {t1 : T} {it1 : I} {cond1 : Es} {QI : List PyData → Lk → FE → Prop} : WI G (.seq (.comp2 own own1 elt t it cond t1 it1 cond1)) ρ QI E = (W G (.comp2 own own1 elt t it cond t1 it1 cond1)).v ρ (fun r ρ' => match itemsOf r.data with
      | some xs => QI xs [] ρ'
      | none => False) E := rfl
theorem wi_dct0  {QI : List PyData → Lk → FE → Prop} : WI G (.seq (.dct0)) ρ QI E = (W G (.dct0)).v ρ (fun r ρ' => match itemsOf r.data with
      | some xs => QI xs [] ρ'
      | none => False) E := rfl
theorem wi_reprL {as : Es} {QI : List PyData → Lk → FE → Prop} : WI G (.seq (.reprL as)) ρ QI E = (W G (.reprL as)).v ρ (fun r ρ' => match itemsOf r.data with
      | some xs => QI xs [] ρ'
      | none => False) E := rfl
theorem wm_glob {g : Nat} : (W G (.glob g)).m ρ Q E = (W G (.glob g)).v ρ Q E := rfl
theorem wi_cst {c : PyData} {QI : List PyData → Lk → FE → Prop} : WI G (.seq (.cst c)) ρ QI E = (match itemsOf c with
      | some xs => QI xs [] ρ
      | none => False) := rfl
theorem wi_glob {g : Nat} {QI : List PyData → Lk → FE → Prop} : WI G (.seq (.glob g)) ρ QI E = (match G.con g with
      | some c => (match itemsOf c with
        | some xs => QI xs [] ρ
        | none => False)
      | none => False) := rfl
theorem wi_rng1 {a : FX.E} {QI : List PyData → Lk → FE → Prop} : WI G (.rng1 a) ρ QI E = (W G a).o ρ (fun x ρ' => match x.get ρ' with
      | some (.int j) => -(2 ^ 62) ≤ j ∧ j < 2 ^ 62 ∧ QI (rangeD 0 j.toNat) [] ρ'
      | _ => False) E := rfl
theorem wi_rng2 {a b : FX.E} {QI : List PyData → Lk → FE → Prop} : WI G (.rng2 a b) ρ QI E = (W G a).o ρ (fun x ρ1 => (W G b).o ρ1 (fun y ρ2 => match gets ρ2 [x, y] with
      | some [.int i, .int j] => -(2 ^ 62) ≤ i ∧ i < 2 ^ 62 ∧ -(2 ^ 62) ≤ j ∧ j < 2 ^ 62 ∧ QI (rangeD i (j - i).toNat) [] ρ2
      | _ => False) E) E := rfl
theorem wi_zip {a b : FX.E} {QI : List PyData → Lk → FE → Prop} : WI G (.zip a b) ρ QI E = (W G a).o ρ (fun x ρ1 => (W G b).o ρ1 (fun y ρ2 => match gets ρ2 [x, y] with
      | some [.list xs, .list ys] => QI (zipD xs ys) (lkOf x ρ2 ++ lkOf y ρ2) ρ2
      | _ => False) E) E := rfl
theorem wi_enumZ {a b : FX.E} {QI : List PyData → Lk → FE → Prop} : WI G (.enumZ a b) ρ QI E = (W G a).o ρ (fun x ρ1 => (W G b).o ρ1 (fun y ρ2 => match gets ρ2 [x, y] with
      | some [.str s, .str t] => QI (enumD (zipD (strChars s) (strChars t)) 0) [] ρ2
      | _ => False) E) E := rfl
theorem wi_enum {a : FX.E} {QI : List PyData → Lk → FE → Prop} : WI G (.enum a) ρ QI E = (W G a).o ρ (fun x ρ' => match x.get ρ' with
      | some (.list xs) => QI (enumD xs 0) (lkOf x ρ') ρ'
      | some (.str z) => QI (enumD (strChars z) 0) [] ρ'
      | _ => False) E := rfl
theorem wi_rngD {a b : FX.E} {QI : List PyData → Lk → FE → Prop} : WI G (.rngD a b) ρ QI E = (W G a).o ρ (fun x ρ1 => (W G b).o ρ1 (fun y ρ2 => match gets ρ2 [x, y] with
      | some [.int i, .int j] => -(2 ^ 62) ≤ i ∧ i < 2 ^ 62 ∧ -(2 ^ 62) ≤ j ∧ j < 2 ^ 62 ∧ QI (rangeN i (i - j).toNat) [] ρ2
      | _ => False) E) E := rfl
theorem s_skip : WS G .skip ρ D = D.nx ρ := rfl
theorem s_pass : WS G .pass ρ D = D.nx ρ := rfl
theorem s_brk : WS G .brk ρ D = D.bk ρ := rfl
theorem s_cnt : WS G .cnt ρ D = D.ct ρ := rfl
theorem s_never : WS G .never ρ D = False := rfl
theorem s_seq {a b : S} : WS G (.seq a b) ρ D = WS G a ρ { D with nx := fun ρ1 => WS G b ρ1 D } := rfl
theorem s_ex {e : FX.E} : WS G (.ex e) ρ D = (W G e).o ρ (fun _ ρ1 => D.nx ρ1) D.ex := rfl
theorem s_asg {t : T} {e : FX.E} : WS G (.asg t e) ρ D = (W G e).v ρ (fun r ρ1 => match t.store r ρ1 with
      | some ρ2 => D.nx ρ2
      | none => False) D.ex := rfl
theorem s_asgT {ts : Ts} {es : Es} : WS G (.asgT ts es) ρ D = (Ws G es).rs ρ (fun rs ρ1 => match ts.store rs ρ1 with
      | some ρ2 => D.nx ρ2
      | none => False) D.ex := rfl
theorem s_aug {i : Nat} {f : PF} {e : FX.E} : WS G (.aug i f e) ρ D = (match at_ ρ i with
      | .d (.int m) => (W G e).o ρ (fun y ρ1 => match y.get ρ1, f with
          | some (.int n), .add => D.nx (ρ1.set i (.d (.int (m + n))))
          | some (.int n), .sub => D.nx (ρ1.set i (.d (.int (m - n))))
          | _, _ => False) D.ex
      | .d (.str s) => f = .add ∧ (W G e).o ρ (fun y ρ1 => match y.get ρ1 with
          | some (.str t) => s.length + t.length ≤ sizeLine ∧ D.nx (ρ1.set i (.d (.str (s ++ t))))
          | _ => False) D.ex
      | .o _ => f = .add ∧ (W G e).o ρ (fun y ρ1 => match y.get ρ1, at_ ρ1 i with
          | some (.list ys), .o xs => xs.length + ys.length ≤ sizeLine ∧ D.nx (ρ1.set i (.o (xs ++ ys)))
          | _, _ => False) D.ex
      | _ => False) := rfl
theorem s_setI {i : Nat} {ix e : FX.E} : WS G (.setI i ix e) ρ D = (W G e).v ρ (fun r ρ1 => (match at_ ρ1 i with
      | .o _ => True
      | .t _ => True
      | _ => False) ∧ (W G ix).o ρ1 (fun y ρ2 => match y.get ρ2, at_ ρ2 i with
      | some (.int j), .o xs => ∃ n, L2.ixN xs.length j = some n ∧ D.nx (ρ2.set i (.o (xs.set n r.data)))
      | some k, .t kvs => keyOk k = true ∧ scalar r.data = true ∧ kvs.length < sizeLine ∧ D.nx (ρ2.set i (.t (dputK kvs k r.data)))
      | _, _ => False) D.ex) D.ex := rfl
theorem s_ifs {c : FX.E} {a b : S} : WS G (.ifs c a b) ρ D = (W G c).t ρ (fun k ρ1 => if k = true then WS G a ρ1 D else WS G b ρ1 D) D.ex := rfl
theorem s_fr {t : T} {it : I} {b : S} : WS G (.fr t it b) ρ D = WI G it ρ (fun xs lk ρ1 => lkFree lk (t.vars ++ b.asgs) = true ∧
      forL lk t.put (fun ρ K => WS G b ρ { nx := K, ct := K, bk := D.nx, rt := D.rt, ex := D.ex }) D.nx xs ρ1) D.ex := rfl
theorem s_cut {a b : S} (P : FE → Prop) (h2 : ∀ ρ', P ρ' → WS G b ρ' D) (h1 : ∀ N : FE → Prop, (∀ ρ', P ρ' → N ρ') → WS G a ρ { D with nx := N }) : WS G (.seq a b) ρ D := h1 _ h2
theorem s_ret {e : FX.E} : WS G (.ret e) ρ D = (W G e).m ρ D.rt D.ex := rfl
theorem s_retv {e : FX.E} : WS G (.retv e) ρ D = (W G e).v ρ D.rt D.ex := rfl
theorem s_setI2 {i : Nat} {ix iy e : FX.E} : WS G (.setI2 i ix iy e) ρ D = (W G e).v ρ (fun r ρ1 => match r.data with
      | .tuple [x, y] => setK (W G ix).o i x ρ1 (fun ρ2 => setK (W G iy).o i y ρ2 D.nx D.ex) D.ex
      | _ => False) D.ex := rfl
theorem setK_eq {wo : FE → (Op → FE → Prop) → KX → Prop} {i : Nat} {d : PyData} {K : FE → Prop} {Ex : KX} : setK wo i d ρ K Ex = ((match at_ ρ i with
  | .o _ => True
  | _ => False) ∧ wo ρ (fun y ρ2 => match y.get ρ2, at_ ρ2 i with
    | some (.int j), .o xs => ∃ n, L2.ixN xs.length j = some n ∧ K (ρ2.set i (.o (xs.set n d)))
    | _, _ => False) Ex) := rfl
theorem s_rais {c : Nat} : WS G (.rais c .nil) ρ D = D.ex ⟨c, none⟩ ρ := rfl
theorem s_tryR {b : S} {c i : Nat} {h : HX} : WS G (.tryR b c i h) ρ D = WS G b ρ { D with ex := fun x ρ1 => if G.sub x.cls c = true then h.run G.sub x (fun s => D.rt (.d (.str s)) ρ1) else D.ex x ρ1 } := rfl
theorem s_retN : WS G .retN ρ D = D.rt (.d .none) ρ := rfl
/-! ### slots, operands -/
theorem at_0 {s : Sl} : at_ (s :: ρ) 0 = s := rfl
theorem at_s {s : Sl} {i : Nat} : at_ (s :: ρ) (i + 1) = at_ ρ i := rfl
theorem get_v {r : Rs} : (Op.v r).get ρ = some r.data := rfl
theorem get_s {i : Nat} : (Op.s i).get ρ = (at_ ρ i).data := rfl
theorem gets_nil : gets ρ [] = some [] := rfl
theorem gets_cons {o : Op} {os : List Op} : gets ρ (o :: os) = (match o.get ρ, gets ρ os with
    | some x, some xs => some (x :: xs)
    | _, _ => none) := rfl
theorem sld_d {x : PyData} : (Sl.d x).data = some x := rfl
theorem sld_o {x : List PyData} : (Sl.o x).data = some (.list x) := rfl
theorem sld_tt {x : List (PyData × PyData)} : (Sl.t x).data = some (.dict x) := rfl
theorem sld_no : Sl.no.data = none := rfl
theorem rsd_d {x : PyData} : (Rs.d x).data = x := rfl
theorem rsd_o {x : List PyData} : (Rs.o x).data = .list x := rfl
theorem rsd_t {x : List (PyData × PyData)} : (Rs.t x).data = .dict x := rfl
theorem rss_t {x : List (PyData × PyData)} : (Rs.t x).sl = .t x := rfl
theorem slr_t {x : List (PyData × PyData)} : (Sl.t x).rs = some (.t x) := rfl
theorem st_nmt {i : Nat} {x : List (PyData × PyData)} : (T.nm i).store (.t x) ρ = some (ρ.set i (.t x)) := rfl
theorem rss_d {x : PyData} : (Rs.d x).sl = .d x := rfl
theorem rss_o {x : List PyData} : (Rs.o x).sl = .o x := rfl
theorem slr_d {x : PyData} : (Sl.d x).rs = some (.d x) := rfl
theorem slr_o {x : List PyData} : (Sl.o x).rs = some (.o x) := rfl
theorem st_nmd {i : Nat} {x : PyData} : (T.nm i).store (.d x) ρ = some (ρ.set i (.d x)) := rfl
theorem st_nmo {i : Nat} {x : List PyData} : (T.nm i).store (.o x) ρ = some (ρ.set i (.o x)) := rfl
theorem st_tp {ts : Ts} {xs : List PyData} : (T.tp ts).store (.d (.tuple xs)) ρ = ts.put xs ρ := rfl
theorem pt_nm {i : Nat} {x : PyData} : (T.nm i).put x ρ = some (ρ.set i (.d x)) := rfl
theorem pt_tp {ts : Ts} {xs : List PyData} : (T.tp ts).put (.tuple xs) ρ = ts.put xs ρ := rfl
theorem pts_nil' : Ts.nil.put [] ρ = some ρ := rfl
theorem pts_cons {t : T} {ts : Ts} {x : PyData} {xs : List PyData} : (Ts.cons t ts).put (x :: xs) ρ = (t.put x ρ).bind fun ρ' => ts.put xs ρ' := rfl
theorem sts_nil' : Ts.nil.store [] ρ = some ρ := rfl
theorem sts_cons {t : T} {ts : Ts} {x : Rs} {xs : List Rs} : (Ts.cons t ts).store (x :: xs) ρ = (t.store x ρ).bind fun ρ' => ts.store xs ρ' := rfl
theorem pa_nil' : passArgs [] [] ρ = some ([], ρ) := rfl
theorem pa_vt {bs : List Bool} {r : Rs} {os : List Op} : passArgs (true :: bs) (.v r :: os) ρ = (passArgs bs os ρ).map fun p => ((r, none) :: p.1, p.2) := rfl
theorem pa_vf {bs : List Bool} {r : Rs} {os : List Op} : passArgs (false :: bs) (.v r :: os) ρ = (passArgs bs os ρ).map fun p => ((.d r.data, none) :: p.1, p.2) := rfl
theorem pa_st {bs : List Bool} {i : Nat} {os : List Op} : passArgs (true :: bs) (.s i :: os) ρ = (match at_ ρ i with
    | .no => none
    | .h _ => none
    | .d x => (passArgs bs os ρ).map fun p => ((.d x, none) :: p.1, p.2)
    | .o xs => (passArgs bs os (ρ.set i .no)).map fun p => ((.o xs, some i) :: p.1, p.2)
    | .t xs => (passArgs bs os (ρ.set i .no)).map fun p => ((.t xs, some i) :: p.1, p.2)) := rfl
theorem pa_sf {bs : List Bool} {i : Nat} {os : List Op} : passArgs (false :: bs) (.s i :: os) ρ = (match at_ ρ i with
    | .no => none
    | .h _ => none
    | .d x => (passArgs bs os ρ).map fun p => ((.d x, none) :: p.1, p.2)
    | .o xs => (passArgs bs os (ρ.set i (.d (.list xs)))).map fun p => ((.d (.list xs), none) :: p.1, p.2)
    | .t xs => (passArgs bs os (ρ.set i (.d (.dict xs)))).map fun p => ((.d (.dict xs), none) :: p.1, p.2)) := rfl
theorem bi_s {p : Rs} {i : Nat} {ps : List (Rs × Option Nat)} {r : Rs} {rs : List Rs} : backIo ((p, some i) :: ps) (r :: rs) ρ = backIo ps rs (ρ.set i r.sl) := rfl
theorem bi_n {p : Rs} {ps : List (Rs × Option Nat)} {r : Rs} {rs : List Rs} : backIo ((p, none) :: ps) (r :: rs) ρ = backIo ps rs ρ := rfl
theorem bi_nil {rs : List Rs} : backIo [] rs ρ = ρ := by cases rs <;> rfl
theorem oo_nil : outsOf [] [] ρ = some [] := rfl
theorem oo_t {bs : List Bool} {a : Rs} {as : List Rs} {s : Sl} : outsOf (true :: bs) (a :: as) (s :: ρ) = (match s.rs, outsOf bs as ρ with
    | some r, some rs => some (r :: rs)
    | _, _ => none) := rfl
theorem oo_f {bs : List Bool} {a : Rs} {as : List Rs} {s : Sl} : outsOf (false :: bs) (a :: as) (s :: ρ) = (outsOf bs as ρ).map fun rs => a :: rs := rfl
theorem tk_b {b : Bool} {P : Bool → Prop} : truthK (.v (.d (.bool b))) ρ P = (True ∧ P b) := rfl
theorem tk_i {i : Int} {P : Bool → Prop} : truthK (.v (.d (.int i))) ρ P = (True ∧ P (i != 0)) := rfl
theorem tk_s {i : Nat} {P : Bool → Prop} : truthK (.s i) ρ P = (match (at_ ρ i).data with
  | some x => lenOk x ∧ (match truth x with
    | some b => P b
    | none => False)
  | none => False) := rfl
theorem tr_b {b : Bool} : truth (.bool b) = some b := rfl
theorem tr_i {i : Int} : truth (.int i) = some (i != 0) := rfl
theorem tr_l {xs : List PyData} : truth (.list xs) = some (!xs.isEmpty) := rfl
theorem tr_s {s : Str} : truth (.str s) = some ((s.length : Int) != 0) := rfl
theorem lo_b {b : Bool} : lenOk (.bool b) = True := rfl
theorem lo_i {b : Int} : lenOk (.int b) = True := rfl
theorem lo_l {b : List PyData} : lenOk (.list b) = True := rfl
theorem lo_s {b : Str} : lenOk (.str b) = (b.length ≤ sizeLine) := rfl
theorem io_l {xs : List PyData} : itemsOf (.list xs) = some xs := rfl
theorem io_t {xs : List PyData} : itemsOf (.tuple xs) = some xs := rfl
theorem io_s {z : Str} : itemsOf (.str z) = some (strChars z) := rfl
theorem set_0 {s u : Sl} : List.set (s :: ρ) 0 u = u :: ρ := rfl
theorem set_s {s u : Sl} {i : Nat} : List.set (s :: ρ) (i + 1) u = s :: List.set ρ i u := rfl
theorem isd_n : isDict .none = false := rfl
theorem isd_b {b : Bool} : isDict (.bool b) = false := rfl
theorem isd_i {i : Int} : isDict (.int i) = false := rfl
theorem isd_s {x : Str} : isDict (.str x) = false := rfl
theorem isd_l {xs : List PyData} : isDict (.list xs) = false := rfl
theorem isd_t {xs : List PyData} : isDict (.tuple xs) = false := rfl
theorem ist_ii {i : Int} : isTy .int (.int i) = true := rfl
theorem ist_ib {i : Bool} : isTy .int (.bool i) = true := rfl
theorem ist_bi {i : Int} : isTy .bool (.int i) = false := rfl
theorem ist_bb {i : Bool} : isTy .bool (.bool i) = true := rfl
theorem ist_ll {xs : List PyData} : isTy .list (.list xs) = true := rfl
theorem ist_tl {xs : List PyData} : isTy .tuple (.list xs) = false := rfl
theorem ist_tt {xs : List PyData} : isTy .tuple (.tuple xs) = true := rfl
theorem ist_lt {xs : List PyData} : isTy .list (.tuple xs) = false := rfl
theorem ist_ss {x : Str} : isTy .str (.str x) = true := rfl
theorem ist_si {x : Int} : isTy .str (.int x) = false := rfl
theorem ist_is {x : Str} : isTy .int (.str x) = false := rfl
theorem ist_sl {x : List PyData} : isTy .str (.list x) = false := rfl
theorem ist_il {x : List PyData} : isTy .int (.list x) = false := rfl
theorem ist_ls {x : Str} : isTy .list (.str x) = false := rfl
theorem lk_nil : lkOk [] ρ = True := rfl
theorem lk_cons {p : Nat × Sl} {r : Lk} : lkOk (p :: r) ρ = (at_ ρ p.1 = p.2 ∧ lkOk r ρ) := rfl
theorem wf_nil : wipeF [] ρ = ρ := rfl
theorem wf_cons {i : Nat} {is : List Nat} : wipeF (i :: is) ρ = (wipeF is ρ).set i .no := rfl
theorem lko_v {r : Rs} : lkOf (.v r) ρ = [] := rfl
theorem lko_s {i : Nat} : lkOf (.s i) ρ = [(i, at_ ρ i)] := rfl
/-! ### primitives -/
section
variable {k : Rs → Prop} {i j : Int} {a b : Str} {xs ys : List PyData} {p q : PyData}
theorem sld_l {lo hi : Option Int} : sliceD (.list xs) lo hi k = k (.o (cutD xs lo hi)) := rfl
theorem sld_t {lo hi : Option Int} : sliceD (.tuple xs) lo hi k = k (.d (.tuple (cutD xs lo hi))) := rfl
theorem sld_s {lo hi : Option Int} : sliceD (.str a) lo hi k = (a.length ≤ sizeLine ∧ k (.d (.str (L2.cutS a lo hi)))) := rfl
theorem eqv_ii : PyData.eqv (.int i) (.int j) = (i == j) := rfl
theorem shp_ss : shp (.str a) (.str b) = true := rfl
theorem shp_ii : shp (.int i) (.int j) = true := rfl
theorem shp_l : shp (.list xs) q = SeqAt.shaped (.list xs) := rfl
theorem shp_t : shp (.tuple xs) q = SeqAt.shaped (.tuple xs) := rfl
theorem shp_i : SeqAt.shaped (.int i) = true := rfl
theorem shp_b {c : Bool} : SeqAt.shaped (.bool c) = true := rfl
theorem shp_0 : SeqAt.shaped (.list []) = true := rfl
theorem ps_addI : psem .add [.int i, .int j] k = k (.d (.int (i + j))) := rfl
theorem ps_addS : psem .add [.str a, .str b] k = (a.length + b.length ≤ sizeLine ∧ k (.d (.str (a ++ b)))) := rfl
theorem ps_addL : psem .add [.list xs, .list ys] k = (xs.length + ys.length ≤ sizeLine ∧ k (.o (xs ++ ys))) := rfl
theorem ps_addT : psem .add [.tuple xs, .tuple ys] k = (xs ≠ [] ∧ xs.length + ys.length ≤ sizeLine ∧ k (.d (.tuple (xs ++ ys)))) := rfl
theorem ps_sub : psem .sub [.int i, .int j] k = k (.d (.int (i - j))) := rfl
theorem ps_mul : psem .mul [.int i, .int j] k = (IntMulOk i j ∧ k (.d (.int (i * j)))) := rfl
theorem ps_mulL : psem .mul [.list xs, .int j] k = (-(2 ^ 63) ≤ j ∧ j < 2 ^ 63 ∧ xs.length * j.toNat ≤ sizeLine ∧ k (.o (List.replicate j.toNat xs).flatten)) := rfl
theorem ps_fdiv : psem .fdiv [.int i, .int j] k = (0 < j ∧ j.natAbs.log2 < 9000 ∧ k (.d (.int (i / j)))) := rfl
theorem ps_mod : psem .mod [.int i, .int j] k = (0 < j ∧ k (.d (.int (i % j)))) := rfl
theorem ps_shl : psem .shl [.int i, .int j] k = (0 ≤ j ∧ (Builtin.Int.intBits i : Int) + j ≤ 2 ^ 27 ∧ k (.d (.int (i * 2 ^ j.toNat)))) := rfl
theorem ps_shr : psem .shr [.int i, .int j] k = (0 ≤ j ∧ k (.d (.int (i / 2 ^ j.toNat)))) := rfl
theorem ps_pow : psem .pow [.int i, .int j] k = (0 ≤ j ∧ (Builtin.Int.intBits i : Int) * j ≤ 2 ^ 27 ∧ k (.d (.int (i ^ j.toNat)))) := rfl
theorem ps_neg : psem .neg [.int i] k = k (.d (.int (-i))) := rfl
theorem ps_eq : psem .eq [p, q] k = (shp p q = true ∧ shp q p = true ∧ k (.d (.bool (PyData.eqv p q)))) := rfl
theorem ps_ne : psem .ne [p, q] k = (shp p q = true ∧ shp q p = true ∧ k (.d (.bool (!PyData.eqv p q)))) := rfl
theorem ps_ltS {a b : Str} : psem .lt [.str a, .str b] k = k (.d (.bool (decide (a.cps.toList < b.cps.toList)))) := rfl
theorem ps_lt : psem .lt [.int i, .int j] k = k (.d (.bool (decide (i < j)))) := rfl
theorem ps_le : psem .le [.int i, .int j] k = k (.d (.bool (decide (i ≤ j)))) := rfl
theorem ps_gt : psem .gt [.int i, .int j] k = k (.d (.bool (decide (j < i)))) := rfl
theorem ps_ge : psem .ge [.int i, .int j] k = k (.d (.bool (decide (j ≤ i)))) := rfl
theorem ps_inn : psem .inn [p, q] k = inAny false p q k := rfl
theorem ps_nin : psem .nin [p, q] k = inAny true p q k := rfl
theorem ps_isB {a b : Bool} : psem .isB [.bool a, .bool b] k = k (.d (.bool (a == b))) := rfl
theorem ps_notB {a b : Bool} : psem .notB [.bool a, .bool b] k = k (.d (.bool (!(a == b)))) := rfl
theorem ps_isN : psem .isN [p] k = k (.d (.bool (isNone p))) := rfl
theorem ps_notN : psem .notN [p] k = k (.d (.bool (!isNone p))) := rfl
theorem ps_ixL : psem .index [.list xs, .int i] k = ∃ x, L2.atI xs i = some x ∧ k (.d x) := rfl
theorem ps_ixT : psem .index [.tuple xs, .int i] k = ∃ x, L2.atI xs i = some x ∧ k (.d x) := rfl
theorem ps_ixS : psem .index [.str a, .int i] k = (a.length ≤ sizeLine ∧ ∃ c, L2.atI a.cps.toList i = some c ∧ k (.d (.str ⟨#[c]⟩))) := rfl
theorem ps_lenL : psem .len [.list xs] k = k (.d (.int xs.length)) := rfl
theorem ps_lenT : psem .len [.tuple xs] k = k (.d (.int xs.length)) := rfl
theorem ps_lenS : psem .len [.str a] k = (a.length ≤ sizeLine ∧ k (.d (.int a.length))) := rfl
theorem ps_sl0 : psem (.slice false false) [p] k = sliceD p none none k := rfl
theorem ps_sl1 : psem (.slice true false) [p, .int i] k = sliceD p (some i) none k := rfl
theorem ps_sl2 : psem (.slice false true) [p, .int i] k = sliceD p none (some i) k := rfl
theorem ps_rev : psem .rev [.list xs] k = k (.o xs.reverse) := rfl
theorem ps_abs : psem .abs [.int i] k = k (.d (.int (if i < 0 then -i else i))) := rfl
theorem ps_max2 : psem .max2 [.int i, .int j] k = k (.d (.int (if j > i then j else i))) := rfl
theorem ps_min2s {i j : Str} : psem .min2 [.str i, .str j] k = k (.d (.str (if j.cps.toList < i.cps.toList then j else i))) := rfl
theorem ps_min2 : psem .min2 [.int i, .int j] k = k (.d (.int (if j < i then j else i))) := rfl
theorem ps_maxL : psem .maxL [.list xs] k = ∃ ns : List Int, xs = ns.map .int ∧ 0 < ns.length ∧ ∀ m, m ∈ ns → (∀ y, y ∈ ns → y ≤ m) → k (.d (.int m)) := rfl
theorem ps_minL : psem .minL [.list xs] k = ∃ ns : List Int, xs = ns.map .int ∧ 0 < ns.length ∧ ∀ m, m ∈ ns → (∀ y, y ∈ ns → m ≤ y) → k (.d (.int m)) := rfl
theorem ps_sum : psem .sum [.list xs] k = ∃ ns : List Int, xs = ns.map .int ∧ k (.d (.int ns.sum)) := rfl
theorem ps_all : psem .all [.list xs] k = ∃ bs : List Bool, xs = bs.map .bool ∧ k (.d (.bool (bs.all id))) := rfl
theorem ps_any : psem .any [.list xs] k = ∃ bs : List Bool, xs = bs.map .bool ∧ k (.d (.bool (bs.any id))) := rfl
theorem ps_sorted : psem .sorted [.list xs] k = ∃ ns : List Int, xs = ns.map .int ∧ ∀ ns' : List Int, ns'.Perm ns → ns'.Pairwise (· ≤ ·) → k (.o (ns'.map .int)) := rfl
theorem ps_listL : psem .list [.list xs] k = k (.o xs) := rfl
theorem ps_listS {z : Str} : psem .list [.str z] k = (z.length ≤ sizeLine ∧ k (.o (z.cps.toList.map fun c => .str ⟨#[c]⟩))) := rfl
theorem ps_listT : psem .list [.tuple xs] k = k (.o xs) := rfl
theorem ps_tupL : psem .tuple [.list xs] k = k (.d (.tuple xs)) := rfl
theorem ps_intI : psem .int [.int i] k = k (.d (.int i)) := rfl
theorem ps_intS : psem .int [.str a] k = ∃ n, PySem.intText? a = some n ∧ a.length ≤ 640 ∧ k (.d (.int n)) := rfl
theorem ps_strI : psem .str [.int i] k = (i.natAbs.log2 < 1920 ∧ k (.d (.str (toString i)))) := rfl
theorem ps_repr : psem .repr [p] k = (PyData.showable p = true ∧ badD p = false ∧ p.shown.length ≤ sizeLine ∧ p.depth ≤ 60 ∧ k (.d (.str p.shown))) := rfl
theorem ps_isi {t : Ty} : psem (.isi t) [p] k = (isDict p = false ∧ k (.d (.bool (isTy t p)))) := rfl
theorem ps_join : psem .join [.str a, .list xs] k = ∃ ys : List Str, xs = ys.map .str ∧ (ys.map (·.length)).sum + ys.length * a.length ≤ 16777216 ∧ k (.d (.str (Txt.join a ys))) := rfl
theorem ps_split : psem .split [.str a, .str b] k = ((b.length == 0) = false ∧ a.length + 2 ≤ sizeLine ∧ k (.o ((Txt.split a b).map .str))) := rfl
theorem ps_sortedR : psem .sortedR [.list xs] k = ∃ rows : List (List Int), xs = rows.map rowD ∧ k (.o ((rows.mergeSort fun p q => decide (p ≤ q)).map rowD)) := rfl
theorem ps_dgetI {kvs : List (PyData × PyData)} {ks : List PyData} : psem .index [.dict kvs, .tuple ks] k = (keyOk (.tuple ks) = true ∧ ∃ x, dgetK kvs (.tuple ks) = some x ∧ k (.d x)) := rfl
theorem ps_dget1 {kvs : List (PyData × PyData)} : psem .dget [.dict kvs, p] k = (dkd kvs = true ∧ keyOk p = true ∧ k (.d ((dgetK kvs p).getD .none))) := rfl
theorem ps_dget2 {kvs : List (PyData × PyData)} : psem .dget [.dict kvs, p, q] k = (dkd kvs = true ∧ keyOk p = true ∧ scalar q = true ∧ k (.d ((dgetK kvs p).getD q))) := rfl
theorem ps_eqE {kvs : List (PyData × PyData)} : psem .eqE [.dict kvs] k = (dkd kvs = true ∧ k (.d (.bool kvs.isEmpty))) := rfl
theorem ps_neE {kvs : List (PyData × PyData)} : psem .neE [.dict kvs] k = (dkd kvs = true ∧ k (.d (.bool (!kvs.isEmpty)))) := rfl
theorem ia_dict {n : Bool} {kvs : List (PyData × PyData)} : inAny n p (.dict kvs) k = (dkd kvs = true ∧ keyOk p = true ∧ k (.d (.bool (xor n (dgetK kvs p).isSome)))) := by cases p <;> rfl
theorem ps_scrL {ns : List Int} : psem .len [.dict (scrK ns)] k = k (.d (.int (ns.length : Nat))) := by
  show k (.d (.int ((ns.map fun n => ((.list [], .int n) : PyData × PyData)).length : Nat))) = _
  rw [List.length_map]
theorem ps_scrI {ns : List Int} : psem .index [.dict (scrK ns), .int i] k = ∃ x, L2.atI (ns.map PyData.int) i = some x ∧ k (.d x) := by
  show (∃ x, L2.atI ((ns.map fun n => ((.list [], .int n) : PyData × PyData)).map (·.2)) i = some x ∧ k (.d x)) = _
  rw [List.map_map]
  rfl
theorem ex_ix0 {α : Type} {x : α} {xs : List α} {P : α → Prop} : (∃ y, L2.atI (x :: xs) 0 = some y ∧ P y) = P x := by
  have e : L2.atI (x :: xs) 0 = some x := L2.atI_nat (j := 0) rfl
  rw [e]
  simp
theorem ex_ix1 {α : Type} {a x : α} {xs : List α} {P : α → Prop} : (∃ y, L2.atI (a :: x :: xs) 1 = some y ∧ P y) = P x := by
  have e : L2.atI (a :: x :: xs) 1 = some x := L2.atI_nat (j := 1) rfl
  rw [e]
  simp
theorem ex_ix2 {α : Type} {a b x : α} {xs : List α} {P : α → Prop} : (∃ y, L2.atI (a :: b :: x :: xs) 2 = some y ∧ P y) = P x := by
  have e : L2.atI (a :: b :: x :: xs) 2 = some x := L2.atI_nat (j := 2) rfl
  rw [e]
  simp
theorem ex_ixn {α : Type} {i n : Nat} {P : Nat → Prop} (h : i < n) : (∃ j, L2.ixN n (i : Int) = some j ∧ P j) = P i := by
  have e : L2.ixN n (i : Int) = some i := by
    unfold L2.ixN
    rw [if_pos (by omega), if_pos (by omega)]
    rfl
  rw [e]
  simp
theorem ex_ixN30 {P : Nat → Prop} : (∃ n, L2.ixN 3 0 = some n ∧ P n) = P 0 := by
  have e : L2.ixN 3 0 = some 0 := rfl
  rw [e]
  simp
theorem ex_ixN31 {P : Nat → Prop} : (∃ n, L2.ixN 3 1 = some n ∧ P n) = P 1 := by
  have e : L2.ixN 3 1 = some 1 := rfl
  rw [e]
  simp
theorem ex_ixN32 {P : Nat → Prop} : (∃ n, L2.ixN 3 2 = some n ∧ P n) = P 2 := by
  have e : L2.ixN 3 2 = some 2 := rfl
  rw [e]
  simp
theorem ms_append {k : PyData → List PyData → Prop} : msem .append xs [p] k = (xs.length < sizeLine ∧ k .none (xs ++ [p])) := rfl
theorem ms_extend {k : PyData → List PyData → Prop} : msem .extend xs [.list ys] k = (xs.length + ys.length ≤ sizeLine ∧ k .none (xs ++ ys)) := rfl
theorem ms_pop {k : PyData → List PyData → Prop} : msem .pop xs [] k = ∃ y, xs[xs.length - 1]? = some y ∧ k y xs.dropLast := rfl
theorem ms_popAt {k : PyData → List PyData → Prop} : msem .popAt xs [.int i] k = (-(2 ^ 63) ≤ i ∧ i < 2 ^ 63 ∧ ∃ j y, seqIndex? i xs.length = some j ∧ xs[j]? = some y ∧ k y (xs.eraseIdx j)) := rfl
theorem ms_reverse {k : PyData → List PyData → Prop} : msem .reverse xs [] k = k .none xs.reverse := rfl
end
/-! ### loops by an invariant -/
theorem forL_inv {lk : Lk} {put : PyData → FE → Option FE} {body : FE → (FE → Prop) → Prop} {end_ : FE → Prop} (I : List PyData → FE → Prop) (hs : ∀ x r ρ, I (x :: r) ρ → ∃ ρ1, put x ρ = some ρ1 ∧ ∀ K : FE → Prop, (∀ ρ2, lkOk lk ρ2 → I r ρ2 → K ρ2) → body ρ1 K)
    (he : ∀ ρ, I [] ρ → end_ ρ) : ∀ (xs : List PyData) (ρ : FE), I xs ρ → forL lk put body end_ xs ρ
  | [], ρ, h => he ρ h
  | x :: xs, ρ, h => by
    obtain ⟨ρ1, h1, h2⟩ := hs x xs ρ h
    rw [forL, h1]
    exact h2 _ fun ρ2 hl hi => ⟨hl, forL_inv I hs he xs ρ2 hi⟩
theorem if_T {c a b : Prop} [Decidable c] (h : c) (x : a) : if c then a else b := by
  rw [if_pos h]
  exact x
theorem if_F {c a b : Prop} [Decidable c] (h : ¬ c) (x : b) : if c then a else b := by
  rw [if_neg h]
  exact x
theorem if_B {b : Bool} {a c : Prop} (h : b = false) (x : c) : if b = true then a else c := by
  subst h
  exact x
theorem whl_inv {G : Gm} {c : FX.E} {b : S} {ρ : FE} {D : FEnds} (J : Nat → FE → Prop) (n : Nat) (h0 : J n ρ) (hs : ∀ n ρ, J n ρ → (W G c).t ρ (fun k ρ1 => if k = true then
      WS G b ρ1 { nx := fun ρ2 => ∃ m, m < n ∧ J m ρ2, ct := fun ρ2 => ∃ m, m < n ∧ J m ρ2, bk := D.nx, rt := D.rt, ex := D.ex } else D.nx ρ1) D.ex) : WS G (.whl c b) ρ D := ⟨J, ⟨n, h0⟩, hs⟩
theorem cutD_nat (xs : List PyData) (a b : Nat) : cutD xs (some (a : Int)) (some (b : Int)) = (xs.drop a).take (b - a) := by
  unfold cutD
  rw [HT.sIx_nat, HT.sIx_nat]
  by_cases ha : a ≤ xs.length
  · rw [Nat.min_eq_left ha]
    by_cases hb : b ≤ xs.length
    · rw [Nat.min_eq_left hb]
    · rw [Nat.min_eq_right (by omega)]
      rw [List.take_of_length_le (by rw [List.length_drop]; omega), List.take_of_length_le (by rw [List.length_drop]; omega)]
  · have h1 : xs.drop a = [] := List.drop_eq_nil_of_le (by omega)
    have h2 : xs.drop (min a xs.length) = [] := List.drop_eq_nil_of_le (by omega)
    rw [h1, h2]
    simp
theorem take_min {α : Type} (xs : List α) (n : Nat) : xs.take (min n xs.length) = xs.take n := by
  by_cases h : n ≤ xs.length
  · rw [Nat.min_eq_left h]
  · rw [Nat.min_eq_right (by omega), List.take_of_length_le (Nat.le_refl _), List.take_of_length_le (by omega)]
theorem cutD_take (xs : List PyData) (n : Nat) : cutD xs none (some (n : Int)) = xs.take n := by
  unfold cutD
  rw [HT.sIx_nat]
  show (xs.drop 0).take (min n xs.length - 0) = _
  rw [Nat.sub_zero, List.drop_zero, take_min]
theorem cutD_drop (xs : List PyData) (n : Nat) : cutD xs (some (n : Int)) none = xs.drop n := by
  unfold cutD
  rw [HT.sIx_nat]
  show (xs.drop (min n xs.length)).take (xs.length - min n xs.length) = _
  by_cases h : n ≤ xs.length
  · rw [Nat.min_eq_left h, List.take_of_length_le (by rw [List.length_drop]; exact Nat.le_refl _)]
  · rw [Nat.min_eq_right (by omega), List.drop_length, List.drop_eq_nil_of_le (by omega)]
    simp
theorem compL_inv {lk : Lk} {put : PyData → FE → Option FE} {cond : FE → (Bool → FE → Prop) → Prop} {elt : FE → KQ → Prop} {own : List Nat} {Qe : List PyData → FE → Prop} (I : List PyData → List PyData → FE → Prop)
    (hs : ∀ x r acc ρ, I (x :: r) acc ρ → ∃ ρ1, put x ρ = some ρ1 ∧ ∀ K : List PyData → FE → Prop, (∀ acc' ρ2, lkOk lk (wipeF own ρ2) → I r acc' (wipeF own ρ2) → K acc' ρ2) →
      cond ρ1 fun b ρ2 => if b = true then elt ρ2 fun v ρ3 => acc.length < sizeLine ∧ K (acc ++ [v.data]) ρ3 else K acc ρ2)
    (he : ∀ acc ρ, I [] acc ρ → Qe acc ρ) (mono : ∀ ρ (K K' : Bool → FE → Prop), (∀ b ρ, K b ρ → K' b ρ) → cond ρ K → cond ρ K') (mono2 : ∀ ρ (K K' : KQ), (∀ b ρ, K b ρ → K' b ρ) → elt ρ K → elt ρ K') : ∀ (xs acc : List PyData) (ρ : FE), I xs acc ρ → compL lk put cond elt own xs acc ρ Qe
  | [], acc, ρ, h => he acc ρ h
  | x :: xs, acc, ρ, h => by
    obtain ⟨ρ1, h1, h2⟩ := hs x xs acc ρ h
    rw [compL, h1]
    refine mono _ _ _ ?_ (h2 (fun acc' ρ3 => lkOk lk (wipeF own ρ3) ∧ compL lk put cond elt own xs acc' (wipeF own ρ3) Qe) fun acc' ρ2 hl hi => ⟨hl, compL_inv I hs he mono mono2 xs acc' _ hi⟩)
    intro b ρ2 hb
    cases b with
    | true =>
      rw [if_pos rfl] at hb ⊢
      exact mono2 _ _ _ (fun v ρ3 q => ⟨q.1, q.2.1, q.2.2⟩) hb
    | false =>
      rw [if_neg Bool.false_ne_true] at hb ⊢
      exact hb
theorem mask_free {mask : List Bool} {vs : List Nat} (h : (mask.zipIdx.all fun p => !(p.1 && vs.contains p.2)) = true) : ∀ i, mask[i]? = some true → i ∉ vs := fun i hi hv => by
  have hm : (true, i) ∈ mask.zipIdx := by
    rw [List.mem_zipIdx_iff_getElem?]
    exact hi
  have := List.all_eq_true.mp h _ hm
  simp [hv] at this
/-! ### calls -/
/-- a promise that depends on the data alone, and leaves the arguments as they are -/
def PureS (p : List PyData → (Rs → Prop) → Prop) : FSp := fun args Q _ => p (args.map Rs.data) fun r => Q r args
def opsOk (ρ : FE) : List Bool → List Op → Bool
  | [], [] => true
  | _ :: bs, .v _ :: os => opsOk ρ bs os
  | b :: bs, .s i :: os => (match at_ ρ i with
    | .o _ => b && os.all fun o => match o with
      | .s j => i != j
      | .v _ => true
    | .t _ => b && os.all fun o => match o with
      | .s j => i != j
      | .v _ => true
    | _ => true) && opsOk ρ bs os
  | _, _ => false
theorem at_set_ne {ρ : FE} {i j : Nat} {s : Sl} (h : i ≠ j) : at_ (ρ.set i s) j = at_ ρ j := by
  unfold at_
  rw [List.getD_eq_getElem?_getD, List.getD_eq_getElem?_getD, List.getElem?_set_ne h]
theorem get_set_ne {ρ : FE} {i : Nat} {s : Sl} {o : Op} (h : (match o with
      | .s j => i != j
      | .v _ => true) = true) : o.get (ρ.set i s) = o.get ρ := by
  cases o with
  | v _ => rfl
  | s j =>
    have h : i ≠ j := by simpa using h
    show (at_ (ρ.set i s) j).data = (at_ ρ j).data
    rw [at_set_ne h]
theorem gets_set_ne {ρ : FE} {i : Nat} {s : Sl} : ∀ {os : List Op}, (os.all fun o => match o with
      | .s j => i != j
      | .v _ => true) = true → gets (ρ.set i s) os = gets ρ os
  | [], _ => rfl
  | o :: os, h => by
    simp only [List.all_cons, Bool.and_eq_true] at h
    unfold gets
    rw [get_set_ne h.1, gets_set_ne h.2]
theorem opsOk_set {ρ : FE} {i : Nat} {s : Sl} : ∀ {mask : List Bool} {os : List Op}, (os.all fun o => match o with
      | .s j => i != j
      | .v _ => true) = true → opsOk (ρ.set i s) mask os = opsOk ρ mask os
  | [], [], _ => rfl
  | [], _ :: _, _ => rfl
  | _ :: _, [], _ => rfl
  | b :: bs, .v _ :: os, h => by
    simp only [List.all_cons, Bool.and_eq_true] at h
    have ih := opsOk_set (ρ := ρ) (i := i) (s := s) (mask := bs) (os := os) h.2
    exact ih
  | b :: bs, .s j :: os, h => by
    simp only [List.all_cons, Bool.and_eq_true] at h
    have hj : i ≠ j := by simpa using h.1
    have ih := opsOk_set (ρ := ρ) (i := i) (s := s) (mask := bs) (os := os) h.2
    unfold opsOk
    rw [at_set_ne hj, ih]
theorem set_back {ρ : FE} {i : Nat} {xs : List PyData} {s : Sl} (h : at_ ρ i = .o xs) : (ρ.set i s).set i (.o xs) = ρ := by
  haveI : Wc := ⟨fun _ _ => none, fun _ => ""⟩
  obtain ⟨h1, h2⟩ := at_some h (by simp)
  rw [List.set_set]
  obtain ⟨h3, h4⟩ := List.getElem?_eq_some_iff.mp h2
  rw [← h4]
  exact List.set_getElem_self h3
theorem set_backT {ρ : FE} {i : Nat} {xs : List (PyData × PyData)} {s : Sl} (h : at_ ρ i = .t xs) : (ρ.set i s).set i (.t xs) = ρ := by
  haveI : Wc := ⟨fun _ _ => none, fun _ => ""⟩
  obtain ⟨h1, h2⟩ := at_some h (by simp)
  rw [List.set_set]
  obtain ⟨h3, h4⟩ := List.getElem?_eq_some_iff.mp h2
  rw [← h4]
  exact List.set_getElem_self h3
theorem back_set : ∀ {ps : List (Rs × Option Nat)} {rs : List Rs} {ρ : FE} {i : Nat} {s : Sl}, (∀ p ∈ ps, p.2 ≠ some i) → backIo ps rs (ρ.set i s) = (backIo ps rs ρ).set i s
  | [], rs, ρ, i, s, _ => by rw [bi_nil, bi_nil]
  | (p, none) :: ps, [], ρ, i, s, h => by simp [backIo]
  | (p, some j) :: ps, [], ρ, i, s, h => by simp [backIo]
  | (p, none) :: ps, r :: rs, ρ, i, s, h => by
    rw [bi_n, bi_n]
    exact back_set fun q hq => h q (List.mem_cons_of_mem _ hq)
  | (p, some j) :: ps, r :: rs, ρ, i, s, h => by
    have hj : j ≠ i := fun e => h (p, some j) List.mem_cons_self (by rw [e])
    rw [bi_s, bi_s, List.set_comm _ _ hj.symm]
    exact back_set fun q hq => h q (List.mem_cons_of_mem _ hq)
theorem pass_all : ∀ {mask : List Bool} {os : List Op} {ρ : FE} {ds : List PyData}, gets ρ os = some ds → opsOk ρ mask os = true → ∃ ps ρ2, passArgs mask os ρ = some (ps, ρ2) ∧ (ps.map (·.1)).map Rs.data = ds ∧ backIo ps (ps.map (·.1)) ρ2 = ρ ∧ ∀ p ∈ ps, ∀ i, p.2 = some i → Op.s i ∈ os
  | [], [], ρ, ds, h, _ => by
    cases h
    exact ⟨[], ρ, rfl, rfl, rfl, fun _ h => by cases h⟩
  | [], _ :: _, ρ, ds, _, ho => by simp [opsOk] at ho
  | _ :: _, [], ρ, ds, _, ho => by simp [opsOk] at ho
  | b :: bs, .v r :: os, ρ, ds, h, ho => by
    unfold gets at h
    cases e2 : gets ρ os with
    | none => rw [get_v, e2] at h; cases h
    | some ys =>
      rw [get_v, e2] at h
      cases h
      have ho : opsOk ρ bs os = true := ho
      obtain ⟨ps, ρ2, h1, h2, h3, h4⟩ := pass_all e2 ho
      refine ⟨((if b then r else .d r.data), none) :: ps, ρ2, ?_, ?_, ?_, ?_⟩
      · show (passArgs bs os ρ).map _ = _
        rw [h1]
        rfl
      · rw [← h2]; cases b <;> rfl
      · show backIo (((if b then r else .d r.data), none) :: ps) ((if b then r else .d r.data) :: ps.map (·.1)) ρ2 = ρ
        rw [bi_n]
        exact h3
      · intro p hp i hi
        rcases List.mem_cons.mp hp with rfl | hp
        · cases hi
        · exact List.mem_cons_of_mem _ (h4 p hp i hi)
  | b :: bs, .s i :: os, ρ, ds, h, ho => by
    unfold opsOk at ho
    simp only [Bool.and_eq_true] at ho
    unfold gets at h
    cases e2 : gets ρ os with
    | none =>
      rw [e2] at h
      cases e1 : (Op.s i).get ρ with
      | none => rw [e1] at h; cases h
      | some _ => rw [e1] at h; cases h
    | some ys =>
      cases e0 : at_ ρ i with
      | no =>
        have e1 : (Op.s i).get ρ = none := by
          show (at_ ρ i).data = none
          rw [e0]
          rfl
        rw [e1] at h
        cases h
      | h _ =>
        have e1 : (Op.s i).get ρ = none := by
          show (at_ ρ i).data = none
          rw [e0]
          rfl
        rw [e1] at h
        cases h
      | d x =>
        have e1 : (Op.s i).get ρ = some x := by
          show (at_ ρ i).data = some x
          rw [e0]
          rfl
        rw [e1, e2] at h
        cases h
        obtain ⟨ps, ρ2, h1, h2, h3, h4⟩ := pass_all e2 ho.2
        refine ⟨(.d x, none) :: ps, ρ2, ?_, ?_, ?_, ?_⟩
        · unfold passArgs
          rw [e0, h1]
          rfl
        · rw [← h2]; rfl
        · show backIo ((.d x, none) :: ps) (.d x :: ps.map (·.1)) ρ2 = ρ
          rw [bi_n]
          exact h3
        · intro p hp j hj
          rcases List.mem_cons.mp hp with rfl | hp
          · cases hj
          · exact List.mem_cons_of_mem _ (h4 p hp j hj)
      | o xs =>
        have e1 : (Op.s i).get ρ = some (.list xs) := by
          show (at_ ρ i).data = some (.list xs)
          rw [e0]
          rfl
        rw [e1, e2] at h
        cases h
        rw [e0] at ho
        simp only [Bool.and_eq_true] at ho
        obtain ⟨⟨rfl, ha⟩, ho⟩ := ho
        have g1 : gets (ρ.set i .no) os = some ys := by rw [gets_set_ne ha]; exact e2
        have g2 : opsOk (ρ.set i .no) bs os = true := by rw [opsOk_set ha]; exact ho
        obtain ⟨ps, ρ2, h1, h2, h3, h4⟩ := pass_all g1 g2
        refine ⟨(.o xs, some i) :: ps, ρ2, ?_, ?_, ?_, ?_⟩
        · rw [pa_st, e0]
          dsimp only
          rw [h1]
          rfl
        · rw [← h2]; rfl
        · show backIo ((.o xs, some i) :: ps) (.o xs :: ps.map (·.1)) ρ2 = ρ
          rw [bi_s]
          have hn : ∀ p ∈ ps, p.2 ≠ some i := fun p hp e => by
            have := List.all_eq_true.mp ha _ (h4 p hp i e)
            simp at this
          rw [back_set hn, h3]
          exact set_back e0
        · intro p hp j hj
          rcases List.mem_cons.mp hp with rfl | hp
          · cases hj
            exact List.mem_cons_self
          · exact List.mem_cons_of_mem _ (h4 p hp j hj)
      | t xs =>
        have e1 : (Op.s i).get ρ = some (.dict xs) := by
          show (at_ ρ i).data = some (.dict xs)
          rw [e0]
          rfl
        rw [e1, e2] at h
        cases h
        rw [e0] at ho
        simp only [Bool.and_eq_true] at ho
        obtain ⟨⟨rfl, ha⟩, ho⟩ := ho
        have g1 : gets (ρ.set i .no) os = some ys := by rw [gets_set_ne ha]; exact e2
        have g2 : opsOk (ρ.set i .no) bs os = true := by rw [opsOk_set ha]; exact ho
        obtain ⟨ps, ρ2, h1, h2, h3, h4⟩ := pass_all g1 g2
        refine ⟨(.t xs, some i) :: ps, ρ2, ?_, ?_, ?_, ?_⟩
        · rw [pa_st, e0]
          dsimp only
          rw [h1]
          rfl
        · rw [← h2]; rfl
        · show backIo ((.t xs, some i) :: ps) (.t xs :: ps.map (·.1)) ρ2 = ρ
          rw [bi_s]
          have hn : ∀ p ∈ ps, p.2 ≠ some i := fun p hp e => by
            have := List.all_eq_true.mp ha _ (h4 p hp i e)
            simp at this
          rw [back_set hn, h3]
          exact set_backT e0
        · intro p hp j hj
          rcases List.mem_cons.mp hp with rfl | hp
          · cases hj
            exact List.mem_cons_self
          · exact List.mem_cons_of_mem _ (h4 p hp j hj)
theorem callK_pure {p : List PyData → (Rs → Prop) → Prop} {mask : List Bool} {os : List Op} {ρ : FE} {ds : List PyData} {Q : KQ} {E : KX} (hg : gets ρ os = some ds) (ho : opsOk ρ mask os = true) (h : p ds fun r => Q r ρ) : callK mask (PureS p) os ρ Q E := by
  obtain ⟨ps, ρ2, h1, h2, h3, _⟩ := pass_all hg ho
  unfold callK
  rw [h1]
  show p ((ps.map (·.1)).map Rs.data) fun r => Q r (backIo ps (ps.map (·.1)) ρ2)
  rw [h2, h3]
  exact h
/-- a promise over data that may raise -/
def PureX (p : List PyData → (Rs → Prop) → (Exc → Prop) → Prop) : FSp := fun args Q E => p (args.map Rs.data) (fun r => Q r args) (fun x => E x args)
theorem callK_pureX {p : List PyData → (Rs → Prop) → (Exc → Prop) → Prop} {mask : List Bool} {os : List Op} {ρ : FE} {ds : List PyData} {Q : KQ} {E : KX} (hg : gets ρ os = some ds) (ho : opsOk ρ mask os = true) (h : p ds (fun r => Q r ρ) (fun x => E x ρ)) : callK mask (PureX p) os ρ Q E := by
  obtain ⟨ps, ρ2, h1, h2, h3, _⟩ := pass_all hg ho
  unfold callK
  rw [h1]
  show p ((ps.map (·.1)).map Rs.data) (fun r => Q r (backIo ps (ps.map (·.1)) ρ2)) (fun x => E x (backIo ps (ps.map (·.1)) ρ2))
  rw [h2, h3]
  exact h
theorem callK_D {p : List PyData → (Rs → Prop) → Prop} {mask : List Bool} {os : List Op} {ρ ρ2 : FE} {ds : List PyData} {ps : List (Rs × Option Nat)} {Q : KQ} {E : KX} (h1 : passArgs mask os ρ = some (ps, ρ2)) (h2 : ps.map (·.1) = ds.map .d) (h3 : backIo ps (ds.map .d) ρ2 = ρ) (h : p ds fun r => Q r ρ) : callK mask (PureD p) os ρ Q E := by
  unfold callK
  rw [h1]
  show ∃ ds : List PyData, ps.map (·.1) = ds.map .d ∧ p ds fun r => Q r (backIo ps (ps.map (·.1)) ρ2)
  refine ⟨ds, h2, ?_⟩
  rw [h2, h3]
  exact h
theorem argsD {args : List Rs} {ds : List PyData} (h : args = ds.map Rs.d) : args = ds.map Rs.d := h
theorem hx_txt {sub : Nat → Nat → Bool} {s : Str} {x : Exc} {k : Str → Prop} : (HX.txt s).run sub x k = k s := rfl
theorem hx_ite {sub : Nat → Nat → Bool} {c : HC} {a b : HX} {x : Exc} {k : Str → Prop} : (HX.ite c a b).run sub x k = if c.ok sub x = true then a.run sub x k else b.run sub x k := by
  show (match (if c.ok sub x = true then a.val sub x else b.val sub x) with
    | some s => k s
    | none => False) = _
  by_cases h : c.ok sub x = true
  · rw [if_pos h, if_pos h]
    rfl
  · rw [if_neg h, if_neg h]
    rfl
theorem hc_is {sub : Nat → Nat → Bool} {c : Nat} {x : Exc} : (HC.isC c).ok sub x = sub x.cls c := rfl
theorem hc_nt {sub : Nat → Nat → Bool} {c : HC} {x : Exc} : (HC.nt c).ok sub x = !c.ok sub x := rfl
theorem hc_and {sub : Nat → Nat → Bool} {a b : HC} {x : Exc} : (HC.and a b).ok sub x = (a.ok sub x && b.ok sub x) := rfl
theorem at_set_self {ρ : FE} {i : Nat} {xs : List PyData} {s : Sl} (h : at_ ρ i = .o xs) : at_ (ρ.set i s) i = s := by
  haveI : Wc := ⟨fun _ _ => none, fun _ => ""⟩
  obtain ⟨h1, _⟩ := at_some h (by simp)
  unfold at_
  rw [List.getD_eq_getElem?_getD, List.getElem?_set_self h1]
  rfl
/-- an owned list that goes to a parameter of plain data stays as plain data -/
theorem callK_frz {sp : FSp} {bs : List Bool} {i : Nat} {os : List Op} {ρ : FE} {xs : List PyData} {Q : KQ} {E : KX} (h : at_ ρ i = .o xs) (hq : callK (false :: bs) sp (.s i :: os) (ρ.set i (.d (.list xs))) Q E) : callK (false :: bs) sp (.s i :: os) ρ Q E := by
  have e : passArgs (false :: bs) (.s i :: os) ρ = passArgs (false :: bs) (.s i :: os) (ρ.set i (.d (.list xs))) := by
    rw [pa_sf, pa_sf, h, at_set_self h]
  unfold callK at hq ⊢
  rw [e]
  exact hq
/-- the first argument is a parameter that is handed on for good -/
theorem callK_any {p : List PyData → (Rs → Prop) → Prop} {bs : List Bool} {os : List Op} {ρ : FE} {ds : List PyData} {Q : KQ} {E : KX} {r : Rs} {x : PyData} {i : Nat} (h0 : r.data = x) (a : at_ ρ i = r.sl) (hg : gets (ρ.set i (.d x)) (.s i :: os) = some (x :: ds)) (ho : opsOk (ρ.set i (.d x)) (false :: bs) (.s i :: os) = true)
    (hd : isDct x = false) (h : p (x :: ds) fun r => Q r (ρ.set i (.d x))) : callK (false :: bs) (PureS p) (.s i :: os) ρ Q E := by
  cases r with
  | d y =>
    obtain rfl : y = x := h0
    have hi : ρ.set i (.d y) = ρ := by
      have a' : at_ ρ i = .d y := a
      haveI : Wc := ⟨fun _ _ => none, fun _ => ""⟩
      obtain ⟨q1, q2⟩ := at_some a' (by simp)
      refine List.ext_getElem? fun n => ?_
      by_cases e : i = n
      · subst e
        rw [List.getElem?_set_self q1, q2]
      · rw [List.getElem?_set_ne e]
    rw [hi] at hg ho h
    exact callK_pure hg ho h
  | o ys =>
    obtain rfl : PyData.list ys = x := h0
    exact callK_frz a (callK_pure hg ho h)
  | t ys =>
    obtain rfl : PyData.dict ys = x := h0
    cases hd
/-- the first argument is a parameter that is lent -/
theorem callK_r {p : List PyData → (Rs → Prop) → Prop} {bs : List Bool} {os : List Op} {ρ : FE} {ds : List PyData} {Q : KQ} {E : KX} {r : Rs} {x : PyData} {i : Nat} (h0 : r.data = x) (a : at_ ρ i = r.sl) (hg : gets ρ os = some ds) (ho : opsOk ρ bs os = true)
    (hn : (os.all fun o => match o with
      | .s j => i != j
      | .v _ => true) = true) (h : p (x :: ds) fun r => Q r ρ) : callK (true :: bs) (PureS p) (.s i :: os) ρ Q E := by
  refine callK_pure (ds := x :: ds) ?_ ?_ h
  · rw [gets_cons, get_s, a, sld_r, h0, hg]
  · unfold opsOk
    rw [a, ho, Bool.and_true]
    cases r with
    | d _ => rfl
    | o _ => exact hn
    | t _ => exact hn
/-! ### comprehensions -/
/-- every item gives one value -/
theorem compL_map {lk : Lk} {put : PyData → FE → Option FE} {elt : FE → KQ → Prop} {own : List Nat} {Qe : List PyData → FE → Prop} {ρ : FE} (f : PyData → PyData) (hl : lkOk lk ρ) : ∀ (xs acc : List PyData),
    (∀ x ∈ xs, ∃ ρ1, put x ρ = some ρ1 ∧ ∀ K : KQ, (∀ r ρ2, r.data = f x → wipeF own ρ2 = ρ → K r ρ2) → elt ρ1 K) → acc.length + xs.length ≤ sizeLine → Qe (acc ++ xs.map f) ρ →
    compL lk put (fun ρ K => K true ρ) elt own xs acc ρ Qe
  | [], acc, _, _, hq => by simpa [compL] using hq
  | x :: xs, acc, he, hz, hq => by
    obtain ⟨ρ1, h1, h2⟩ := he x List.mem_cons_self
    rw [compL, h1]
    show (if true = true then _ else _)
    rw [if_pos rfl]
    refine h2 _ fun r ρ2 hr hw => ?_
    rw [List.length_cons] at hz
    rw [hw, hr]
    exact ⟨by omega, hl, compL_map f hl xs (acc ++ [f x]) (fun y hy => he y (List.mem_cons_of_mem _ hy)) (by rw [List.length_append, List.length_singleton]; omega) (by simpa using hq)⟩
/-- every item gives one value or none -/
theorem compL_fm {lk : Lk} {put : PyData → FE → Option FE} {cond : FE → (Bool → FE → Prop) → Prop} {elt : FE → KQ → Prop} {own : List Nat} {Qe : List PyData → FE → Prop} {ρ : FE} (f : PyData → Option PyData) (hl : lkOk lk ρ) : ∀ (xs acc : List PyData),
    (∀ x ∈ xs, ∃ ρ1, put x ρ = some ρ1 ∧ ∀ K : Option PyData → FE → Prop, K (f x) ρ → cond ρ1 fun b ρ2 => if b = true then elt ρ2 fun r ρ3 => K (some r.data) (wipeF own ρ3) else K none (wipeF own ρ2)) →
    acc.length + (xs.filterMap f).length ≤ sizeLine → Qe (acc ++ xs.filterMap f) ρ → compL lk put cond elt own xs acc ρ Qe
  | [], acc, _, _, hq => by simpa [compL] using hq
  | x :: xs, acc, he, hz, hq => by
    obtain ⟨ρ1, h1, h2⟩ := he x List.mem_cons_self
    rw [compL, h1]
    refine h2 (fun o ρ' => match o with
      | some v => acc.length < sizeLine ∧ lkOk lk ρ' ∧ compL lk put cond elt own xs (acc ++ [v]) ρ' Qe
      | none => lkOk lk ρ' ∧ compL lk put cond elt own xs acc ρ' Qe) ?_
    have he' := fun y hy => he y (List.mem_cons_of_mem _ hy)
    cases e : f x with
    | none =>
      rw [List.filterMap_cons, e] at hz hq
      exact ⟨hl, compL_fm f hl xs acc he' hz hq⟩
    | some v =>
      rw [List.filterMap_cons, e] at hz hq
      simp only [List.length_cons] at hz
      exact ⟨by omega, hl, compL_fm f hl xs (acc ++ [v]) he' (by rw [List.length_append, List.length_singleton]; omega) (by simpa using hq)⟩
/-- .. over typed items -/
theorem compL_mapE {α : Type} {lk : Lk} {put : PyData → FE → Option FE} {elt : FE → KQ → Prop} {own : List Nat} {Qe : List PyData → FE → Prop} {ρ : FE} (enc f : α → PyData) (hl : lkOk lk ρ) : ∀ (as : List α) (acc : List PyData),
    (∀ a ∈ as, ∃ ρ1, put (enc a) ρ = some ρ1 ∧ ∀ K : KQ, (∀ r ρ2, r.data = f a → wipeF own ρ2 = ρ → K r ρ2) → elt ρ1 K) → acc.length + as.length ≤ sizeLine → Qe (acc ++ as.map f) ρ →
    compL lk put (fun ρ K => K true ρ) elt own (as.map enc) acc ρ Qe
  | [], acc, _, _, hq => by simpa [compL] using hq
  | x :: xs, acc, he, hz, hq => by
    obtain ⟨ρ1, h1, h2⟩ := he x List.mem_cons_self
    rw [List.map_cons, compL, h1]
    show (if true = true then _ else _)
    rw [if_pos rfl]
    refine h2 _ fun r ρ2 hr hw => ?_
    rw [List.length_cons] at hz
    rw [hw, hr]
    exact ⟨by omega, hl, compL_mapE enc f hl xs (acc ++ [f x]) (fun y hy => he y (List.mem_cons_of_mem _ hy)) (by rw [List.length_append, List.length_singleton]; omega) (by simpa using hq)⟩
theorem compL_fmE {α : Type} {lk : Lk} {put : PyData → FE → Option FE} {cond : FE → (Bool → FE → Prop) → Prop} {elt : FE → KQ → Prop} {own : List Nat} {Qe : List PyData → FE → Prop} {ρ : FE} (enc : α → PyData) (f : α → Option PyData) (hl : lkOk lk ρ) : ∀ (as : List α) (acc : List PyData),
    (∀ a ∈ as, ∃ ρ1, put (enc a) ρ = some ρ1 ∧ ∀ K : Option PyData → FE → Prop, K (f a) ρ → cond ρ1 fun b ρ2 => if b = true then elt ρ2 fun r ρ3 => K (some r.data) (wipeF own ρ3) else K none (wipeF own ρ2)) →
    acc.length + (as.filterMap f).length ≤ sizeLine → Qe (acc ++ as.filterMap f) ρ → compL lk put cond elt own (as.map enc) acc ρ Qe
  | [], acc, _, _, hq => by simpa [compL] using hq
  | x :: xs, acc, he, hz, hq => by
    obtain ⟨ρ1, h1, h2⟩ := he x List.mem_cons_self
    rw [List.map_cons, compL, h1]
    refine h2 (fun o ρ' => match o with
      | some v => acc.length < sizeLine ∧ lkOk lk ρ' ∧ compL lk put cond elt own (xs.map enc) (acc ++ [v]) ρ' Qe
      | none => lkOk lk ρ' ∧ compL lk put cond elt own (xs.map enc) acc ρ' Qe) ?_
    have he' := fun y hy => he y (List.mem_cons_of_mem _ hy)
    cases e : f x with
    | none =>
      rw [List.filterMap_cons, e] at hz hq
      exact ⟨hl, compL_fmE enc f hl xs acc he' hz hq⟩
    | some v =>
      rw [List.filterMap_cons, e] at hz hq
      simp only [List.length_cons] at hz
      exact ⟨by omega, hl, compL_fmE enc f hl xs (acc ++ [v]) he' (by rw [List.length_append, List.length_singleton]; omega) (by simpa using hq)⟩
theorem fm_ite {α : Type} (enc : α → PyData) (p : α → Bool) : ∀ xs : List α, xs.filterMap (fun a => if p a = true then some (enc a) else none) = (xs.filter p).map enc
  | [] => rfl
  | x :: xs => by
    rw [List.filterMap_cons, List.filter_cons]
    by_cases hp : p x = true
    · rw [if_pos hp, if_pos hp, List.map_cons, fm_ite enc p xs]
    · rw [if_neg hp, if_neg hp]
      exact fm_ite enc p xs
/-- a for over typed items: a state by what is done -/
theorem forL_fold {α σ : Type} {lk : Lk} {put : PyData → FE → Option FE} {body : FE → (FE → Prop) → Prop} {end_ : FE → Prop} (enc : α → PyData) (St : σ → FE → Prop) (step : σ → α → σ) (Ok : List α → σ → Prop)
    (hs : ∀ (done : List α) (a : α) (s : σ) (ρ : FE), Ok done s → St s ρ → ∃ ρ1, put (enc a) ρ = some ρ1 ∧ ∀ K : FE → Prop, (∀ ρ2, lkOk lk ρ2 → St (step s a) ρ2 → Ok (done ++ [a]) (step s a) → K ρ2) → body ρ1 K) :
    ∀ (as done : List α) (s : σ) (ρ : FE), Ok done s → St s ρ → (∀ s' ρ', Ok (done ++ as) s' → s' = as.foldl step s → St s' ρ' → end_ ρ') → forL lk put body end_ (as.map enc) ρ
  | [], done, s, ρ, h0, h1, hq => hq s ρ (by simpa using h0) rfl h1
  | a :: as, done, s, ρ, h0, h1, hq => by
    obtain ⟨ρ1, g1, g2⟩ := hs done a s ρ h0 h1
    rw [List.map_cons, forL, g1]
    exact g2 _ fun ρ2 hl h2 h3 => ⟨hl, forL_fold enc St step Ok hs as (done ++ [a]) (step s a) ρ2 h3 h2 fun s' ρ' k1 k2 k3 => hq s' ρ' (by simpa using k1) k2 k3⟩
theorem compL_inv2 {lk : Lk} {put : PyData → FE → Option FE} {cond : FE → (Bool → FE → Prop) → Prop} {elt : FE → KQ → Prop} {own : List Nat} {Qe : List PyData → FE → Prop} (I : List PyData → List PyData → FE → Prop)
    (hs : ∀ x r acc ρ, I (x :: r) acc ρ → ∃ ρ1, put x ρ = some ρ1 ∧ ∀ K : List PyData → FE → Prop, (∀ acc' ρ', lkOk lk ρ' → I r acc' ρ' → K acc' ρ') →
      cond ρ1 fun b ρ2 => if b = true then elt ρ2 fun v ρ3 => acc.length < sizeLine ∧ K (acc ++ [v.data]) (wipeF own ρ3) else K acc (wipeF own ρ2))
    (he : ∀ acc ρ, I [] acc ρ → Qe acc ρ) : ∀ (xs acc : List PyData) (ρ : FE), I xs acc ρ → compL lk put cond elt own xs acc ρ Qe
  | [], acc, ρ, h => he acc ρ h
  | x :: xs, acc, ρ, h => by
    obtain ⟨ρ1, h1, h2⟩ := hs x xs acc ρ h
    rw [compL, h1]
    exact h2 (fun acc' ρ' => lkOk lk ρ' ∧ compL lk put cond elt own xs acc' ρ' Qe) fun acc' ρ' hl hi => ⟨hl, compL_inv2 I hs he xs acc' ρ' hi⟩
theorem compL2_map {α : Type} {lk : Lk} {put : PyData → FE → Option FE} {inner : List PyData → FE → (List PyData → FE → Prop) → Prop} {own : List Nat} {Qe : List PyData → FE → Prop} {ρ : FE} (enc : α → PyData) (g : α → List PyData) (hl : lkOk lk ρ) : ∀ (as : List α) (acc : List PyData),
    (∀ a ∈ as, ∃ ρ1, put (enc a) ρ = some ρ1 ∧ ∀ (acc : List PyData) (K : List PyData → FE → Prop), acc.length + (g a).length ≤ sizeLine → (∀ ρ3, wipeF own ρ3 = ρ → K (acc ++ g a) ρ3) → inner acc ρ1 K) →
    acc.length + (as.flatMap g).length ≤ sizeLine → Qe (acc ++ as.flatMap g) ρ → compL2 lk put (fun ρ K => K true ρ) inner own (as.map enc) acc ρ Qe
  | [], acc, _, _, hq => by simpa [compL2] using hq
  | x :: xs, acc, he, hz, hq => by
    obtain ⟨ρ1, h1, h2⟩ := he x List.mem_cons_self
    rw [List.flatMap_cons] at hz hq
    rw [List.length_append] at hz
    rw [List.map_cons, compL2, h1]
    show (if true = true then _ else _)
    rw [if_pos rfl]
    refine h2 acc _ (by omega) fun ρ3 hw => ?_
    rw [hw]
    exact ⟨hl, compL2_map enc g hl xs (acc ++ g x) (fun y hy => he y (List.mem_cons_of_mem _ hy)) (by rw [List.length_append]; omega) (by simpa using hq)⟩
/-! ### ranges -/
def iota (lo : Int) : Nat → List Int
  | 0 => []
  | n + 1 => lo :: iota (lo + 1) n
theorem rangeD_iota : ∀ (n : Nat) (lo : Int), rangeD lo n = (iota lo n).map .int
  | 0, _ => rfl
  | n + 1, lo => by
    show PyData.int lo :: rangeD (lo + 1) n = _
    rw [rangeD_iota n]
    rfl
theorem iota_len : ∀ (n : Nat) (lo : Int), (iota lo n).length = n
  | 0, _ => rfl
  | n + 1, lo => by simp [iota, iota_len n]
theorem mem_iota : ∀ {n : Nat} {lo x : Int}, x ∈ iota lo n ↔ lo ≤ x ∧ x < lo + n
  | 0, lo, x => by simp [iota]
  | n + 1, lo, x => by
    simp only [iota, List.mem_cons, mem_iota (n := n)]
    omega
theorem rangeD_cons {lo : Int} {n : Nat} {x : PyData} {r : List PyData} (h : x :: r = rangeD lo n) : ∃ k, n = k + 1 ∧ x = .int lo ∧ r = rangeD (lo + 1) k := by
  cases n with
  | zero => cases h
  | succ k =>
    cases h
    exact ⟨k, rfl, rfl, rfl⟩
theorem rangeD_nil {lo : Int} {n : Nat} (h : [] = rangeD lo n) : n = 0 := by
  cases n with
  | zero => rfl
  | succ k => cases h
end
end FX
set_option maxHeartbeats 4000000
namespace FX
open PySem PySem.Spec PyProof.Rows L2
/-! ### the same readings, their continuations left alone -/
class Tg {α : Type} (q : α) : Type where
  tag : Unit := ()
instance tgI {α : Type} (q : α) : Tg q := ⟨()⟩
section
variable (G : Gm)
def Lv (e : FX.E) (ρ : FE) (Q : KQ) (E : KX) [Tg Q] [Tg E] (_h : True := trivial) : Prop := (W G e).v ρ Q E
def Lm (e : FX.E) (ρ : FE) (Q : KQ) (E : KX) [Tg Q] [Tg E] (_h : True := trivial) : Prop := (W G e).m ρ Q E
def Lo (e : FX.E) (ρ : FE) (Q : Op → FE → Prop) (E : KX) [Tg Q] [Tg E] (_h : True := trivial) : Prop := (W G e).o ρ Q E
def Lt (e : FX.E) (ρ : FE) (Q : Bool → FE → Prop) (E : KX) [Tg Q] [Tg E] (_h : True := trivial) : Prop := (W G e).t ρ Q E
def Los (e : Es) (ρ : FE) (Q : List Op → FE → Prop) (E : KX) [Tg Q] [Tg E] (_h : True := trivial) : Prop := (Ws G e).os ρ Q E
def Lrs (e : Es) (ρ : FE) (Q : List Rs → FE → Prop) (E : KX) [Tg Q] [Tg E] (_h : True := trivial) : Prop := (Ws G e).rs ρ Q E
def LandV (e : Es) (ρ : FE) (Q : KQ) (E : KX) [Tg Q] [Tg E] (_h : True := trivial) : Prop := (Ws G e).andV ρ Q E
def LorV (e : Es) (ρ : FE) (Q : KQ) (E : KX) [Tg Q] [Tg E] (_h : True := trivial) : Prop := (Ws G e).orV ρ Q E
def LandT (e : Es) (ρ : FE) (Q : Bool → FE → Prop) (E : KX) [Tg Q] [Tg E] (_h : True := trivial) : Prop := (Ws G e).andT ρ Q E
def LorT (e : Es) (ρ : FE) (Q : Bool → FE → Prop) (E : KX) [Tg Q] [Tg E] (_h : True := trivial) : Prop := (Ws G e).orT ρ Q E
def LI (it : I) (ρ : FE) (Q : List PyData → Lk → FE → Prop) (E : KX) [Tg Q] [Tg E] (_h : True := trivial) : Prop := WI G it ρ Q E
def LS (b : S) (ρ : FE) (D : FEnds) [Tg D] (_h : True := trivial) : Prop := WS G b ρ D
end
def LP (f : PF) (ds : List PyData) (k : Rs → Prop) [Tg k] (_h : True := trivial) : Prop := psem f ds k
def LK (mask : List Bool) (sp : FSp) (os : List Op) (ρ : FE) (Q : KQ) (E : KX) [Tg Q] [Tg E] (_h : True := trivial) : Prop := callK mask sp os ρ Q E
def LMs (m : MF) (xs ds : List PyData) (k : PyData → List PyData → Prop) [Tg k] (_h : True := trivial) : Prop := msem m xs ds k
def LTk (o : Op) (ρ : FE) (Q : Bool → Prop) [Tg Q] (_h : True := trivial) : Prop := truthK o ρ Q
def LSl (x : PyData) (lo hi : Option Int) (k : Rs → Prop) [Tg k] (_h : True := trivial) : Prop := sliceD x lo hi k
def LIn (n : Bool) (x y : PyData) (k : Rs → Prop) [Tg k] (_h : True := trivial) : Prop := inAny n x y k
def LF (lk : Lk) (put : PyData → FE → Option FE) (body : FE → (FE → Prop) → Prop) (end_ : FE → Prop) (xs : List PyData) (ρ : FE) [Tg put] [Tg body] [Tg end_] (_h : True := trivial) : Prop := forL lk put body end_ xs ρ
def LC (lk : Lk) (put : PyData → FE → Option FE) (cond : FE → (Bool → FE → Prop) → Prop) (elt : FE → KQ → Prop) (own : List Nat) (xs acc : List PyData) (ρ : FE) (Q : List PyData → FE → Prop) [Tg put] [Tg cond] [Tg elt] [Tg Q] (_h : True := trivial) : Prop := compL lk put cond elt own xs acc ρ Q
section
variable (mt : Nat → Str → Option (List Bool × FSp))
def LMo (k : MO) (ds : List PyData) (Q : Rs → Prop) (E : Exc → Prop) [Tg Q] [Tg E] (_h : True := trivial) : Prop := moR mt k ds Q E
def LMe (m : Str) (ds : List PyData) (Q : Rs → Prop) (E : Exc → Prop) [Tg Q] [Tg E] (_h : True := trivial) : Prop := meR mt m ds Q E
end
def LMk (mask : List Bool) (sp : FSp) (ds : List PyData) (Q : Rs → Prop) (E : Exc → Prop) [Tg Q] [Tg E] (_h : True := trivial) : Prop := meK mask sp ds Q E
def LX {α : Type} (p : α → Prop) [Tg p] (_h : True := trivial) : Prop := Exists p
section
variable {G : Gm} {ρ : FE} {Q : KQ} {E : KX} {QO : Op → FE → Prop} {QT : Bool → FE → Prop} {D : FEnds} {QR : List Rs → FE → Prop} {QL : List Op → FE → Prop}
theorem z_v {e : FX.E} : (W G e).v ρ Q E = Lv G e ρ Q E := propext Iff.rfl
theorem z_m {e : FX.E} : (W G e).m ρ Q E = Lm G e ρ Q E := propext Iff.rfl
theorem z_o {e : FX.E} : (W G e).o ρ QO E = Lo G e ρ QO E := propext Iff.rfl
theorem z_t {e : FX.E} : (W G e).t ρ QT E = Lt G e ρ QT E := propext Iff.rfl
theorem z_rs {e : Es} : (Ws G e).rs ρ QR E = Lrs G e ρ QR E := propext Iff.rfl
theorem z_os {e : Es} : (Ws G e).os ρ QL E = Los G e ρ QL E := propext Iff.rfl
theorem z_andT {e : Es} : (Ws G e).andT ρ QT E = LandT G e ρ QT E := propext Iff.rfl
theorem z_S {b : S} : WS G b ρ D = LS G b ρ D := propext Iff.rfl
theorem z_P {f : PF} {ds : List PyData} {k : Rs → Prop} : psem f ds k = LP f ds k := propext Iff.rfl
theorem z_Tk {o : Op} {P : Bool → Prop} : truthK o ρ P = LTk o ρ P := propext Iff.rfl
end

section
variable {G : Gm} {ρ : FE} {Q : KQ} {E : KX} {QO : Op → FE → Prop} {QT : Bool → FE → Prop} {D : FEnds}
theorem zwv_cst {c : PyData} : Lv G (.cst c) ρ Q E = Q (.d c) ρ := propext Iff.rfl
theorem zwo_cst {c : PyData} : Lo G (.cst c) ρ QO E = QO (.v (.d c)) ρ := propext Iff.rfl
theorem zwm_cst {c : PyData} : Lm G (.cst c) ρ Q E = Q (.d c) ρ := propext Iff.rfl
theorem zwt_cst {c : PyData} : Lt G (.cst c) ρ QT E = LTk (.v (.d c)) ρ fun b => QT b ρ := propext Iff.rfl
theorem zwv_var {i : Nat} : Lv G (.var i) ρ Q E = (match at_ ρ i with
        | .no => False
        | .h _ => False
        | .d x => Q (.d x) ρ
        | .o xs => Q (.d (.list xs)) (ρ.set i (.d (.list xs)))
        | .t kvs => Q (.d (.dict kvs)) (ρ.set i (.d (.dict kvs)))) := propext Iff.rfl
theorem zwo_var {i : Nat} : Lo G (.var i) ρ QO E = ((at_ ρ i).isv = true ∧ QO (.s i) ρ) := FX.wo_var
theorem zwt_var {i : Nat} : Lt G (.var i) ρ QT E = LTk (.s i) ρ fun b => QT b ρ := propext Iff.rfl
theorem zwm_var {i : Nat} : Lm G (.var i) ρ Q E = (match at_ ρ i with
        | .no => False
        | .h _ => False
        | .d x => Q (.d x) ρ
        | .o xs => Q (.o xs) (ρ.set i .no)
        | .t kvs => Q (.d (.dict kvs)) (ρ.set i (.d (.dict kvs)))) := propext Iff.rfl
theorem zwv_glob {g : Nat} : Lv G (.glob g) ρ Q E = (match G.con g with
      | some c => Q (.d c) ρ
      | none => False) := propext Iff.rfl
theorem zwo_glob {g : Nat} : Lo G (.glob g) ρ QO E = (match G.con g with
      | some c => QO (.v (.d c)) ρ
      | none => False) := propext Iff.rfl
theorem zwv_prim {f : PF} {as : Es} : Lv G (.prim f as) ρ Q E = Los G as ρ (fun os ρ' => match gets ρ' os with
      | some ds => LP f ds fun r => Q r ρ'
      | none => False) E := propext Iff.rfl
theorem zwo_prim {f : PF} {as : Es} : Lo G (.prim f as) ρ QO E = Los G as ρ (fun os ρ' => match gets ρ' os with
      | some ds => LP f ds fun r => QO (.v r) ρ'
      | none => False) E := propext Iff.rfl
theorem zwm_prim {f : PF} {as : Es} : Lm G (.prim f as) ρ Q E = Los G as ρ (fun os ρ' => match gets ρ' os with
      | some ds => LP f ds fun r => Q r ρ'
      | none => False) E := propext Iff.rfl
theorem zwt_prim {f : PF} {as : Es} : Lt G (.prim f as) ρ QT E = Los G as ρ (fun os ρ' => match gets ρ' os with
      | some ds => LP f ds fun r => LTk (.v r) ρ' fun b => QT b ρ'
      | none => False) E := propext Iff.rfl
theorem zwv_ands {as : Es} : Lv G (.ands as) ρ Q E = LandV G as ρ Q E := propext Iff.rfl
theorem zwo_ands {as : Es} : Lo G (.ands as) ρ QO E = LandV G as ρ (fun r ρ' => QO (.v r) ρ') E := propext Iff.rfl
theorem zwm_ands {as : Es} : Lm G (.ands as) ρ Q E = LandV G as ρ Q E := propext Iff.rfl
theorem zwt_ands {as : Es} : Lt G (.ands as) ρ QT E = LandT G as ρ QT E := propext Iff.rfl
theorem zwv_ors {as : Es} : Lv G (.ors as) ρ Q E = LorV G as ρ Q E := propext Iff.rfl
theorem zwo_ors {as : Es} : Lo G (.ors as) ρ QO E = LorV G as ρ (fun r ρ' => QO (.v r) ρ') E := propext Iff.rfl
theorem zwm_ors {as : Es} : Lm G (.ors as) ρ Q E = LorV G as ρ Q E := propext Iff.rfl
theorem zwt_ors {as : Es} : Lt G (.ors as) ρ QT E = LorT G as ρ QT E := propext Iff.rfl
theorem zwv_nt {a : FX.E} : Lv G (.nt a) ρ Q E = Lv G a ρ (fun r ρ' => match r with
        | .d (.bool b) => Q (.d (.bool (!b))) ρ'
        | _ => False) E := propext Iff.rfl
theorem zwo_nt {a : FX.E} : Lo G (.nt a) ρ QO E = Lv G a ρ (fun r ρ' => match r with
        | .d (.bool b) => QO (.v (.d (.bool (!b)))) ρ'
        | _ => False) E := propext Iff.rfl
theorem zwm_nt {a : FX.E} : Lm G (.nt a) ρ Q E = Lv G a ρ (fun r ρ' => match r with
        | .d (.bool b) => Q (.d (.bool (!b))) ρ'
        | _ => False) E := propext Iff.rfl
theorem zwt_nt {a : FX.E} : Lt G (.nt a) ρ QT E = Lt G a ρ (fun b ρ' => QT (!b) ρ') E := propext Iff.rfl
theorem zwv_ite {c a b : FX.E} : Lv G (.ite c a b) ρ Q E = Lt G c ρ (fun k ρ' => if k = true then Lv G a ρ' Q E else Lv G b ρ' Q E) E := propext Iff.rfl
theorem zwo_ite {c a b : FX.E} : Lo G (.ite c a b) ρ QO E = Lt G c ρ (fun k ρ' => if k = true then Lv G a ρ' (fun r => QO (.v r)) E else Lv G b ρ' (fun r => QO (.v r)) E) E := propext Iff.rfl
theorem zwm_ite {c a b : FX.E} : Lm G (.ite c a b) ρ Q E = Lt G c ρ (fun k ρ' => if k = true then Lm G a ρ' Q E else Lm G b ρ' Q E) E := propext Iff.rfl
theorem zwt_ite {c a b : FX.E} : Lt G (.ite c a b) ρ QT E = Lt G c ρ (fun k ρ' => if k = true then Lt G a ρ' QT E else Lt G b ρ' QT E) E := propext Iff.rfl
theorem zwv_chain {f g : PF} {a b c : FX.E} : Lv G (.chain f g a b c) ρ Q E = Lo G a ρ (fun x ρ1 => Lo G b ρ1 (fun y ρ2 => match gets ρ2 [x, y] with
      | none => False
      | some ds => LP f ds fun r => match r with
        | .d (.bool k) => if k = true then Lo G c ρ2 (fun z ρ3 => match gets ρ3 [y, z] with
            | none => False
            | some es => LP g es fun r => Q r ρ3) E else Q (.d (.bool false)) ρ2
        | _ => False) E) E := propext Iff.rfl
theorem zwm_chain {f g : PF} {a b c : FX.E} : Lm G (.chain f g a b c) ρ Q E = Lv G (.chain f g a b c) ρ Q E := propext Iff.rfl
theorem zwo_chain {f g : PF} {a b c : FX.E} : Lo G (.chain f g a b c) ρ QO E = Lv G (.chain f g a b c) ρ (fun r ρ' => QO (.v r) ρ') E := propext Iff.rfl
theorem zwt_chain {f g : PF} {a b c : FX.E} : Lt G (.chain f g a b c) ρ QT E = Lv G (.chain f g a b c) ρ (fun r ρ' => match r with
        | .d (.bool k) => QT k ρ'
        | _ => False) E := propext Iff.rfl
theorem zwv_call {f : Nat} {as : Es} : Lv G (.call f as) ρ Q E = (match G.fn f with
      | none => False
      | some (mask, sp) => Los G as ρ (fun os ρ' => LK mask sp os ρ' Q E) E) := propext Iff.rfl
theorem zwm_call {f : Nat} {as : Es} : Lm G (.call f as) ρ Q E = Lv G (.call f as) ρ Q E := propext Iff.rfl
theorem zwo_call {f : Nat} {as : Es} : Lo G (.call f as) ρ QO E = Lv G (.call f as) ρ (fun r ρ' => QO (.v r) ρ') E := propext Iff.rfl
theorem zwt_call {f : Nat} {as : Es} : Lt G (.call f as) ρ QT E = Lv G (.call f as) ρ (fun r ρ' => LTk (.v r) ρ' fun b => QT b ρ') E := propext Iff.rfl
theorem zwv_lst {as : Es} : Lv G (.lst as) ρ Q E = Lrs G as ρ (fun rs ρ' => rs.length ≤ sizeLine ∧ Q (.o (rs.map Rs.data)) ρ') E := propext Iff.rfl
theorem zwm_lst {as : Es} : Lm G (.lst as) ρ Q E = Lrs G as ρ (fun rs ρ' => rs.length ≤ sizeLine ∧ Q (.o (rs.map Rs.data)) ρ') E := propext Iff.rfl
theorem zwo_lst {as : Es} : Lo G (.lst as) ρ QO E = Lrs G as ρ (fun rs ρ' => rs.length ≤ sizeLine ∧ QO (.v (.o (rs.map Rs.data))) ρ') E := propext Iff.rfl
theorem zwt_lst {as : Es} : Lt G (.lst as) ρ QT E = Lrs G as ρ (fun rs ρ' => rs.length ≤ sizeLine ∧ LTk (.v (.o (rs.map Rs.data))) ρ' fun b => QT b ρ') E := propext Iff.rfl
theorem zwv_tup {as : Es} : Lv G (.tup as) ρ Q E = Lrs G as ρ (fun rs ρ' => rs.length ≤ sizeLine ∧ Q (.d (.tuple (rs.map Rs.data))) ρ') E := propext Iff.rfl
theorem zwm_tup {as : Es} : Lm G (.tup as) ρ Q E = Lrs G as ρ (fun rs ρ' => rs.length ≤ sizeLine ∧ Q (.d (.tuple (rs.map Rs.data))) ρ') E := propext Iff.rfl
theorem zwo_tup {as : Es} : Lo G (.tup as) ρ QO E = Lrs G as ρ (fun rs ρ' => rs.length ≤ sizeLine ∧ QO (.v (.d (.tuple (rs.map Rs.data)))) ρ') E := propext Iff.rfl
theorem zwv_comp {own : List Nat} {elt : FX.E} {t : T} {it : I} {cond : Es} : Lv G (.comp own elt t it cond) ρ Q E = LI G it ρ (fun xs lk ρ1 =>
      lkOk lk (wipeF own ρ1) ∧ LC lk t.put (fun ρ K => (Ws G cond).andT ρ K noX) (fun ρ K => (W G elt).v ρ K noX) own xs [] (wipeF own ρ1) fun ys ρ2 => Q (.o ys) ρ2) E := propext Iff.rfl
theorem zwm_comp {own : List Nat} {elt : FX.E} {t : T} {it : I} {cond : Es} : Lm G (.comp own elt t it cond) ρ Q E = Lv G (.comp own elt t it cond) ρ Q E := propext Iff.rfl
theorem zwo_comp {own : List Nat} {elt : FX.E} {t : T} {it : I} {cond : Es} : Lo G (.comp own elt t it cond) ρ QO E = Lv G (.comp own elt t it cond) ρ (fun r ρ' => QO (.v r) ρ') E := propext Iff.rfl
theorem zwv_comp2 {own own1 : List Nat} {elt : FX.E} {t : T} {it : I} {cond : Es} {t1 : T} {it1 : I} {cond1 : Es} : Lv G (.comp2 own own1 elt t it cond t1 it1 cond1) ρ Q E = LI G it ρ (fun xs lk ρ1 =>
      lkOk lk (wipeF own ρ1) ∧ compL2 lk t.put (fun ρ K => (Ws G cond).andT ρ K noX) (fun (acc : List PyData) (ρ : FE) (K : List PyData → FE → Prop) => LI G it1 ρ (fun ys lk1 ρ2 =>
        lkOk lk1 (wipeF own1 ρ2) ∧ LC lk1 t1.put (fun ρ K => (Ws G cond1).andT ρ K noX) (fun ρ K => (W G elt).v ρ K noX) own1 ys acc (wipeF own1 ρ2) K) noX) own xs [] (wipeF own ρ1) fun ys ρ2 => Q (.o ys) ρ2) E := propext Iff.rfl
theorem zwm_comp2 {own own1 : List Nat} {elt : FX.E} {t : T} {it : I} {cond : Es} {t1 : T} {it1 : I} {cond1 : Es} : Lm G (.comp2 own own1 elt t it cond t1 it1 cond1) ρ Q E = Lv G (.comp2 own own1 elt t it cond t1 it1 cond1) ρ Q E := propext Iff.rfl
theorem zwo_comp2 {own own1 : List Nat} {elt : FX.E} {t : T} {it : I} {cond : Es} {t1 : T} {it1 : I} {cond1 : Es} : Lo G (.comp2 own own1 elt t it cond t1 it1 cond1) ρ QO E = Lv G (.comp2 own own1 elt t it cond t1 it1 cond1) ρ (fun r ρ' => QO (.v r) ρ') E := propext Iff.rfl
theorem zwv_mcall {m : MF} {i : Nat} {as : Es} : Lv G (.mcall m i as) ρ Q E = ((match at_ ρ i with
      | .o _ => True
      | _ => False) ∧ Lrs G as ρ (fun rs ρ' => match at_ ρ' i with
      | .o xs => LMs m xs (rs.map Rs.data) fun y xs' => Q (.d y) (ρ'.set i (.o xs'))
      | _ => False) E) := propext Iff.rfl
theorem zwo_mcall {m : MF} {i : Nat} {as : Es} : Lo G (.mcall m i as) ρ QO E = Lv G (.mcall m i as) ρ (fun r ρ' => QO (.v r) ρ') E := propext Iff.rfl
theorem zwv_meth {t : Ty} {f : PF} {a : FX.E} {as : Es} : Lv G (.meth t f a as) ρ Q E = Lo G a ρ (fun x ρ1 => (LX fun d => x.get ρ1 = some d ∧ tyM d = t) ∧ Los G as ρ1 (fun os ρ2 => match gets ρ2 (x :: os) with
      | some ds => LP f ds fun r => Q r ρ2
      | none => False) E) E := propext Iff.rfl
theorem zwm_meth {t : Ty} {f : PF} {a : FX.E} {as : Es} : Lm G (.meth t f a as) ρ Q E = Lv G (.meth t f a as) ρ Q E := propext Iff.rfl
theorem zwo_meth {t : Ty} {f : PF} {a : FX.E} {as : Es} : Lo G (.meth t f a as) ρ QO E = Lv G (.meth t f a as) ρ (fun r ρ' => QO (.v r) ρ') E := propext Iff.rfl
theorem zwv_reprL {as : Es} : Lv G (.reprL as) ρ Q E = Los G as ρ (fun os ρ' => os.length ≤ sizeLine ∧ match gets ρ' os with
      | some ds => LP .repr [.list ds] fun r => Q r ρ'
      | none => False) E := propext Iff.rfl
theorem zwm_reprL {as : Es} : Lm G (.reprL as) ρ Q E = Lv G (.reprL as) ρ Q E := propext Iff.rfl
theorem zwo_reprL {as : Es} : Lo G (.reprL as) ρ QO E = Lv G (.reprL as) ρ (fun r ρ' => QO (.v r) ρ') E := propext Iff.rfl
theorem zwv_lenS {a : FX.E} : Lv G (.lenS a) ρ Q E = Lo G a ρ (fun x ρ1 => match x.get ρ1 with
      | some (.list xs) => LX fun ns : List Int => xs = ns.map .int ∧ ns.length ≤ 4000 ∧ Q (.d (.int ((dedI ns).length : Nat))) ρ1
      | _ => False) E := propext Iff.rfl
theorem zwm_lenS {a : FX.E} : Lm G (.lenS a) ρ Q E = Lv G (.lenS a) ρ Q E := propext Iff.rfl
theorem zwo_lenS {a : FX.E} : Lo G (.lenS a) ρ QO E = Lv G (.lenS a) ρ (fun r ρ1 => QO (.v r) ρ1) E := propext Iff.rfl
theorem zwv_new {c : Nat} {a : FX.E} : Lv G (.new c a) ρ Q E = Lv G a ρ (fun r ρ1 => match G.ct c with
      | some sp => sp r.data (fun z => Q (.d (objD c z)) ρ1) fun x => E x ρ1
      | none => False) E := propext Iff.rfl
theorem zwm_new {c : Nat} {a : FX.E} : Lm G (.new c a) ρ Q E = Lv G (.new c a) ρ Q E := propext Iff.rfl
theorem zwo_new {c : Nat} {a : FX.E} : Lo G (.new c a) ρ QO E = Lv G (.new c a) ρ (fun r ρ1 => QO (.v r) ρ1) E := propext Iff.rfl
theorem zwv_fld {c : Nat} {a : FX.E} : Lv G (.fld a c) ρ Q E = Lv G a ρ (fun r ρ1 => match objOf r.data with
      | some (c', z) => c' = c ∧ Q (.d (.str z)) ρ1
      | none => False) E := propext Iff.rfl
theorem zwm_fld {c : Nat} {a : FX.E} : Lm G (.fld a c) ρ Q E = Lv G (.fld a c) ρ Q E := propext Iff.rfl
theorem zwo_fld {c : Nat} {a : FX.E} : Lo G (.fld a c) ρ QO E = Lv G (.fld a c) ρ (fun r ρ1 => QO (.v r) ρ1) E := propext Iff.rfl
theorem zwi_fld {c : Nat} {a : FX.E} {QI : List PyData → Lk → FE → Prop} : LI G (.seq (.fld a c)) ρ QI E = Lv G (.fld a c) ρ (fun r ρ' => match itemsOf r.data with
      | some xs => QI xs [] ρ'
      | none => False) E := propext Iff.rfl
theorem zwv_mo {k : MO} {as : Es} : Lv G (.mo k as) ρ Q E = Lrs G as ρ (fun rs ρ1 => LMo G.mt k (rs.map Rs.data) (fun r => Q r ρ1) fun x => E x ρ1) E := propext Iff.rfl
theorem zwm_mo {k : MO} {as : Es} : Lm G (.mo k as) ρ Q E = Lv G (.mo k as) ρ Q E := propext Iff.rfl
theorem zwo_mo {k : MO} {as : Es} : Lo G (.mo k as) ρ QO E = Lv G (.mo k as) ρ (fun r ρ1 => QO (.v r) ρ1) E := propext Iff.rfl
theorem zwt_mo {k : MO} {as : Es} : Lt G (.mo k as) ρ QT E = Lv G (.mo k as) ρ (fun r ρ' => LTk (.v r) ρ' fun b => QT b ρ') E := propext Iff.rfl
theorem zwi_mo {k : MO} {as : Es} {QI : List PyData → Lk → FE → Prop} : LI G (.seq (.mo k as)) ρ QI E = Lv G (.mo k as) ρ (fun r ρ' => match itemsOf r.data with
      | some xs => QI xs [] ρ'
      | none => False) E := propext Iff.rfl
theorem zwv_isO {c : Nat} {a : FX.E} : Lv G (.isO a c) ρ Q E = Lv G a ρ (fun r ρ1 => eqOk r.data = true ∧ Q (.d (.bool (match objOf r.data with
      | some (c', _) => c' == c
      | none => false))) ρ1) E := propext Iff.rfl
theorem zwm_isO {c : Nat} {a : FX.E} : Lm G (.isO a c) ρ Q E = Lv G (.isO a c) ρ Q E := propext Iff.rfl
theorem zwo_isO {c : Nat} {a : FX.E} : Lo G (.isO a c) ρ QO E = Lv G (.isO a c) ρ (fun r ρ1 => QO (.v r) ρ1) E := propext Iff.rfl
theorem zwt_isO {c : Nat} {a : FX.E} : Lt G (.isO a c) ρ QT E = Lv G (.isO a c) ρ (fun r ρ' => LTk (.v r) ρ' fun b => QT b ρ') E := propext Iff.rfl
theorem zwv_isT {t : Ty} {a : FX.E} : Lv G (.isT t a) ρ Q E = Lv G a ρ (fun r ρ1 => eqOk r.data = true ∧ Q (.d (.bool (match objOf r.data with
      | some _ => false
      | none => isTy t r.data))) ρ1) E := propext Iff.rfl
theorem zwm_isT {t : Ty} {a : FX.E} : Lm G (.isT t a) ρ Q E = Lv G (.isT t a) ρ Q E := propext Iff.rfl
theorem zwo_isT {t : Ty} {a : FX.E} : Lo G (.isT t a) ρ QO E = Lv G (.isT t a) ρ (fun r ρ1 => QO (.v r) ρ1) E := propext Iff.rfl
theorem zwt_isT {t : Ty} {a : FX.E} : Lt G (.isT t a) ρ QT E = Lv G (.isT t a) ρ (fun r ρ' => LTk (.v r) ρ' fun b => QT b ρ') E := propext Iff.rfl
theorem zwv_smul {a b : FX.E} : Lv G (.smul a b) ρ Q E = Lo G a ρ (fun x ρ1 => Lo G b ρ1 (fun y ρ2 => match gets ρ2 [x, y] with
      | some [.str z, .int j] => -(2 ^ 63) ≤ j ∧ j < 2 ^ 63 ∧ z.length * j.toNat ≤ sizeLine ∧ Q (.d (.str (repS z j.toNat))) ρ2
      | _ => False) E) E := propext Iff.rfl
theorem zwm_smul {a b : FX.E} : Lm G (.smul a b) ρ Q E = Lv G (.smul a b) ρ Q E := propext Iff.rfl
theorem zwo_smul {a b : FX.E} : Lo G (.smul a b) ρ QO E = Lv G (.smul a b) ρ (fun r ρ1 => QO (.v r) ρ1) E := propext Iff.rfl
end
section
variable {G : Gm} {ρ : FE} {Q : KQ} {E : KX} {QO : Op → FE → Prop} {QT : Bool → FE → Prop} {D : FEnds}
variable {mt : Nat → Str → Option (List Bool × FSp)} {QM : Rs → Prop} {EM : Exc → Prop}
theorem zme_ob {m : Str} {c : Nat} {z : Str} {ds : List PyData} : LMe mt m (objD c z :: ds) QM EM = (match mt c m with
    | none => False
    | some (mask, sp) => LMk mask sp (objD c z :: ds) QM EM) := propext Iff.rfl
theorem zmo_neg {x : PyData} : LMo mt .neg [x] QM EM = LMe mt "__neg__" [x] QM EM := propext Iff.rfl
theorem zmo_add {c : Nat} {z t : Str} : LMo mt .add [objD c z, objD c t] QM EM = LMe mt "__add__" [objD c z, objD c t] QM EM := FX.mo_add
theorem zmo_mul {x : PyData} {n : Int} : LMo mt .mul [x, .int n] QM EM = LMe mt "__mul__" [x, .int n] QM EM := FX.mo_mul
theorem zmo_call {ds : List PyData} : LMo mt .call ds QM EM = LMe mt "__call__" ds QM EM := FX.mo_call
theorem zmo_prop {f : Str} {x : PyData} : LMo mt (.prop f) [x] QM EM = LMe mt f [x] QM fun _ => False := propext Iff.rfl
theorem zmo_len {x : PyData} : LMo mt .len [x] QM EM = LMe mt "__len__" [x] (fun r => ∃ n : Int, r = .d (.int n) ∧ 0 ≤ n ∧ n < 2 ^ 63 ∧ QM (.d (.int n))) fun _ => False := propext Iff.rfl
theorem zmo_item {x y : PyData} : LMo mt .item [x, y] QM EM = LMe mt "__getitem__" [x, y] QM EM := propext Iff.rfl
theorem zmo_inn {x y : PyData} : LMo mt .inn [y, x] QM EM = LMe mt "__contains__" [x, y] (fun r => ∃ b, r = .d (.bool b) ∧ QM (.d (.bool b))) fun _ => False := propext Iff.rfl
theorem zmo_eq {x y : PyData} : LMo mt .eq [x, y] QM EM = (eqOk y = true ∧ LMe mt "__eq__" [x, y] (fun r => ∃ b, r = .d (.bool b) ∧ QM (.d (.bool b))) fun _ => False) := propext Iff.rfl
theorem zmo_ne {x y : PyData} : LMo mt .ne [x, y] QM EM = (eqOk y = true ∧ LMe mt "__eq__" [x, y] (fun r => ∃ b, r = .d (.bool b) ∧ QM (.d (.bool (!b)))) fun _ => False) := propext Iff.rfl
end
section
variable {G : Gm} {ρ : FE} {Q : KQ} {E : KX} {QO : Op → FE → Prop} {QT : Bool → FE → Prop} {D : FEnds}
theorem zwv_litD {k : PyData} {n : Int} : Lv G (.litD k n) ρ Q E = (litk [(k, .int n)] = true ∧ Q (.d (.dict [(k, .int n)])) ρ) := propext Iff.rfl
theorem zwm_litD {k : PyData} {n : Int} : Lm G (.litD k n) ρ Q E = (litk [(k, .int n)] = true ∧ Q (.d (.dict [(k, .int n)])) ρ) := propext Iff.rfl
theorem zwo_litD {k : PyData} {n : Int} : Lo G (.litD k n) ρ QO E = (litk [(k, .int n)] = true ∧ QO (.v (.d (.dict [(k, .int n)]))) ρ) := propext Iff.rfl
theorem zwv_dct0 : Lv G .dct0 ρ Q E = Q (.t []) ρ := propext Iff.rfl
theorem zwo_dct0 : Lo G .dct0 ρ QO E = QO (.v (.t [])) ρ := propext Iff.rfl
theorem zwv_dct1 {a b : FX.E} : Lv G (.dct1 a b) ρ Q E = Lv G a ρ (fun x ρ1 => Lv G b ρ1 (fun y ρ2 => keyOk x.data = true ∧ scalar y.data = true ∧ Q (.t [(x.data, y.data)]) ρ2) E) E := propext Iff.rfl
theorem zwv_dupd {i : Nat} {a : FX.E} : Lv G (.dupd i a) ρ Q E = ((match at_ ρ i with
      | .t _ => True
      | _ => False) ∧ Lv G a ρ (fun x ρ1 => match x.data, at_ ρ1 i with
      | .dict more, .t kvs => dkd more = true ∧ kvs ≠ [] ∧ kvs.length + more.length ≤ sizeLine ∧ Q (.d .none) (ρ1.set i (.t (mergeD kvs more)))
      | _, _ => False) E) := propext Iff.rfl
theorem zwo_dupd {i : Nat} {a : FX.E} : Lo G (.dupd i a) ρ QO E = Lv G (.dupd i a) ρ (fun r ρ' => QO (.v r) ρ') E := propext Iff.rfl
theorem zwv_sl {a l h : FX.E} : Lv G (.sl a l h) ρ Q E = Lo G a ρ (fun x ρ1 => Lv G l ρ1 (fun r ρ2 => match r with
      | .d (.int i) => Lv G h ρ2 (fun r2 ρ3 => match r2 with
        | .d (.int j) => (match x.get ρ3 with
          | some p => LSl p (some i) (some j) fun r => Q r ρ3
          | none => False)
        | _ => False) E
      | _ => False) E) E := propext Iff.rfl
theorem zwm_sl {a l h : FX.E} : Lm G (.sl a l h) ρ Q E = Lv G (.sl a l h) ρ Q E := propext Iff.rfl
theorem zwo_sl {a l h : FX.E} : Lo G (.sl a l h) ρ QO E = Lv G (.sl a l h) ρ (fun r ρ' => QO (.v r) ρ') E := propext Iff.rfl
theorem zws_nil_os {QS : List Op → FE → Prop} : Los G .nil ρ QS E = QS [] ρ := propext Iff.rfl
theorem zws_nil_rs {QS : List Rs → FE → Prop} : Lrs G .nil ρ QS E = QS [] ρ := propext Iff.rfl
theorem zws_nil_andT : LandT G .nil ρ QT E = QT true ρ := propext Iff.rfl
theorem zws_nil_orT : LorT G .nil ρ QT E = QT false ρ := propext Iff.rfl
theorem zws_os {a : FX.E} {as : Es} {QS : List Op → FE → Prop} : Los G (.cons a as) ρ QS E = Lo G a ρ (fun x ρ1 => Los G as ρ1 (fun xs ρ2 => QS (x :: xs) ρ2) E) E := propext Iff.rfl
theorem zws_rs {a : FX.E} {as : Es} {QS : List Rs → FE → Prop} : Lrs G (.cons a as) ρ QS E = Lv G a ρ (fun x ρ1 => Lrs G as ρ1 (fun xs ρ2 => QS (x :: xs) ρ2) E) E := propext Iff.rfl
theorem zws_andT {a : FX.E} {as : Es} : LandT G (.cons a as) ρ QT E = Lt G a ρ (fun b ρ1 => if b = true then LandT G as ρ1 QT E else QT false ρ1) E := propext Iff.rfl
theorem zws_orT {a : FX.E} {as : Es} : LorT G (.cons a as) ρ QT E = Lt G a ρ (fun b ρ1 => if b = true then QT true ρ1 else LorT G as ρ1 QT E) E := propext Iff.rfl
theorem zws_andV1 {a : FX.E} : LandV G (.cons a .nil) ρ Q E = Lv G a ρ Q E := propext Iff.rfl
theorem zws_orV1 {a : FX.E} : LorV G (.cons a .nil) ρ Q E = Lv G a ρ Q E := propext Iff.rfl
theorem zws_andV {a b : FX.E} {as : Es} : LandV G (.cons a (.cons b as)) ρ Q E = Lv G a ρ (fun r ρ1 => match r with
          | .d (.bool c) => if c = true then LandV G (.cons b as) ρ1 Q E else Q (.d (.bool false)) ρ1
          | _ => False) E := propext Iff.rfl
theorem zws_orV {a b : FX.E} {as : Es} : LorV G (.cons a (.cons b as)) ρ Q E = Lv G a ρ (fun r ρ1 => match r with
          | .d (.bool c) => if c = true then Q (.d (.bool true)) ρ1 else LorV G (.cons b as) ρ1 Q E
          | _ => False) E := propext Iff.rfl
theorem zwi_var {i : Nat} {QI : List PyData → Lk → FE → Prop} : LI G (.seq (.var i)) ρ QI E = (match (at_ ρ i).data with
      | some (.dict kvs) => dkd kvs = true ∧ QI (kvs.map (·.1)) [] (ρ.set i (.d (.dict kvs)))
      | some x => (match itemsOf x with
        | some xs => QI xs [(i, at_ ρ i)] ρ
        | none => False)
      | none => False) := propext Iff.rfl
theorem zwi_items {a : FX.E} {QI : List PyData → Lk → FE → Prop} : LI G (.items a) ρ QI E = Lv G a ρ (fun r ρ' => match r.data with
      | .dict kvs => dkd kvs = true ∧ QI (pairsD kvs) [] ρ'
      | _ => False) E := propext Iff.rfl
theorem zwi_ite {c a b : FX.E} {QI : List PyData → Lk → FE → Prop} : LI G (.seq (.ite c a b)) ρ QI E = Lv G (.ite c a b) ρ (fun r ρ' => match itemsOf r.data with
      | some xs => QI xs [] ρ'
      | none => False) E := propext Iff.rfl
theorem zwi_call {f : Nat} {as : Es} {QI : List PyData → Lk → FE → Prop} : LI G (.seq (.call f as)) ρ QI E = Lv G (.call f as) ρ (fun r ρ' => match itemsOf r.data with
      | some xs => QI xs [] ρ'
      | none => False) E := propext Iff.rfl
theorem zwi_prim {f : PF} {as : Es} {QI : List PyData → Lk → FE → Prop} : LI G (.seq (.prim f as)) ρ QI E = Lv G (.prim f as) ρ (fun r ρ' => match itemsOf r.data with
      | some xs => QI xs [] ρ'
      | none => False) E := propext Iff.rfl
theorem zwi_lst {as : Es} {QI : List PyData → Lk → FE → Prop} : LI G (.seq (.lst as)) ρ QI E = Lv G (.lst as) ρ (fun r ρ' => match itemsOf r.data with
      | some xs => QI xs [] ρ'
      | none => False) E := propext Iff.rfl
theorem zwi_tup {as : Es} {QI : List PyData → Lk → FE → Prop} : LI G (.seq (.tup as)) ρ QI E = Lv G (.tup as) ρ (fun r ρ' => match itemsOf r.data with
      | some xs => QI xs [] ρ'
      | none => False) E := propext Iff.rfl
theorem zwi_meth {t : Ty} {f : PF} {a : FX.E} {as : Es} {QI : List PyData → Lk → FE → Prop} : LI G (.seq (.meth t f a as)) ρ QI E = Lv G (.meth t f a as) ρ (fun r ρ' => match itemsOf r.data with
      | some xs => QI xs [] ρ'
      | none => False) E := propext Iff.rfl
theorem zwi_sl {a l h : FX.E} {QI : List PyData → Lk → FE → Prop} : LI G (.seq (.sl a l h)) ρ QI E = Lv G (.sl a l h) ρ (fun r ρ' => match itemsOf r.data with
      | some xs => QI xs [] ρ'
      | none => False) E := propext Iff.rfl
theorem zwi_comp {own : List Nat} {elt : FX.E} {t : T} {it : I} {cond : Es} {QI : List PyData → Lk → FE → Prop} : LI G (.seq (.comp own elt t it cond)) ρ QI E = Lv G (.comp own elt t it cond) ρ (fun r ρ' => match itemsOf r.data with
      | some xs => QI xs [] ρ'
      | none => False) E := propext Iff.rfl
theorem zwi_comp2 {own own1 : List Nat} {elt : FX.E} {t : T} {it : I} {cond : Es} {t1 : T} {it1 : I} {cond1 : Es} {QI : List PyData → Lk → FE → Prop} : LI G (.seq (.comp2 own own1 elt t it cond t1 it1 cond1)) ρ QI E = Lv G (.comp2 own own1 elt t it cond t1 it1 cond1) ρ (fun r ρ' => match itemsOf r.data with
      | some xs => QI xs [] ρ'
      | none => False) E := propext Iff.rfl
theorem zwi_dct0  {QI : List PyData → Lk → FE → Prop} : LI G (.seq (.dct0)) ρ QI E = Lv G (.dct0) ρ (fun r ρ' => match itemsOf r.data with
      | some xs => QI xs [] ρ'
      | none => False) E := propext Iff.rfl
theorem zwi_reprL {as : Es} {QI : List PyData → Lk → FE → Prop} : LI G (.seq (.reprL as)) ρ QI E = Lv G (.reprL as) ρ (fun r ρ' => match itemsOf r.data with
      | some xs => QI xs [] ρ'
      | none => False) E := propext Iff.rfl
theorem zwm_glob {g : Nat} : Lm G (.glob g) ρ Q E = Lv G (.glob g) ρ Q E := propext Iff.rfl
theorem zwi_cst {c : PyData} {QI : List PyData → Lk → FE → Prop} : LI G (.seq (.cst c)) ρ QI E = (match itemsOf c with
      | some xs => QI xs [] ρ
      | none => False) := propext Iff.rfl
theorem zwi_glob {g : Nat} {QI : List PyData → Lk → FE → Prop} : LI G (.seq (.glob g)) ρ QI E = (match G.con g with
      | some c => (match itemsOf c with
        | some xs => QI xs [] ρ
        | none => False)
      | none => False) := propext Iff.rfl
theorem zwi_rng1 {a : FX.E} {QI : List PyData → Lk → FE → Prop} : LI G (.rng1 a) ρ QI E = Lo G a ρ (fun x ρ' => match x.get ρ' with
      | some (.int j) => -(2 ^ 62) ≤ j ∧ j < 2 ^ 62 ∧ QI (rangeD 0 j.toNat) [] ρ'
      | _ => False) E := propext Iff.rfl
theorem zwi_rng2 {a b : FX.E} {QI : List PyData → Lk → FE → Prop} : LI G (.rng2 a b) ρ QI E = Lo G a ρ (fun x ρ1 => Lo G b ρ1 (fun y ρ2 => match gets ρ2 [x, y] with
      | some [.int i, .int j] => -(2 ^ 62) ≤ i ∧ i < 2 ^ 62 ∧ -(2 ^ 62) ≤ j ∧ j < 2 ^ 62 ∧ QI (rangeD i (j - i).toNat) [] ρ2
      | _ => False) E) E := propext Iff.rfl
theorem zwi_zip {a b : FX.E} {QI : List PyData → Lk → FE → Prop} : LI G (.zip a b) ρ QI E = Lo G a ρ (fun x ρ1 => Lo G b ρ1 (fun y ρ2 => match gets ρ2 [x, y] with
      | some [.list xs, .list ys] => QI (zipD xs ys) (lkOf x ρ2 ++ lkOf y ρ2) ρ2
      | _ => False) E) E := propext Iff.rfl
theorem zwi_enumZ {a b : FX.E} {QI : List PyData → Lk → FE → Prop} : LI G (.enumZ a b) ρ QI E = Lo G a ρ (fun x ρ1 => Lo G b ρ1 (fun y ρ2 => match gets ρ2 [x, y] with
      | some [.str s, .str t] => QI (enumD (zipD (strChars s) (strChars t)) 0) [] ρ2
      | _ => False) E) E := propext Iff.rfl
theorem zwi_enum {a : FX.E} {QI : List PyData → Lk → FE → Prop} : LI G (.enum a) ρ QI E = Lo G a ρ (fun x ρ' => match x.get ρ' with
      | some (.list xs) => QI (enumD xs 0) (lkOf x ρ') ρ'
      | some (.str z) => QI (enumD (strChars z) 0) [] ρ'
      | _ => False) E := propext Iff.rfl
theorem zwi_rngD {a b : FX.E} {QI : List PyData → Lk → FE → Prop} : LI G (.rngD a b) ρ QI E = Lo G a ρ (fun x ρ1 => Lo G b ρ1 (fun y ρ2 => match gets ρ2 [x, y] with
      | some [.int i, .int j] => -(2 ^ 62) ≤ i ∧ i < 2 ^ 62 ∧ -(2 ^ 62) ≤ j ∧ j < 2 ^ 62 ∧ QI (rangeN i (i - j).toNat) [] ρ2
      | _ => False) E) E := propext Iff.rfl
theorem zs_skip : LS G .skip ρ D = D.nx ρ := propext Iff.rfl
theorem zs_pass : LS G .pass ρ D = D.nx ρ := propext Iff.rfl
theorem zs_brk : LS G .brk ρ D = D.bk ρ := propext Iff.rfl
theorem zs_cnt : LS G .cnt ρ D = D.ct ρ := propext Iff.rfl
theorem zs_never : LS G .never ρ D = False := propext Iff.rfl
theorem zs_seq {a b : S} : LS G (.seq a b) ρ D = LS G a ρ { D with nx := fun ρ1 => LS G b ρ1 D } := propext Iff.rfl
theorem zs_ex {e : FX.E} : LS G (.ex e) ρ D = Lo G e ρ (fun _ ρ1 => D.nx ρ1) D.ex := propext Iff.rfl
theorem zs_asg {t : T} {e : FX.E} : LS G (.asg t e) ρ D = Lv G e ρ (fun r ρ1 => match t.store r ρ1 with
      | some ρ2 => D.nx ρ2
      | none => False) D.ex := propext Iff.rfl
theorem zs_asgT {ts : Ts} {es : Es} : LS G (.asgT ts es) ρ D = Lrs G es ρ (fun rs ρ1 => match ts.store rs ρ1 with
      | some ρ2 => D.nx ρ2
      | none => False) D.ex := propext Iff.rfl
theorem zs_aug {i : Nat} {f : PF} {e : FX.E} : LS G (.aug i f e) ρ D = (match at_ ρ i with
      | .d (.int m) => Lo G e ρ (fun y ρ1 => match y.get ρ1, f with
          | some (.int n), .add => D.nx (ρ1.set i (.d (.int (m + n))))
          | some (.int n), .sub => D.nx (ρ1.set i (.d (.int (m - n))))
          | _, _ => False) D.ex
      | .d (.str s) => f = .add ∧ Lo G e ρ (fun y ρ1 => match y.get ρ1 with
          | some (.str t) => s.length + t.length ≤ sizeLine ∧ D.nx (ρ1.set i (.d (.str (s ++ t))))
          | _ => False) D.ex
      | .o _ => f = .add ∧ Lo G e ρ (fun y ρ1 => match y.get ρ1, at_ ρ1 i with
          | some (.list ys), .o xs => xs.length + ys.length ≤ sizeLine ∧ D.nx (ρ1.set i (.o (xs ++ ys)))
          | _, _ => False) D.ex
      | _ => False) := propext Iff.rfl
theorem zs_setI {i : Nat} {ix e : FX.E} : LS G (.setI i ix e) ρ D = Lv G e ρ (fun r ρ1 => (match at_ ρ1 i with
      | .o _ => True
      | .t _ => True
      | _ => False) ∧ Lo G ix ρ1 (fun y ρ2 => match y.get ρ2, at_ ρ2 i with
      | some (.int j), .o xs => LX fun n => L2.ixN xs.length j = some n ∧ D.nx (ρ2.set i (.o (xs.set n r.data)))
      | some k, .t kvs => keyOk k = true ∧ scalar r.data = true ∧ kvs.length < sizeLine ∧ D.nx (ρ2.set i (.t (dputK kvs k r.data)))
      | _, _ => False) D.ex) D.ex := propext Iff.rfl
theorem zs_ifs {c : FX.E} {a b : S} : LS G (.ifs c a b) ρ D = Lt G c ρ (fun k ρ1 => if k = true then LS G a ρ1 D else LS G b ρ1 D) D.ex := propext Iff.rfl
theorem zs_fr {t : T} {it : I} {b : S} : LS G (.fr t it b) ρ D = LI G it ρ (fun xs lk ρ1 => lkFree lk (t.vars ++ b.asgs) = true ∧
      LF lk t.put (fun ρ K => WS G b ρ { nx := K, ct := K, bk := D.nx, rt := D.rt, ex := D.ex }) D.nx xs ρ1) D.ex := propext Iff.rfl
theorem zs_ret {e : FX.E} : LS G (.ret e) ρ D = Lm G e ρ D.rt D.ex := propext Iff.rfl
theorem zs_retv {e : FX.E} : LS G (.retv e) ρ D = Lv G e ρ D.rt D.ex := propext Iff.rfl
theorem zs_setI2 {i : Nat} {ix iy e : FX.E} : LS G (.setI2 i ix iy e) ρ D = Lv G e ρ (fun r ρ1 => match r.data with
      | .tuple [x, y] => setK (W G ix).o i x ρ1 (fun ρ2 => setK (W G iy).o i y ρ2 D.nx D.ex) D.ex
      | _ => False) D.ex := propext Iff.rfl
theorem zs_rais {c : Nat} : LS G (.rais c .nil) ρ D = D.ex ⟨c, none⟩ ρ := propext Iff.rfl
theorem zs_tryR {b : S} {c i : Nat} {h : HX} : LS G (.tryR b c i h) ρ D = LS G b ρ { D with ex := fun x ρ1 => if G.sub x.cls c = true then h.run G.sub x (fun s => D.rt (.d (.str s)) ρ1) else D.ex x ρ1 } := propext Iff.rfl
theorem zs_retN : LS G .retN ρ D = D.rt (.d .none) ρ := propext Iff.rfl
theorem ztk_b {b : Bool} {P : Bool → Prop} : LTk (.v (.d (.bool b))) ρ P = (True ∧ P b) := propext Iff.rfl
theorem ztk_i {i : Int} {P : Bool → Prop} : LTk (.v (.d (.int i))) ρ P = (True ∧ P (i != 0)) := propext Iff.rfl
theorem ztk_s {i : Nat} {P : Bool → Prop} : LTk (.s i) ρ P = (match (at_ ρ i).data with
  | some x => lenOk x ∧ (match truth x with
    | some b => P b
    | none => False)
  | none => False) := propext Iff.rfl
end
section
variable {G : Gm} {ρ : FE} {Q : KQ} {E : KX} {QO : Op → FE → Prop} {QT : Bool → FE → Prop} {D : FEnds}
variable {k : Rs → Prop} {i j : Int} {a b : Str} {xs ys : List PyData} {p q : PyData}
theorem zsld_l {lo hi : Option Int} : LSl (.list xs) lo hi k = k (.o (cutD xs lo hi)) := propext Iff.rfl
theorem zsld_t {lo hi : Option Int} : LSl (.tuple xs) lo hi k = k (.d (.tuple (cutD xs lo hi))) := propext Iff.rfl
theorem zsld_s {lo hi : Option Int} : LSl (.str a) lo hi k = (a.length ≤ sizeLine ∧ k (.d (.str (L2.cutS a lo hi)))) := propext Iff.rfl
theorem zps_addI : LP .add [.int i, .int j] k = k (.d (.int (i + j))) := propext Iff.rfl
theorem zps_addS : LP .add [.str a, .str b] k = (a.length + b.length ≤ sizeLine ∧ k (.d (.str (a ++ b)))) := propext Iff.rfl
theorem zps_addL : LP .add [.list xs, .list ys] k = (xs.length + ys.length ≤ sizeLine ∧ k (.o (xs ++ ys))) := propext Iff.rfl
theorem zps_addT : LP .add [.tuple xs, .tuple ys] k = (xs ≠ [] ∧ xs.length + ys.length ≤ sizeLine ∧ k (.d (.tuple (xs ++ ys)))) := propext Iff.rfl
theorem zps_sub : LP .sub [.int i, .int j] k = k (.d (.int (i - j))) := propext Iff.rfl
theorem zps_mul : LP .mul [.int i, .int j] k = (IntMulOk i j ∧ k (.d (.int (i * j)))) := propext Iff.rfl
theorem zps_mulL : LP .mul [.list xs, .int j] k = (-(2 ^ 63) ≤ j ∧ j < 2 ^ 63 ∧ xs.length * j.toNat ≤ sizeLine ∧ k (.o (List.replicate j.toNat xs).flatten)) := propext Iff.rfl
theorem zps_fdiv : LP .fdiv [.int i, .int j] k = (0 < j ∧ j.natAbs.log2 < 9000 ∧ k (.d (.int (i / j)))) := propext Iff.rfl
theorem zps_mod : LP .mod [.int i, .int j] k = (0 < j ∧ k (.d (.int (i % j)))) := propext Iff.rfl
theorem zps_shl : LP .shl [.int i, .int j] k = (0 ≤ j ∧ (Builtin.Int.intBits i : Int) + j ≤ 2 ^ 27 ∧ k (.d (.int (i * 2 ^ j.toNat)))) := propext Iff.rfl
theorem zps_shr : LP .shr [.int i, .int j] k = (0 ≤ j ∧ k (.d (.int (i / 2 ^ j.toNat)))) := propext Iff.rfl
theorem zps_pow : LP .pow [.int i, .int j] k = (0 ≤ j ∧ (Builtin.Int.intBits i : Int) * j ≤ 2 ^ 27 ∧ k (.d (.int (i ^ j.toNat)))) := propext Iff.rfl
theorem zps_neg : LP .neg [.int i] k = k (.d (.int (-i))) := propext Iff.rfl
theorem zps_eq : LP .eq [p, q] k = (shp p q = true ∧ shp q p = true ∧ k (.d (.bool (PyData.eqv p q)))) := propext Iff.rfl
theorem zps_ne : LP .ne [p, q] k = (shp p q = true ∧ shp q p = true ∧ k (.d (.bool (!PyData.eqv p q)))) := propext Iff.rfl
theorem zps_ltS {a b : Str} : LP .lt [.str a, .str b] k = k (.d (.bool (decide (a.cps.toList < b.cps.toList)))) := propext Iff.rfl
theorem zps_lt : LP .lt [.int i, .int j] k = k (.d (.bool (decide (i < j)))) := propext Iff.rfl
theorem zps_le : LP .le [.int i, .int j] k = k (.d (.bool (decide (i ≤ j)))) := propext Iff.rfl
theorem zps_gt : LP .gt [.int i, .int j] k = k (.d (.bool (decide (j < i)))) := propext Iff.rfl
theorem zps_ge : LP .ge [.int i, .int j] k = k (.d (.bool (decide (j ≤ i)))) := propext Iff.rfl
theorem zps_inn : LP .inn [p, q] k = LIn false p q k := propext Iff.rfl
theorem zps_nin : LP .nin [p, q] k = LIn true p q k := propext Iff.rfl
theorem zps_isB {a b : Bool} : LP .isB [.bool a, .bool b] k = k (.d (.bool (a == b))) := propext Iff.rfl
theorem zps_notB {a b : Bool} : LP .notB [.bool a, .bool b] k = k (.d (.bool (!(a == b)))) := propext Iff.rfl
theorem zps_isN : LP .isN [p] k = k (.d (.bool (isNone p))) := propext Iff.rfl
theorem zps_notN : LP .notN [p] k = k (.d (.bool (!isNone p))) := propext Iff.rfl
theorem zps_ixL : LP .index [.list xs, .int i] k = LX fun x => L2.atI xs i = some x ∧ k (.d x) := propext Iff.rfl
theorem zps_ixT : LP .index [.tuple xs, .int i] k = LX fun x => L2.atI xs i = some x ∧ k (.d x) := propext Iff.rfl
theorem zps_ixS : LP .index [.str a, .int i] k = (a.length ≤ sizeLine ∧ LX fun c => L2.atI a.cps.toList i = some c ∧ k (.d (.str ⟨#[c]⟩))) := propext Iff.rfl
theorem zps_lenL : LP .len [.list xs] k = k (.d (.int xs.length)) := propext Iff.rfl
theorem zps_lenT : LP .len [.tuple xs] k = k (.d (.int xs.length)) := propext Iff.rfl
theorem zps_lenS : LP .len [.str a] k = (a.length ≤ sizeLine ∧ k (.d (.int a.length))) := propext Iff.rfl
theorem zps_sl0 : LP (.slice false false) [p] k = LSl p none none k := propext Iff.rfl
theorem zps_sl1 : LP (.slice true false) [p, .int i] k = LSl p (some i) none k := propext Iff.rfl
theorem zps_sl2 : LP (.slice false true) [p, .int i] k = LSl p none (some i) k := propext Iff.rfl
theorem zps_rev : LP .rev [.list xs] k = k (.o xs.reverse) := propext Iff.rfl
theorem zps_abs : LP .abs [.int i] k = k (.d (.int (if i < 0 then -i else i))) := propext Iff.rfl
theorem zps_max2 : LP .max2 [.int i, .int j] k = k (.d (.int (if j > i then j else i))) := propext Iff.rfl
theorem zps_min2s {i j : Str} : LP .min2 [.str i, .str j] k = k (.d (.str (if j.cps.toList < i.cps.toList then j else i))) := propext Iff.rfl
theorem zps_min2 : LP .min2 [.int i, .int j] k = k (.d (.int (if j < i then j else i))) := propext Iff.rfl
theorem zps_maxL : LP .maxL [.list xs] k = LX fun ns : List Int => xs = ns.map .int ∧ 0 < ns.length ∧ ∀ m, m ∈ ns → (∀ y, y ∈ ns → y ≤ m) → k (.d (.int m)) := propext Iff.rfl
theorem zps_minL : LP .minL [.list xs] k = LX fun ns : List Int => xs = ns.map .int ∧ 0 < ns.length ∧ ∀ m, m ∈ ns → (∀ y, y ∈ ns → m ≤ y) → k (.d (.int m)) := propext Iff.rfl
theorem zps_sum : LP .sum [.list xs] k = LX fun ns : List Int => xs = ns.map .int ∧ k (.d (.int ns.sum)) := propext Iff.rfl
theorem zps_all : LP .all [.list xs] k = LX fun bs : List Bool => xs = bs.map .bool ∧ k (.d (.bool (bs.all id))) := propext Iff.rfl
theorem zps_any : LP .any [.list xs] k = LX fun bs : List Bool => xs = bs.map .bool ∧ k (.d (.bool (bs.any id))) := propext Iff.rfl
theorem zps_sorted : LP .sorted [.list xs] k = LX fun ns : List Int => xs = ns.map .int ∧ ∀ ns' : List Int, ns'.Perm ns → ns'.Pairwise (· ≤ ·) → k (.o (ns'.map .int)) := propext Iff.rfl
theorem zps_listL : LP .list [.list xs] k = k (.o xs) := propext Iff.rfl
theorem zps_listS {z : Str} : LP .list [.str z] k = (z.length ≤ sizeLine ∧ k (.o (z.cps.toList.map fun c => .str ⟨#[c]⟩))) := propext Iff.rfl
theorem zps_listT : LP .list [.tuple xs] k = k (.o xs) := propext Iff.rfl
theorem zps_tupL : LP .tuple [.list xs] k = k (.d (.tuple xs)) := propext Iff.rfl
theorem zps_intI : LP .int [.int i] k = k (.d (.int i)) := propext Iff.rfl
theorem zps_intS : LP .int [.str a] k = LX fun n => PySem.intText? a = some n ∧ a.length ≤ 640 ∧ k (.d (.int n)) := propext Iff.rfl
theorem zps_strI : LP .str [.int i] k = (i.natAbs.log2 < 1920 ∧ k (.d (.str (toString i)))) := propext Iff.rfl
theorem zps_repr : LP .repr [p] k = (PyData.showable p = true ∧ badD p = false ∧ p.shown.length ≤ sizeLine ∧ p.depth ≤ 60 ∧ k (.d (.str p.shown))) := propext Iff.rfl
theorem zps_isi {t : Ty} : LP (.isi t) [p] k = (isDict p = false ∧ k (.d (.bool (isTy t p)))) := propext Iff.rfl
theorem zps_join : LP .join [.str a, .list xs] k = LX fun ys : List Str => xs = ys.map .str ∧ (ys.map (·.length)).sum + ys.length * a.length ≤ 16777216 ∧ k (.d (.str (Txt.join a ys))) := propext Iff.rfl
theorem zps_split : LP .split [.str a, .str b] k = ((b.length == 0) = false ∧ a.length + 2 ≤ sizeLine ∧ k (.o ((Txt.split a b).map .str))) := propext Iff.rfl
theorem zps_sortedR : LP .sortedR [.list xs] k = LX fun rows : List (List Int) => xs = rows.map rowD ∧ k (.o ((rows.mergeSort fun p q => decide (p ≤ q)).map rowD)) := propext Iff.rfl
theorem zps_dgetI {kvs : List (PyData × PyData)} {ks : List PyData} : LP .index [.dict kvs, .tuple ks] k = (keyOk (.tuple ks) = true ∧ LX fun x => dgetK kvs (.tuple ks) = some x ∧ k (.d x)) := propext Iff.rfl
theorem zps_dget1 {kvs : List (PyData × PyData)} : LP .dget [.dict kvs, p] k = (dkd kvs = true ∧ keyOk p = true ∧ k (.d ((dgetK kvs p).getD .none))) := propext Iff.rfl
theorem zps_dget2 {kvs : List (PyData × PyData)} : LP .dget [.dict kvs, p, q] k = (dkd kvs = true ∧ keyOk p = true ∧ scalar q = true ∧ k (.d ((dgetK kvs p).getD q))) := propext Iff.rfl
theorem zps_eqE {kvs : List (PyData × PyData)} : LP .eqE [.dict kvs] k = (dkd kvs = true ∧ k (.d (.bool kvs.isEmpty))) := propext Iff.rfl
theorem zps_neE {kvs : List (PyData × PyData)} : LP .neE [.dict kvs] k = (dkd kvs = true ∧ k (.d (.bool (!kvs.isEmpty)))) := propext Iff.rfl
theorem zia_dict {n : Bool} {kvs : List (PyData × PyData)} : LIn n p (.dict kvs) k = (dkd kvs = true ∧ keyOk p = true ∧ k (.d (.bool (xor n (dgetK kvs p).isSome)))) := FX.ia_dict
theorem zps_scrL {ns : List Int} : LP .len [.dict (scrK ns)] k = k (.d (.int (ns.length : Nat))) := FX.ps_scrL
theorem zps_scrI {ns : List Int} : LP .index [.dict (scrK ns), .int i] k = LX fun x => L2.atI (ns.map PyData.int) i = some x ∧ k (.d x) := FX.ps_scrI
theorem zex_ix0 {α : Type} {x : α} {xs : List α} {P : α → Prop} : (LX fun y => L2.atI (x :: xs) 0 = some y ∧ P y) = P x := FX.ex_ix0
theorem zex_ix1 {α : Type} {a x : α} {xs : List α} {P : α → Prop} : (LX fun y => L2.atI (a :: x :: xs) 1 = some y ∧ P y) = P x := FX.ex_ix1
theorem zex_ix2 {α : Type} {a b x : α} {xs : List α} {P : α → Prop} : (LX fun y => L2.atI (a :: b :: x :: xs) 2 = some y ∧ P y) = P x := FX.ex_ix2
theorem zex_ixN30 {P : Nat → Prop} : (LX fun n => L2.ixN 3 0 = some n ∧ P n) = P 0 := FX.ex_ixN30
theorem zex_ixN31 {P : Nat → Prop} : (LX fun n => L2.ixN 3 1 = some n ∧ P n) = P 1 := FX.ex_ixN31
theorem zex_ixN32 {P : Nat → Prop} : (LX fun n => L2.ixN 3 2 = some n ∧ P n) = P 2 := FX.ex_ixN32
theorem zms_append {k : PyData → List PyData → Prop} : LMs .append xs [p] k = (xs.length < sizeLine ∧ k .none (xs ++ [p])) := propext Iff.rfl
theorem zms_extend {k : PyData → List PyData → Prop} : LMs .extend xs [.list ys] k = (xs.length + ys.length ≤ sizeLine ∧ k .none (xs ++ ys)) := propext Iff.rfl
theorem zms_pop {k : PyData → List PyData → Prop} : LMs .pop xs [] k = LX fun y => xs[xs.length - 1]? = some y ∧ k y xs.dropLast := propext Iff.rfl
theorem zms_popAt {k : PyData → List PyData → Prop} : LMs .popAt xs [.int i] k = (-(2 ^ 63) ≤ i ∧ i < 2 ^ 63 ∧ LX fun j => LX fun y => seqIndex? i xs.length = some j ∧ xs[j]? = some y ∧ k y (xs.eraseIdx j)) := propext Iff.rfl
theorem zms_reverse {k : PyData → List PyData → Prop} : LMs .reverse xs [] k = k .none xs.reverse := propext Iff.rfl
end
theorem if_and {c a b : Prop} [Decidable c] : (if c then a else b) = (if c then a else b) := rfl
end FX
namespace FX
open PySem PySem.Spec PyProof.Rows
open Builtin.Int (intBits)
theorem bits_le {x : Int} {n : Nat} (h0 : 0 ≤ x) (h : x < 2 ^ n) : intBits x ≤ n := by
  refine intBits_le_iff.mpr ?_
  have : ((x.natAbs : Nat) : Int) < ((2 ^ n : Nat) : Int) := by
    rw [Int.natAbs_of_nonneg h0]
    simpa using h
  exact Int.ofNat_lt.mp this
theorem mul_ok {a b : Int} (m n : Nat) (ha0 : 0 ≤ a) (ha : a < 2 ^ m) (hb0 : 0 ≤ b) (hb : b < 2 ^ n) (h : m + n ≤ 134217728) : IntMulOk a b := IntMulOk.of_le (bits_le ha0 ha) (bits_le hb0 hb) h
theorem log_ok {m : Int} (h0 : 0 < m) (h : m < 2 ^ 60) : m.natAbs.log2 < 9000 := by
  have h1 : m.natAbs < 2 ^ 60 := by omega
  have : m.natAbs.log2 < 60 := (Nat.log2_lt (by omega)).mpr h1
  omega
theorem pow_ok {x : Int} (n : Nat) {k : Int} (h0 : 0 ≤ x) (h : x < 2 ^ n) (hk0 : 0 ≤ k) (hk : (n : Int) * k ≤ 2 ^ 27) : (intBits x : Int) * k ≤ 2 ^ 27 :=
  Int.le_trans (Int.mul_le_mul_of_nonneg_right (Int.ofNat_le.mpr (bits_le h0 h)) hk0) hk
theorem args1 {args : List Rs} {x : PyData} (h : args.map Rs.data = [x]) : ∃ r, args = [r] ∧ r.data = x := by
  match args, h with
  | [a], h => exact ⟨a, rfl, by simpa using h⟩
theorem args2 {args : List Rs} {x y : PyData} (h : args.map Rs.data = [x, y]) : ∃ r s, args = [r, s] ∧ r.data = x ∧ s.data = y := by
  match args, h with
  | [a, b], h => exact ⟨a, b, rfl, by simpa using h⟩
theorem args3 {args : List Rs} {x y z : PyData} (h : args.map Rs.data = [x, y, z]) : ∃ r s t, args = [r, s, t] ∧ r.data = x ∧ s.data = y ∧ t.data = z := by
  match args, h with
  | [a, b, c], h => exact ⟨a, b, c, rfl, by simpa using h⟩
theorem rs_d {r : Rs} {x : PyData} (h : r.data = x) (hx : tyOf x ≠ .list) (hd : isDct x = false := by rfl) : r = .d x := by
  cases r with
  | d y => exact congrArg Rs.d h
  | o xs => subst h; exact absurd rfl hx
  | t xs => subst h; cases hd
theorem rs_k {r : Rs} {kvs : List (PyData × PyData)} (h : r.data = .dict kvs) : r = .d (.dict kvs) ∨ r = .t kvs := by
  cases r with
  | d y => exact .inl (congrArg Rs.d h)
  | o xs => cases h
  | t xs => cases h; exact .inr rfl
theorem atI_nn {α : Type} {xs : List α} {i : Int} (h0 : 0 ≤ i) (h : i < xs.length) : L2.atI xs i = some (xs[i.toNat]'(by omega)) := by
  have e : L2.atI xs ((i.toNat : Nat) : Int) = some (xs[i.toNat]'(by omega)) := L2.atI_nat (List.getElem?_eq_getElem (by omega))
  rwa [Int.toNat_of_nonneg h0] at e
/-! ### the draws of the laws: a barrel -/
def Barrel (t : Int) (xs : List PyData) : Prop := ∃ a b c : Int, xs = [.int a, .int b, .int c] ∧ 0 ≤ b ∧ b < 2 ^ 160 ∧ 0 ≤ c ∧ c ≤ t
theorem Barrel.mono {t u : Int} {xs : List PyData} (b : Barrel t xs) (h : t ≤ u) : Barrel u xs := by
  obtain ⟨x, y, z, h1, h2, h3, h4, h5⟩ := b
  exact ⟨x, y, z, h1, h2, h3, h4, by omega⟩
/-! ### data of a bounded form -/
structure Fine (D Wt : Nat) (d : PyData) : Prop where
  lay : d.canLay0 = true
  dep : d.depth ≤ D
  wt : d.weight ≤ Wt
  sh : d.intsShort 13 = true
  show_ : d.showable = true
  nod : d.hasDict = false
structure FineAll (D Wt : Nat) (ds : List PyData) : Prop where
  lay : PyData.canLayAll0 ds = true
  dep : PyData.depthAll ds ≤ D
  wt : PyData.weightAll ds ≤ ds.length * (Wt + 1)
  sh : PyData.intsShortAll 13 ds = true
  show_ : PyData.showableAll ds = true
  nod : PyData.hasDictAll ds = false
theorem Fine.int {i : Int} (h0 : 0 ≤ i) (h : i < 2 ^ 40) : Fine 0 40 (.int i) where
  lay := rfl
  dep := Nat.le_refl _
  wt := by
    have : intBits i ≤ 40 := bits_le h0 h
    exact this
  sh := by
    have h1 : (Str.ofString (toString i)).length ≤ 13 := toString_length_le h0 (by decide) (by omega)
    exact decide_eq_true h1
  show_ := by
    have : i.natAbs.log2 < 1920 := by
      by_cases hz : i = 0
      · subst hz; decide
      · have h1 : i.natAbs < 2 ^ 40 := by omega
        have : i.natAbs.log2 < 40 := (Nat.log2_lt (by omega)).mpr h1
        omega
    exact decide_eq_true this
  nod := rfl
theorem FineAll.of {D Wt : Nat} : ∀ {ds : List PyData}, (∀ d ∈ ds, Fine D Wt d) → FineAll D Wt ds
  | [], _ => ⟨rfl, Nat.zero_le _, Nat.zero_le _, rfl, rfl, rfl⟩
  | d :: ds, h => by
    have a := h d List.mem_cons_self
    have b := FineAll.of (ds := ds) fun x hx => h x (List.mem_cons_of_mem _ hx)
    refine ⟨?_, ?_, ?_, ?_, ?_, ?_⟩
    · simp [PyData.canLayAll0, a.lay, b.lay]
    · simp only [PyData.depthAll]; exact Nat.max_le.mpr ⟨a.dep, b.dep⟩
    · simp only [PyData.weightAll, List.length_cons, Nat.add_mul, Nat.one_mul]
      have := a.wt
      have := b.wt
      omega
    · simp [PyData.intsShortAll, a.sh, b.sh]
    · simp [PyData.showableAll, a.show_, b.show_]
    · simp [PyData.hasDictAll, a.nod, b.nod]
theorem Fine.list {D Wt n : Nat} {ds : List PyData} (h : ∀ d ∈ ds, Fine D Wt d) (hn : ds.length ≤ n) : Fine (D + 1) (n * (Wt + 1)) (.list ds) := by
  have b := FineAll.of h
  refine ⟨by simpa [PyData.canLay0] using b.lay, by simp only [PyData.depth]; exact Nat.add_le_add_right b.dep 1, ?_, by simpa [PyData.intsShort] using b.sh, by simpa [PyData.showable] using b.show_, by simpa [PyData.hasDict] using b.nod⟩
  simp only [PyData.weight]
  exact Nat.le_trans b.wt (Nat.mul_le_mul_right _ hn)
theorem Fine.tuple {D Wt n : Nat} {ds : List PyData} (h : ∀ d ∈ ds, Fine D Wt d) (hn : ds.length ≤ n) : Fine (D + 1) (n * (Wt + 1)) (.tuple ds) := by
  have b := FineAll.of h
  refine ⟨by simpa [PyData.canLay0] using b.lay, by simp only [PyData.depth]; exact Nat.add_le_add_right b.dep 1, ?_, by simpa [PyData.intsShort] using b.sh, by simpa [PyData.showable] using b.show_, by simpa [PyData.hasDict] using b.nod⟩
  simp only [PyData.weight]
  exact Nat.le_trans b.wt (Nat.mul_le_mul_right _ hn)
mutual
theorem badD_of : ∀ d : PyData, d.hasDict = false → badD d = false
  | .none, _ => rfl
  | .bool _, _ => rfl
  | .int _, _ => rfl
  | .str _, _ => rfl
  | .list xs, h => by rw [badD]; exact badDs_of xs (by simpa [PyData.hasDict] using h)
  | .tuple xs, h => by rw [badD]; exact badDs_of xs (by simpa [PyData.hasDict] using h)
  | .dict _, h => by simp [PyData.hasDict] at h
theorem badDs_of : ∀ ds : List PyData, PyData.hasDictAll ds = false → badDs ds = false
  | [], _ => rfl
  | d :: ds, h => by
    simp only [PyData.hasDictAll, Bool.or_eq_false_iff] at h
    rw [badDs, badD_of d h.1, badDs_of ds h.2]
    rfl
end
theorem Fine.repr {D Wt : Nat} {d : PyData} (h : Fine D Wt d) (hD : D ≤ 60) (hW : Wt ≤ 1000000) {k : Rs → Prop} (hk : k (.d (.str d.shown))) : psem .repr [d] k := by
  have h1 := PyData.shown_le 13 (by decide) d (PyData.leavesShort_of_canLay0 13 d h.lay h.sh)
  have h2 := h.wt
  have h3 := h.dep
  have e : sizeLine = 16777216 := rfl
  exact ⟨h.show_, badD_of _ h.nod, by omega, by omega, hk⟩
theorem Fine.rc {D Wt : Nat} {d : PyData} {X : Prop} (h : Fine D Wt d) (hD : D ≤ 60) (hW : Wt ≤ 1000000) (x : X) : d.showable = true ∧ badD d = false ∧ d.shown.length ≤ sizeLine ∧ d.depth ≤ 60 ∧ X :=
  Fine.repr (k := fun _ => X) h hD hW x
theorem Fine.shaped {D Wt : Nat} {d : PyData} (h : Fine D Wt d) (hD : D ≤ 64) : SeqAt.shaped d = true := by
  unfold SeqAt.shaped
  simp only [Bool.and_eq_true, decide_eq_true_eq]
  exact ⟨h.lay, Nat.le_trans h.dep hD⟩
theorem Fine.mono {D D' Wt Wt' : Nat} {d : PyData} (h : Fine D Wt d) (h1 : D ≤ D') (h2 : Wt ≤ Wt') : Fine D' Wt' d := ⟨h.lay, Nat.le_trans h.dep h1, Nat.le_trans h.wt h2, h.sh, h.show_, h.nod⟩
theorem Fine.eqv {D Wt : Nat} {d : PyData} (h : Fine D Wt d) : PyData.eqv d d = true := SeqAt.eqv_refl d h.lay
theorem fine_ints {ns : List Int} {n : Nat} (h : ∀ i ∈ ns, 0 ≤ i ∧ i < 2 ^ 40) (hn : ns.length ≤ n) : Fine 1 (n * 41) (.list (ns.map .int)) :=
  Fine.list (fun d hd => by
    obtain ⟨i, hi, rfl⟩ := List.mem_map.mp hd
    exact Fine.int (h i hi).1 (h i hi).2) (by simpa using hn)
theorem map_const_b {α : Type} (b : Bool) : ∀ xs : List α, xs.map (fun _ => PyData.bool b) = (List.replicate xs.length b).map PyData.bool
  | [] => rfl
  | _ :: xs => congrArg (PyData.bool b :: ·) (map_const_b b xs)
theorem shaped_list {ds : List PyData} (h : ∀ d ∈ ds, d.canLay0 = true ∧ d.depth ≤ 20) : SeqAt.shaped (.list ds) = true := by
  have k : PyData.canLayAll0 ds = true ∧ PyData.depthAll ds ≤ 20 := by
    induction ds with
    | nil => exact ⟨rfl, Nat.zero_le _⟩
    | cons d ds ih =>
      obtain ⟨h1, h2⟩ := ih fun x hx => h x (List.mem_cons_of_mem _ hx)
      obtain ⟨h3, h4⟩ := h d List.mem_cons_self
      refine ⟨by simp [PyData.canLayAll0, h1, h3], ?_⟩
      simp only [PyData.depthAll]
      exact Nat.max_le.mpr ⟨h4, h2⟩
  unfold SeqAt.shaped
  simp only [Bool.and_eq_true, decide_eq_true_eq]
  refine ⟨by simpa [PyData.canLay0] using k.1, ?_⟩
  simp only [PyData.depth]
  omega
theorem lay_ints (ns : List Int) : PyData.canLay0 (.list (ns.map .int)) = true ∧ PyData.depth (.list (ns.map .int)) ≤ 1 := by
  have k : PyData.canLayAll0 (ns.map .int) = true ∧ PyData.depthAll (ns.map .int) ≤ 0 := by
    induction ns with
    | nil => exact ⟨rfl, Nat.zero_le _⟩
    | cons d ds ih =>
      refine ⟨by simpa [PyData.canLayAll0, PyData.canLay0] using ih.1, ?_⟩
      simp only [List.map_cons, PyData.depthAll, PyData.depth]
      exact Nat.max_le.mpr ⟨Nat.le_refl _, ih.2⟩
  exact ⟨by simpa [PyData.canLay0] using k.1, by simp only [PyData.depth]; omega⟩
theorem hd_le {l : List Int} (h : l.Pairwise (· ≤ ·)) {x : Int} (e : l.head? = some x) : x ∈ l ∧ ∀ y ∈ l, x ≤ y := by
  cases l with
  | nil => cases e
  | cons a l =>
    cases e
    refine ⟨List.mem_cons_self, fun y hy => ?_⟩
    rcases List.mem_cons.mp hy with rfl | hy
    · exact Int.le_refl _
    · exact (List.pairwise_cons.mp h).1 y hy
theorem le_la : ∀ {l : List Int} (h : l.Pairwise (· ≤ ·)) {x : Int} (e : l.getLast? = some x), x ∈ l ∧ ∀ y ∈ l, y ≤ x
  | [], _, _, e => by cases e
  | [a], _, x, e => by
    obtain rfl : a = x := by simpa using e
    exact ⟨List.mem_cons_self, fun y hy => by simp at hy; omega⟩
  | a :: b :: l, h, x, e => by
    have e2 : (b :: l).getLast? = some x := by simpa [List.getLast?_cons_cons] using e
    obtain ⟨h1, h2⟩ := le_la (List.pairwise_cons.mp h).2 e2
    refine ⟨List.mem_cons_of_mem _ h1, fun y hy => ?_⟩
    rcases List.mem_cons.mp hy with rfl | hy
    · exact (List.pairwise_cons.mp h).1 x h1
    · exact h2 y hy
/-! ### texts of sides -/
def Sides (s : Str) : Prop := ∀ c ∈ s.cps.toList, c = 76 ∨ c = 82
theorem sides_lay {s : Str} (h : Sides s) : PyData.strOk s = true := by
  unfold PyData.strOk
  rw [Array.all_eq_true_iff_forall_mem]
  intro c hc
  have := h c (by simpa using hc)
  rcases this with rfl | rfl <;> decide
/-! ### data that can be written: n its bulk, D its depth -/
structure Gd (n D : Nat) (d : PyData) : Prop where
  lay : d.canLay0 = true
  dep : d.depth ≤ D
  sh : d.leavesShort 120 = true
  show_ : d.showable = true
  nod : d.hasDict = false
  blk : d.bulk ≤ n
theorem Gd.none : Gd 0 0 .none := ⟨rfl, Nat.le_refl _, rfl, rfl, rfl, Nat.le_refl _⟩
theorem Gd.bool (b : Bool) : Gd 0 0 (.bool b) := ⟨rfl, Nat.le_refl _, rfl, rfl, rfl, Nat.le_refl _⟩
theorem Gd.int {i : Int} (h : i.natAbs < 10 ^ 110) : Gd 0 0 (.int i) where
  lay := rfl
  dep := Nat.le_refl _
  sh := by
    have h1 : (toString i).length ≤ 111 := int_text_length_le10 (k := 110) (by decide) h
    have h2 : (Str.ofString (toString i)).length ≤ 111 := by rw [PySem.ofString_length]; exact h1
    exact decide_eq_true (Nat.le_trans h2 (by decide))
  show_ := by
    have : i.natAbs.log2 < 1920 := by
      by_cases hz : i.natAbs = 0
      · rw [hz]; decide
      · have : i.natAbs.log2 < 400 := (Nat.log2_lt hz).mpr (Nat.lt_trans h (by decide +kernel))
        omega
    exact decide_eq_true this
  nod := rfl
  blk := Nat.le_refl _
theorem Gd.int0 {i : Int} (h0 : 0 ≤ i) (h : i < 10 ^ 110) : Gd 0 0 (.int i) := Gd.int (by omega)
theorem Gd.str {s : Str} (h : PyData.strOk s = true) : Gd s.length 0 (.str s) where
  lay := h
  dep := Nat.le_refl _
  sh := by
    show (s.cps.toList.all fun c => decide (c < 16 ^ 8)) = true
    rw [List.all_eq_true]
    intro c hc
    have h0 : s.cps.all (· < 0x110000) = true := h
    have := (Array.all_eq_true_iff_forall_mem.mp h0) c (Array.mem_toList_iff.mp hc)
    have : c < 0x110000 := by simpa using this
    exact decide_eq_true (by omega)
  show_ := rfl
  nod := rfl
  blk := Nat.le_refl _
theorem Gd.mono {n n' D D' : Nat} {d : PyData} (h : Gd n D d) (h1 : n ≤ n') (h2 : D ≤ D') : Gd n' D' d := ⟨h.lay, Nat.le_trans h.dep h2, h.sh, h.show_, h.nod, Nat.le_trans h.blk h1⟩
structure GdAll (n D : Nat) (ds : List PyData) : Prop where
  lay : PyData.canLayAll0 ds = true
  dep : PyData.depthAll ds ≤ D
  sh : PyData.leavesShortAll 120 ds = true
  show_ : PyData.showableAll ds = true
  nod : PyData.hasDictAll ds = false
  blk : PyData.bulkAll ds ≤ n
theorem GdAll.nil {D : Nat} : GdAll 0 D [] := ⟨rfl, Nat.zero_le _, rfl, rfl, rfl, Nat.le_refl _⟩
theorem GdAll.cons {n m D : Nat} {d : PyData} {ds : List PyData} (a : Gd n D d) (b : GdAll m D ds) : GdAll (n + 1 + m) D (d :: ds) := by
  refine ⟨by simp [PyData.canLayAll0, a.lay, b.lay], ?_, by simp [PyData.leavesShortAll, a.sh, b.sh], by simp [PyData.showableAll, a.show_, b.show_], by simp [PyData.hasDictAll, a.nod, b.nod], ?_⟩
  · simp only [PyData.depthAll]; exact Nat.max_le.mpr ⟨a.dep, b.dep⟩
  · simp only [PyData.bulkAll]
    have := a.blk
    have := b.blk
    omega
theorem GdAll.of {n D : Nat} : ∀ {ds : List PyData}, (∀ d ∈ ds, Gd n D d) → GdAll (ds.length * (n + 1)) D ds
  | [], _ => ⟨rfl, Nat.zero_le _, rfl, rfl, rfl, Nat.zero_le _⟩
  | d :: ds, h => by
    have := GdAll.cons (h d List.mem_cons_self) (GdAll.of (ds := ds) fun x hx => h x (List.mem_cons_of_mem _ hx))
    refine ⟨this.lay, this.dep, this.sh, this.show_, this.nod, Nat.le_trans this.blk ?_⟩
    simp only [List.length_cons, Nat.add_mul, Nat.one_mul]
    omega
theorem GdAll.list {n D : Nat} {ds : List PyData} (b : GdAll n D ds) : Gd n (D + 1) (.list ds) :=
  ⟨by simpa [PyData.canLay0] using b.lay, by simp only [PyData.depth]; exact Nat.add_le_add_right b.dep 1, by simpa [PyData.leavesShort] using b.sh, by simpa [PyData.showable] using b.show_, by simpa [PyData.hasDict] using b.nod, by simpa [PyData.bulk] using b.blk⟩
theorem GdAll.tuple {n D : Nat} {ds : List PyData} (b : GdAll n D ds) : Gd n (D + 1) (.tuple ds) :=
  ⟨by simpa [PyData.canLay0] using b.lay, by simp only [PyData.depth]; exact Nat.add_le_add_right b.dep 1, by simpa [PyData.leavesShort] using b.sh, by simpa [PyData.showable] using b.show_, by simpa [PyData.hasDict] using b.nod, by simpa [PyData.bulk] using b.blk⟩
theorem Gd.list {n D m : Nat} {ds : List PyData} (h : ∀ d ∈ ds, Gd n D d) (hm : ds.length ≤ m) : Gd (m * (n + 1)) (D + 1) (.list ds) := (GdAll.of h).list.mono (Nat.mul_le_mul_right _ hm) (Nat.le_refl _)
theorem Gd.tuple {n D m : Nat} {ds : List PyData} (h : ∀ d ∈ ds, Gd n D d) (hm : ds.length ≤ m) : Gd (m * (n + 1)) (D + 1) (.tuple ds) := (GdAll.of h).tuple.mono (Nat.mul_le_mul_right _ hm) (Nat.le_refl _)
theorem Gd.rc {n D : Nat} {d : PyData} {X : Prop} (h : Gd n D d) (hn : n ≤ 130000) (hD : D ≤ 60) (x : X) : d.showable = true ∧ badD d = false ∧ d.shown.length ≤ sizeLine ∧ d.depth ≤ 60 ∧ X := by
  have h1 := PyData.shown_le_bulk 120 (by decide) d h.sh
  have h2 := h.blk
  have h3 := h.dep
  have e : sizeLine = 16777216 := rfl
  exact ⟨h.show_, badD_of _ h.nod, by omega, by omega, x⟩
theorem Gd.shaped {n D : Nat} {d : PyData} (h : Gd n D d) (hD : D ≤ 64) : SeqAt.shaped d = true := by
  unfold SeqAt.shaped
  simp only [Bool.and_eq_true, decide_eq_true_eq]
  exact ⟨h.lay, Nat.le_trans h.dep hD⟩
theorem Gd.eqv {n D : Nat} {d : PyData} (h : Gd n D d) : PyData.eqv d d = true := SeqAt.eqv_refl d h.lay
theorem eqv_str (z : Str) : PyData.eqv (.str z) (.str z) = true := by simp [PyData.eqv]
theorem neqv_str (z : Str) : (!PyData.eqv (.str z) (.str z)) = false := by simp [PyData.eqv]
theorem gd_ints {ns : List Int} {m : Nat} (h : ∀ i ∈ ns, 0 ≤ i ∧ i < 10 ^ 110) (hm : ns.length ≤ m) : Gd m 1 (.list (ns.map .int)) := by
  have := Gd.list (n := 0) (D := 0) (m := m) (ds := ns.map .int) (fun d hd => by
    obtain ⟨i, hi, rfl⟩ := List.mem_map.mp hd
    exact Gd.int0 (h i hi).1 (h i hi).2) (by simpa using hm)
  simpa using this
theorem eqvAll_dec {α : Type} [DecidableEq α] {enc : α → PyData} (h : ∀ a b, PyData.eqv (enc a) (enc b) = decide (a = b)) : ∀ xs ys : List α, PyData.eqvAll (xs.map enc) (ys.map enc) = decide (xs = ys)
  | [], [] => by simp [PyData.eqvAll]
  | [], _ :: _ => by simp [PyData.eqvAll]
  | _ :: _, [] => by simp [PyData.eqvAll]
  | x :: xs, y :: ys => by
    rw [List.map_cons, List.map_cons, PyData.eqvAll, h, eqvAll_dec h xs ys]
    by_cases h1 : x = y <;> by_cases h2 : xs = ys <;> simp [h1, h2]
theorem eqvL_dec {α : Type} [DecidableEq α] {enc : α → PyData} (h : ∀ a b, PyData.eqv (enc a) (enc b) = decide (a = b)) (xs ys : List α) : PyData.eqv (.list (xs.map enc)) (.list (ys.map enc)) = decide (xs = ys) := by
  rw [PyData.eqv, eqvAll_dec h]
theorem eqv_intD (i j : Int) : PyData.eqv (.int i) (.int j) = decide (i = j) := by
  rw [PyData.eqv]
  by_cases h : i = j <;> simp [h]
theorem eqv_ints (xs ys : List Int) : PyData.eqv (.list (xs.map .int)) (.list (ys.map .int)) = decide (xs = ys) := eqvL_dec eqv_intD xs ys
end FX
namespace FX
open PySem PySem.Spec
/-! ### the signs of a shown text -/
def okC (l : List Nat) : Prop := ∀ c ∈ l, c < 0x110000
theorem okC_app {a b : List Nat} (ha : okC a) (hb : okC b) : okC (a ++ b) := fun c hc => by
  rcases List.mem_append.mp hc with h | h
  · exact ha c h
  · exact hb c h
theorem strOk_iff (s : Str) : PyData.strOk s = true ↔ okC s.cps.toList := by
  unfold PyData.strOk okC
  rw [Array.all_eq_true_iff_forall_mem]
  constructor
  · intro h c hc
    simpa using h c (Array.mem_toList_iff.mp hc)
  · intro h c hc
    simpa using h c (Array.mem_toList_iff.mpr hc)
theorem okC_chars (cs : List Char) : okC (cs.map Char.toNat) := fun c hc => by
  obtain ⟨d, _, rfl⟩ := List.mem_map.mp hc
  have := d.valid
  have h : d.toNat = d.val.toNat := rfl
  rcases this with h1 | ⟨_, h1⟩ <;> omega
theorem okC_of (s : String) : okC (Str.ofString s).cps.toList := by
  rw [Str.ofString_eq_toList]
  exact okC_chars _
theorem strOk_of (s : String) : PyData.strOk (Str.ofString s) = true := (strOk_iff _).mpr (okC_of s)
theorem cps_app (a b : Str) : (a ++ b).cps.toList = a.cps.toList ++ b.cps.toList := by
  show (a.cps ++ b.cps).toList = _
  simp
theorem strOk_app {a b : Str} (ha : PyData.strOk a = true) (hb : PyData.strOk b = true) : PyData.strOk (a ++ b) = true := by
  rw [strOk_iff] at *
  rw [cps_app]
  exact okC_app ha hb
theorem strOk_from : ∀ (ts : List Str) (k : Nat) (acc : Str), PyData.strOk acc = true → (∀ t ∈ ts, PyData.strOk t = true) → PyData.strOk (textFrom k acc ts) = true
  | [], k, acc, h, _ => h
  | t :: ts, k, acc, h, ht => by
    refine strOk_from ts (k + 1) _ (strOk_app (strOk_app h ?_) (ht t List.mem_cons_self)) fun x hx => ht x (List.mem_cons_of_mem _ hx)
    exact strOk_of _
theorem strOk_join {sep : Str} (hs : PyData.strOk sep = true) : ∀ ts : List Str, (∀ t ∈ ts, PyData.strOk t = true) → PyData.strOk (Str.join sep ts) = true
  | [], _ => by show PyData.strOk Str.empty = true; decide +kernel
  | [x], h => h x List.mem_cons_self
  | x :: y :: r, h => strOk_app (strOk_app (h x List.mem_cons_self) hs) (strOk_join hs (y :: r) fun t ht => h t (List.mem_cons_of_mem _ ht))
theorem okC_small {l : List Nat} (h : l.all (fun c => decide (c < 0x110000)) = true) : okC l := fun c hc => by
  have := List.all_eq_true.mp h c hc
  simpa using this
theorem okC_reprChar {q c : Nat} (hq : q < 0x110000) (hc : c < 0x110000) : okC (Builtin.Str.reprChar q c) := by
  have hx : ∀ w, okC (List.replicate (w - ((Nat.toDigits 16 c).map Char.toNat).length) 48 ++ (Nat.toDigits 16 c).map Char.toNat) := fun w =>
    okC_app (fun d hd => by rw [List.eq_of_mem_replicate hd]; decide) (okC_chars _)
  have h2 : ∀ a, a < 0x110000 → okC [92, a] := fun a ha d hd => by
    rcases List.mem_cons.mp hd with rfl | hd
    · decide
    · rw [List.mem_singleton.mp hd]; exact ha
  unfold Builtin.Str.reprChar
  dsimp only
  split
  · exact h2 c hc
  split
  · exact h2 110 (by decide)
  split
  · exact h2 114 (by decide)
  split
  · exact h2 116 (by decide)
  split
  · intro d hd; rw [List.mem_singleton.mp hd]; exact hc
  split
  · exact okC_app (h2 120 (by decide)) (hx 2)
  split
  · exact okC_app (h2 117 (by decide)) (hx 4)
  · exact okC_app (h2 85 (by decide)) (hx 8)
theorem strOk_repr {x : Str} (h : PyData.strOk x = true) : PyData.strOk (reprText x) = true := by
  rw [strOk_iff] at *
  have hq : reprQuote x < 0x110000 := by unfold reprQuote; split <;> decide
  have key : ∀ (l : List Nat) (acc : Array Nat), okC l → okC acc.toList → okC (l.foldl (fun out c => out ++ (Builtin.Str.reprChar (reprQuote x) c).toArray) acc).toList := by
    intro l
    induction l with
    | nil => intro acc _ h; exact h
    | cons c l ih =>
      intro acc hl ha
      rw [List.foldl_cons]
      refine ih _ (fun d hd => hl d (List.mem_cons_of_mem _ hd)) ?_
      rw [Array.toList_append]
      exact okC_app ha (okC_reprChar hq (hl c List.mem_cons_self))
  have e : (reprText x).cps.toList = (x.cps.toList.foldl (fun out c => out ++ (Builtin.Str.reprChar (reprQuote x) c).toArray) #[reprQuote x]).toList ++ [reprQuote x] := by
    unfold reprText
    rw [Array.foldl_toList]
    exact Array.toList_push
  rw [e]
  have one : okC [reprQuote x] := fun d hd => by rw [List.mem_singleton.mp hd]; exact hq
  exact okC_app (key _ _ h one) one
mutual
theorem shown_ok : ∀ d : PyData, d.canLay0 = true → PyData.strOk d.shown = true
  | .none, _ => strOk_of "None"
  | .bool b, _ => by cases b <;> exact strOk_of _
  | .int i, _ => strOk_of _
  | .str x, h => strOk_repr h
  | .list xs, h => by
    rw [PyData.shown]
    unfold listText
    exact strOk_app (strOk_from _ _ _ (strOk_of _) (shownAll_ok xs (by simpa [PyData.canLay0] using h))) (strOk_of _)
  | .tuple xs, h => by
    rw [PyData.shown]
    unfold tupleText
    refine strOk_app (strOk_app (strOk_of _) (strOk_join (strOk_of _) _ (shownAll_ok xs (by simpa [PyData.canLay0] using h)))) ?_
    exact strOk_of _
  | .dict _, h => by simp [PyData.canLay0] at h
theorem shownAll_ok : ∀ ds : List PyData, PyData.canLayAll0 ds = true → ∀ t ∈ PyData.shownAll ds, PyData.strOk t = true
  | [], _, t, ht => by rw [PyData.shownAll] at ht; cases ht
  | d :: ds, h, t, ht => by
    simp only [PyData.canLayAll0, Bool.and_eq_true] at h
    rw [PyData.shownAll] at ht
    rcases List.mem_cons.mp ht with rfl | ht
    · exact shown_ok d h.1
    · exact shownAll_ok ds h.2 t ht
end
/-- the text of a thing is good again -/
theorem Gd.shown {n D : Nat} {d : PyData} (h : Gd n D d) (hn : n ≤ 130000) : Gd 16777216 0 (.str d.shown) := by
  have h1 := PyData.shown_le_bulk 120 (by decide) d h.sh
  have h2 := h.blk
  exact (Gd.str (shown_ok d h.lay)).mono (by omega) (Nat.le_refl _)
theorem shp_shown {n D : Nat} {d : PyData} (h : Gd n D d) : SeqAt.shaped (.str d.shown) = true := (Gd.str (shown_ok d h.lay)).shaped (by decide)
end FX
set_option maxHeartbeats 400000
open FX PySem PySem.Spec PyProof.Rows L2
namespace L24
/-- _law_jar(script, k); names 0:script 1:k 2:cell -/
def i_jar_r1 : FX.S :=
 (.seq (.ret (.lst (.cons (.prim .max2 (.cons (.cst (.int 0)) (.cons (.prim .sub (.cons (.var 2) (.cons (.prim .pow (.cons (.cst (.int 10)) (.cons (.cst (.int 18)) .nil))) .nil))) .nil))) (.cons (.prim .add (.cons (.prim .add (.cons (.prim .mod (.cons (.var 2) (.cons (.prim .add (.cons (.prim .pow (.cons (.cst (.int 10)) (.cons (.cst (.int 37)) .nil))) (.cons (.cst (.int 43)) .nil))) .nil))) (.cons (.prim .mul (.cons (.cst (.int 700001)) (.cons (.var 1) .nil))) .nil))) (.cons (.cst (.int 9)) .nil))) (.cons (.cst (.int 0)) .nil)))))
 .skip)
def i_jar : FX.S :=
 (.seq (.asg (.nm 2) (.cst (.int 0)))
 (.seq (.ifs (.prim .lt (.cons (.var 1) (.cons (.prim .len (.cons (.var 0) .nil)) .nil)))
 (.seq (.asg (.nm 2) (.prim .index (.cons (.var 0) (.cons (.var 1) .nil))))
 .skip)
 .skip)
 i_jar_r1))
/-- _law_scoop(jar, many); names 0:jar 1:many 2:mixed 3:found -/
def i_scoop : FX.S :=
 (.seq (.ifs (.prim .gt (.cons (.prim .index (.cons (.var 0) (.cons (.cst (.int 0)) .nil))) (.cons (.cst (.int 0)) .nil)))
 (.seq (.asg (.nm 3) (.prim .mod (.cons (.prim .index (.cons (.var 0) (.cons (.cst (.int 0)) .nil))) (.cons (.var 1) .nil))))
 (.seq (.setI 0 (.cst (.int 0)) (.prim .fdiv (.cons (.prim .index (.cons (.var 0) (.cons (.cst (.int 0)) .nil))) (.cons (.var 1) .nil))))
 (.seq (.ret (.var 3))
 .skip)))
 .skip)
 (.seq (.setI 0 (.cst (.int 2)) (.prim .add (.cons (.prim .index (.cons (.var 0) (.cons (.cst (.int 2)) .nil))) (.cons (.cst (.int 1)) .nil))))
 (.seq (.asg (.nm 2) (.prim .mod (.cons (.prim .pow (.cons (.prim .add (.cons (.prim .index (.cons (.var 0) (.cons (.cst (.int 1)) .nil))) (.cons (.prim .mul (.cons (.cst (.int 49979687)) (.cons (.prim .index (.cons (.var 0) (.cons (.cst (.int 2)) .nil))) .nil))) .nil))) (.cons (.cst (.int 3)) .nil))) (.cons (.prim .add (.cons (.prim .pow (.cons (.cst (.int 10)) (.cons (.cst (.int 41)) .nil))) (.cons (.cst (.int 109)) .nil))) .nil))))
 (.seq (.asg (.nm 2) (.prim .mod (.cons (.prim .pow (.cons (.prim .add (.cons (.var 2) (.cons (.prim .mul (.cons (.cst (.int 86028121)) (.cons (.prim .index (.cons (.var 0) (.cons (.cst (.int 2)) .nil))) .nil))) .nil))) (.cons (.cst (.int 3)) .nil))) (.cons (.prim .add (.cons (.prim .pow (.cons (.cst (.int 10)) (.cons (.cst (.int 40)) .nil))) (.cons (.cst (.int 121)) .nil))) .nil))))
 (.seq (.ret (.prim .mod (.cons (.prim .fdiv (.cons (.var 2) (.cons (.cst (.int 1000003)) .nil))) (.cons (.var 1) .nil))))
 .skip)))))
/-- _law_list(jar, most); names 0:jar 1:most 2:at 3:style 4:few 5:size 6:found 7:some -/
def i_list_b1 : FX.S :=
 (.seq (.asg (.nm 7) (.lst (.cons (.prim .index (.cons (.cst (.str "LR")) (.cons (.call 1 (.cons (.var 0) (.cons (.cst (.int 2)) .nil))) .nil))) (.cons (.var 4) (.cons (.prim .index (.cons (.cst (.str "LR")) (.cons (.prim .mod (.cons (.var 2) (.cons (.cst (.int 2)) .nil))) .nil))) (.cons (.prim .index (.cons (.lst (.cons (.var 4) (.cons (.var 4) (.cons (.var 4) (.cons (.cst (.str "L")) (.cons (.cst (.str "R")) .nil)))))) (.cons (.call 1 (.cons (.var 0) (.cons (.cst (.int 5)) .nil))) .nil))) .nil))))))
 (.seq (.asg (.nm 6) (.prim .add (.cons (.var 6) (.cons (.prim .index (.cons (.var 7) (.cons (.var 3) .nil))) .nil))))
 .skip))
def i_list : FX.S :=
 (.seq (.asgT (.cons (.nm 3) (.cons (.nm 4) .nil)) (.cons (.call 1 (.cons (.var 0) (.cons (.cst (.int 4)) .nil))) (.cons (.prim .index (.cons (.lst (.cons (.cst (.str "L")) (.cons (.cst (.str "R")) .nil))) (.cons (.call 1 (.cons (.var 0) (.cons (.cst (.int 2)) .nil))) .nil))) .nil)))
 (.seq (.asgT (.cons (.nm 5) (.cons (.nm 6) .nil)) (.cons (.prim .index (.cons (.lst (.cons (.call 1 (.cons (.var 0) (.cons (.cst (.int 9)) .nil))) (.cons (.call 1 (.cons (.var 0) (.cons (.prim .add (.cons (.var 1) (.cons (.cst (.int 1)) .nil))) .nil))) .nil))) (.cons (.call 1 (.cons (.var 0) (.cons (.cst (.int 2)) .nil))) .nil))) (.cons (.cst (.str "")) .nil)))
 (.seq (.fr (.nm 2) (.rng1 (.prim .min2 (.cons (.var 1) (.cons (.var 5) .nil)))) i_list_b1)
 (.seq (.ret (.var 6))
 .skip))))
/-- is_pushes(value); names 0:value 1:side -/
def i_is_pushes_e1 : FX.E :=
 (.prim .inn (.cons (.var 1) (.cons (.glob 0) .nil)))
def i_is_pushes : FX.S :=
 (.seq (.ret (.ands (.cons (.prim (.isi .str) (.cons (.var 0) .nil)) (.cons (.prim .all (.cons (.comp [1] i_is_pushes_e1 (.nm 1) (.seq (.var 0)) .nil) .nil)) .nil))))
 .skip)
/-- need_pushes(value); names 0:value -/
def i_need_pushes : FX.S :=
 (.seq (.ifs (.nt (.call 3 (.cons (.var 0) .nil)))
 .never
 .skip)
 .skip)
/-- parting_number(pushes, other); names 0:pushes 1:other 2:index 3:one 4:two -/
def i_parting_number_b1 : FX.S :=
 (.seq (.ifs (.prim .ne (.cons (.var 3) (.cons (.var 4) .nil)))
 (.seq (.ret (.prim .shl (.cons (.cst (.int 3)) (.cons (.var 2) .nil))))
 .skip)
 .skip)
 .skip)
def i_parting_number : FX.S :=
 (.seq (.ex (.call 4 (.cons (.var 0) .nil)))
 (.seq (.ex (.call 4 (.cons (.var 1) .nil)))
 (.seq (.ifs (.prim .eq (.cons (.var 0) (.cons (.var 1) .nil)))
 (.seq (.ret (.cst .none))
 .skip)
 .skip)
 (.seq (.fr (.tp (.cons (.nm 2) (.cons (.tp (.cons (.nm 3) (.cons (.nm 4) .nil))) .nil))) (.enumZ (.var 0) (.var 1)) i_parting_number_b1)
 (.seq (.ret (.prim .shl (.cons (.cst (.int 1)) (.cons (.prim .add (.cons (.prim .min2 (.cons (.prim .len (.cons (.var 0) .nil)) (.cons (.prim .len (.cons (.var 1) .nil)) .nil))) (.cons (.cst (.int 1)) .nil))) .nil))))
 .skip)))))
/-- _law_after(runs, way); names 0:runs 1:way 2:found 3:level 4:count 5:half 6:pair 7:one 8:many -/
def i_after_r1 : FX.S :=
 (.seq (.ifs (.prim .gt (.cons (.var 8) (.cons (.cst (.int 0)) .nil)))
 (.seq (.ex (.mcall .append 2 (.cons (.tup (.cons (.var 7) (.cons (.var 8) .nil))) .nil)))
 .skip)
 .skip)
 .skip)
def i_after_b1 : FX.S :=
 (.seq (.ifs (.ands (.cons (.prim .gt (.cons (.var 8) (.cons (.cst (.int 0)) .nil))) (.cons (.prim .ne (.cons (.var 2) (.cons (.lst .nil) .nil))) (.cons (.prim .eq (.cons (.prim .index (.cons (.prim .index (.cons (.var 2) (.cons (.prim .neg (.cons (.cst (.int 1)) .nil)) .nil))) (.cons (.cst (.int 0)) .nil))) (.cons (.var 7) .nil))) .nil))))
 (.seq (.asg (.nm 8) (.prim .add (.cons (.var 8) (.cons (.prim .index (.cons (.mcall .pop 2 .nil) (.cons (.cst (.int 1)) .nil))) .nil))))
 .skip)
 .skip)
 i_after_r1)
def i_after_b2 : FX.S :=
 (.seq (.asg (.nm 5) (.prim .fdiv (.cons (.var 4) (.cons (.cst (.int 2)) .nil))))
 (.seq (.asg (.nm 6) (.lst (.cons (.tup (.cons (.prim .add (.cons (.var 3) (.cons (.cst (.int 1)) .nil))) (.cons (.var 5) .nil))) (.cons (.tup (.cons (.var 3) (.cons (.prim .sub (.cons (.var 4) (.cons (.prim .mul (.cons (.cst (.int 2)) (.cons (.var 5) .nil))) .nil))) .nil))) .nil))))
 (.seq (.fr (.tp (.cons (.nm 7) (.cons (.nm 8) .nil))) (.seq (.prim .index (.cons (.lst (.cons (.var 6) (.cons (.prim .rev (.cons (.var 6) .nil)) .nil))) (.cons (.prim .int (.cons (.prim .eq (.cons (.var 1) (.cons (.cst (.str "R")) .nil))) .nil)) .nil)))) i_after_b1)
 .skip)))
def i_after : FX.S :=
 (.seq (.asg (.nm 2) (.lst .nil))
 (.seq (.fr (.tp (.cons (.nm 3) (.cons (.nm 4) .nil))) (.seq (.var 0)) i_after_b2)
 (.seq (.ret (.var 2))
 .skip)))
/-- _law_run(runs, text); names 0:runs 1:text 2:way -/
def i_run_b1 : FX.S :=
 (.seq (.asg (.nm 0) (.call 6 (.cons (.var 0) (.cons (.var 2) .nil))))
 .skip)
def i_run : FX.S :=
 (.seq (.fr (.nm 2) (.seq (.var 1)) i_run_b1)
 (.seq (.retv (.var 0))
 .skip))
/-- _law_long_right(jar, one, two); names 0:jar 1:one 2:two 3:number 4:less -/
def i_long_right_b1 : FX.S :=
 (.seq (.ifs (.ands (.cons (.chain .lt .lt (.cst (.int 0)) (.var 4) (.var 3)) (.cons (.prim .ne (.cons (.call 7 (.cons (.lst (.cons (.tup (.cons (.cst (.int 0)) (.cons (.var 4) .nil))) .nil)) (.cons (.var 1) .nil))) (.cons (.call 7 (.cons (.lst (.cons (.tup (.cons (.cst (.int 0)) (.cons (.var 4) .nil))) .nil)) (.cons (.var 2) .nil))) .nil))) .nil)))
 (.seq (.ret (.cst (.bool false)))
 .skip)
 .skip)
 .skip)
def i_long_right : FX.S :=
 (.seq (.asg (.nm 3) (.call 5 (.cons (.var 1) (.cons (.var 2) .nil))))
 (.seq (.ifs (.prim .ne (.cons (.prim .repr (.cons (.lst (.cons (.call 5 (.cons (.var 1) (.cons (.var 2) .nil))) (.cons (.call 5 (.cons (.var 2) (.cons (.var 1) .nil))) .nil))) .nil)) (.cons (.prim .repr (.cons (.lst (.cons (.var 3) (.cons (.var 3) .nil))) .nil)) .nil)))
 (.seq (.ret (.cst (.bool false)))
 .skip)
 .skip)
 (.seq (.ifs (.prim .eq (.cons (.var 1) (.cons (.var 2) .nil)))
 (.seq (.ret (.prim .isN (.cons (.var 3) .nil)))
 .skip)
 .skip)
 (.seq (.ifs (.ors (.cons (.prim .isN (.cons (.var 3) .nil)) (.cons (.prim .lt (.cons (.var 3) (.cons (.cst (.int 1)) .nil))) (.cons (.prim .eq (.cons (.call 7 (.cons (.lst (.cons (.tup (.cons (.cst (.int 0)) (.cons (.var 3) .nil))) .nil)) (.cons (.var 1) .nil))) (.cons (.call 7 (.cons (.lst (.cons (.tup (.cons (.cst (.int 0)) (.cons (.var 3) .nil))) .nil)) (.cons (.var 2) .nil))) .nil))) .nil))))
 (.seq (.ret (.cst (.bool false)))
 .skip)
 .skip)
 (.seq (.fr (.nm 4) (.seq (.lst (.cons (.prim .sub (.cons (.var 3) (.cons (.cst (.int 1)) .nil))) (.cons (.prim .sub (.cons (.prim .sub (.cons (.var 3) (.cons (.cst (.int 1)) .nil))) (.cons (.call 1 (.cons (.var 0) (.cons (.var 3) .nil))) .nil))) (.cons (.call 1 (.cons (.var 0) (.cons (.var 3) .nil))) (.cons (.cst (.int 1)) .nil)))))) i_long_right_b1)
 (.seq (.ret (.cst (.bool true)))
 .skip))))))
/-- _law_pushed(row, way); names 0:row 1:way 2:left 3:found -/
def i_pushed_b1 : FX.S :=
 (.seq (.ifs (.ands (.cons (.prim .gt (.cons (.prim .len (.cons (.var 2) .nil)) (.cons (.cst (.int 1)) .nil))) (.cons (.prim .eq (.cons (.prim .index (.cons (.var 2) (.cons (.cst (.int 0)) .nil))) (.cons (.prim .index (.cons (.var 2) (.cons (.cst (.int 1)) .nil))) .nil))) .nil)))
 (.seq (.ex (.mcall .append 3 (.cons (.prim .add (.cons (.prim .index (.cons (.var 2) (.cons (.cst (.int 0)) .nil))) (.cons (.cst (.int 1)) .nil))) .nil)))
 (.seq (.asg (.nm 2) (.prim (.slice true false) (.cons (.var 2) (.cons (.cst (.int 2)) .nil))))
 .skip))
 (.seq (.ex (.mcall .append 3 (.cons (.prim .index (.cons (.var 2) (.cons (.cst (.int 0)) .nil))) .nil)))
 (.seq (.asg (.nm 2) (.prim (.slice true false) (.cons (.var 2) (.cons (.cst (.int 1)) .nil))))
 .skip)))
 .skip)
def i_pushed : FX.S :=
 (.seq (.asgT (.cons (.nm 2) (.cons (.nm 3) .nil)) (.cons (.prim .index (.cons (.lst (.cons (.var 0) (.cons (.prim .rev (.cons (.var 0) .nil)) .nil))) (.cons (.prim .int (.cons (.prim .eq (.cons (.var 1) (.cons (.cst (.str "R")) .nil))) .nil)) .nil))) (.cons (.lst .nil) .nil)))
 (.seq (.whl (.prim .ne (.cons (.var 2) (.cons (.lst .nil) .nil))) i_pushed_b1)
 (.seq (.ret (.prim .index (.cons (.lst (.cons (.var 3) (.cons (.prim .rev (.cons (.var 3) .nil)) .nil))) (.cons (.prim .int (.cons (.prim .eq (.cons (.var 1) (.cons (.cst (.str "R")) .nil))) .nil)) .nil))))
 .skip)))
/-- _law_tried(one, two); names 0:one 1:two 2:tiles 3:way 4:first 5:second -/
def i_tried_b1 : FX.S :=
 (.seq (.asg (.nm 5) (.call 9 (.cons (.var 5) (.cons (.var 3) .nil))))
 .skip)
def i_tried_b2 : FX.S :=
 (.seq (.asg (.nm 4) (.call 9 (.cons (.var 4) (.cons (.var 3) .nil))))
 .skip)
def i_tried_b3 : FX.S :=
 (.seq (.asgT (.cons (.nm 4) (.cons (.nm 5) .nil)) (.cons (.prim .mul (.cons (.lst (.cons (.cst (.int 0)) .nil)) (.cons (.var 2) .nil))) (.cons (.prim .mul (.cons (.lst (.cons (.cst (.int 0)) .nil)) (.cons (.var 2) .nil))) .nil)))
 (.seq (.fr (.nm 3) (.seq (.var 0)) i_tried_b2)
 (.seq (.fr (.nm 3) (.seq (.var 1)) i_tried_b1)
 (.seq (.ifs (.prim .ne (.cons (.var 4) (.cons (.var 5) .nil)))
 (.seq (.ret (.var 2))
 .skip)
 .skip)
 .skip))))
def i_tried : FX.S :=
 (.seq (.fr (.nm 2) (.rng2 (.cst (.int 1)) (.cst (.int 200))) i_tried_b3)
 (.seq (.ret (.cst .none))
 .skip))
/-- _law_near(jar, text); names 0:jar 1:text 2:turned 3:some 4:at 5:way 6:sign -/
def i_near_e1 : FX.E :=
 (.prim .index (.cons (.lst (.cons (.cst (.str "L")) (.cons (.cst (.str "R")) .nil))) (.cons (.prim .int (.cons (.prim .eq (.cons (.var 6) (.cons (.cst (.str "L")) .nil))) .nil)) .nil)))
def i_near : FX.S :=
 (.seq (.asgT (.cons (.nm 4) (.cons (.nm 5) .nil)) (.cons (.call 1 (.cons (.var 0) (.cons (.prim .add (.cons (.prim .len (.cons (.var 1) .nil)) (.cons (.cst (.int 1)) .nil))) .nil))) (.cons (.call 1 (.cons (.var 0) (.cons (.cst (.int 5)) .nil))) .nil)))
 (.seq (.asg (.nm 2) (.meth .str .join (.cst (.str "")) (.cons (.comp [6] i_near_e1 (.nm 6) (.seq (.sl (.var 1) (.var 4) (.prim .add (.cons (.var 4) (.cons (.cst (.int 1)) .nil))))) .nil) .nil)))
 (.seq (.asg (.nm 3) (.lst (.cons (.prim .add (.cons (.prim .add (.cons (.prim (.slice false true) (.cons (.var 1) (.cons (.var 4) .nil))) (.cons (.var 2) .nil))) (.cons (.prim (.slice true false) (.cons (.var 1) (.cons (.prim .add (.cons (.var 4) (.cons (.cst (.int 1)) .nil))) .nil))) .nil))) (.cons (.prim (.slice false true) (.cons (.var 1) (.cons (.var 4) .nil))) (.cons (.prim .add (.cons (.var 1) (.cons (.prim .index (.cons (.cst (.str "LR")) (.cons (.prim .mod (.cons (.var 4) (.cons (.cst (.int 2)) .nil))) .nil))) .nil))) (.cons (.prim .add (.cons (.prim (.slice false true) (.cons (.var 1) (.cons (.var 4) .nil))) (.cons (.call 2 (.cons (.var 0) (.cons (.cst (.int 40)) .nil))) .nil))) .nil))))))
 (.seq (.ret (.prim (.slice false true) (.cons (.prim .index (.cons (.prim .add (.cons (.var 3) (.cons (.lst (.cons (.call 2 (.cons (.var 0) (.cons (.cst (.int 70)) .nil))) .nil)) .nil))) (.cons (.var 5) .nil))) (.cons (.cst (.int 200)) .nil))))
 .skip))))
/-- law(script); names 0:script 1:k 2:small 3:one 4:jar 5:turn 6:text 7:two -/
def i_law_e1 : FX.E :=
 (.cst (.int 1))
def i_law_b1 : FX.S :=
 (.seq (.ifs (.prim .ne (.cons (.comp [7] i_law_e1 (.nm 7) (.seq (.var 2)) (.cons (.ands (.cons (.prim .lt (.cons (.var 3) (.cons (.var 7) .nil))) (.cons (.prim .ne (.cons (.call 5 (.cons (.var 3) (.cons (.var 7) .nil))) (.cons (.call 10 (.cons (.var 3) (.cons (.var 7) .nil))) .nil))) .nil))) .nil)) (.cons (.lst .nil) .nil)))
 (.seq (.ret (.cst (.bool false)))
 .skip)
 .skip)
 .skip)
def i_law_b2 : FX.S :=
 (.seq (.asg (.nm 6) (.call 2 (.cons (.var 4) (.cons (.prim .index (.cons (.lst (.cons (.cst (.int 12)) (.cons (.cst (.int 50)) (.cons (.cst (.int 9)) (.cons (.prim .index (.cons (.lst (.cons (.cst (.int 200)) (.cons (.cst (.int 70)) .nil))) (.cons (.prim .int (.cons (.prim .gt (.cons (.var 1) (.cons (.cst (.int 0)) .nil))) .nil)) .nil))) .nil))))) (.cons (.var 5) .nil))) .nil))))
 (.seq (.ifs (.nt (.call 8 (.cons (.var 4) (.cons (.var 6) (.cons (.call 11 (.cons (.var 4) (.cons (.var 6) .nil))) .nil)))))
 (.seq (.ret (.cst (.bool false)))
 .skip)
 .skip)
 .skip))
def i_law_b3 : FX.S :=
 (.seq (.asg (.nm 4) (.call 0 (.cons (.var 0) (.cons (.var 1) .nil))))
 (.seq (.fr (.nm 5) (.rng1 (.cst (.int 4))) i_law_b2)
 (.seq (.asgT (.cons (.nm 3) (.cons (.nm 7) .nil)) (.cons (.call 2 (.cons (.var 4) (.cons (.cst (.int 4)) .nil))) (.cons (.call 2 (.cons (.var 4) (.cons (.cst (.int 4)) .nil))) .nil)))
 (.seq (.ifs (.prim .ne (.cons (.prim .repr (.cons (.call 5 (.cons (.var 3) (.cons (.var 7) .nil))) .nil)) (.cons (.prim .repr (.cons (.call 10 (.cons (.var 3) (.cons (.var 7) .nil))) .nil)) .nil)))
 (.seq (.ret (.cst (.bool false)))
 .skip)
 .skip)
 .skip))))
def i_law : FX.S :=
 (.seq (.fr (.nm 1) (.rng1 (.prim .max2 (.cons (.cst (.int 1)) (.cons (.prim .min2 (.cons (.cst (.int 4)) (.cons (.prim .len (.cons (.var 0) .nil)) .nil))) .nil)))) i_law_b3)
 (.seq (.asg (.nm 2) (.lst (.cons (.cst (.str "")) (.cons (.cst (.str "L")) (.cons (.cst (.str "R")) (.cons (.cst (.str "LL")) (.cons (.cst (.str "LR")) (.cons (.cst (.str "RL")) (.cons (.cst (.str "RR")) (.cons (.cst (.str "LLL")) (.cons (.cst (.str "LRL")) (.cons (.cst (.str "LLR")) .nil))))))))))))
 (.seq (.fr (.nm 3) (.seq (.var 2)) i_law_b1)
 (.seq (.ret (.prim .eq (.cons (.lst (.cons (.call 5 (.cons (.cst (.str "LLR")) (.cons (.cst (.str "LRR")) .nil))) (.cons (.call 5 (.cons (.cst (.str "L")) (.cons (.cst (.str "LR")) .nil))) (.cons (.call 5 (.cons (.cst (.str "")) (.cons (.cst (.str "")) .nil))) .nil)))) (.cons (.lst (.cons (.cst (.int 6)) (.cons (.cst (.int 4)) (.cons (.cst .none) .nil)))) .nil))))
 .skip))))
end L24
-- order: 0:_law_jar 1:_law_scoop 2:_law_list 3:is_pushes 4:need_pushes 5:parting_number 6:_law_after 7:_law_run 8:_law_long_right 9:_law_pushed 10:_law_tried 11:_law_near 12:law
-- con: 0:SIDES
-- mask _law_jar [True, True] n=3
-- mask _law_scoop [True, True] n=4
-- mask _law_list [True, True] n=8
-- mask is_pushes [True] n=2
-- mask need_pushes [True] n=1
-- mask parting_number [True, True] n=5
-- mask _law_after [True, True] n=9
-- mask _law_run [False, True] n=3
-- mask _law_long_right [True, True, True] n=5
-- mask _law_pushed [False, True] n=4
-- mask _law_tried [True, True] n=6
-- mask _law_near [True, True] n=7
-- mask law [True] n=8
namespace L24
open FX PySem PySem.Spec
/-! ### what is judged -/
def isInt (l : Int) (m : Option Int) : PyData → Bool
  | .int i => decide (l ≤ i) && (match m with
    | some j => decide (i ≤ j)
    | none => true)
  | _ => false
def optD : Option Int → PyData
  | some j => .int j
  | none => .none
def isRowD : PyData → Bool
  | .list xs => xs.all (isInt 0 (some 1000))
  | _ => false
def isRunD : PyData → Bool
  | .tuple [a, b] => isInt 0 (some 1000) a && isInt 1 none b
  | _ => false
def lvD : PyData → PyData
  | .tuple (a :: _) => a
  | _ => .none
def difD : List PyData → Bool
  | x :: y :: r => !PyData.eqv (lvD x) (lvD y) && difD (y :: r)
  | _ => true
def isRunsD : PyData → Bool
  | .list xs => xs.all isRunD && difD xs
  | _ => false
/-- no dict in sight, two levels deep -/
def okL (x : PyData) : Prop := isDict x = false ∧ ∀ xs, x = .list xs ∨ x = .tuple xs → xs.length ≤ sizeLine ∧ ∀ y ∈ xs, isDict y = false
abbrev Run := Int × Int
def encR (r : Run) : PyData := .tuple [.int r.1, .int r.2]
def Dif : List Run → Prop
  | x :: y :: r => x.1 ≠ y.1 ∧ Dif (y :: r)
  | _ => True
/-- runs of levels up to 1000 -/
structure RunsOk (rs : List Run) : Prop where
  lv : ∀ r ∈ rs, 0 ≤ r.1 ∧ r.1 ≤ 1000
  ct : ∀ r ∈ rs, 1 ≤ r.2
  dif : Dif rs
  len : rs.length ≤ 1000
def Row (ns : List Int) (n : Nat) : Prop := ns.length ≤ n ∧ ∀ i ∈ ns, 0 ≤ i ∧ i ≤ 1000
def isL (c : Nat) : Bool := c == 76
def isS (c : Nat) : Prop := c = 76 ∨ c = 82
def s_is_integer : FSp := PureS fun ds k => ∃ v l m, ds = [v, .int l, optD m] ∧ isDict v = false ∧ k (.d (.bool (isInt l m v)))
def s_is_row : FSp := PureS fun ds k => ∃ x, ds = [x] ∧ okL x ∧ k (.d (.bool (isRowD x)))
def s_need_row : FSp := PureS fun ds k => ∃ ns, ds = [.list (ns.map .int)] ∧ Row ns 1000 ∧ k (.d .none)
def s_is_run : FSp := PureS fun ds k => ∃ x, ds = [x] ∧ okL x ∧ k (.d (.bool (isRunD x)))
def s_is_runs : FSp := PureS fun ds k => ∃ rs, ds = [.list (rs.map encR)] ∧ RunsOk rs ∧ k (.d (.bool true))
def s_need_runs : FSp := PureS fun ds k => ∃ rs, ds = [.list (rs.map encR)] ∧ RunsOk rs ∧ k (.d .none)
def s_is_side : FSp := PureS fun ds k => ∃ c, ds = [.str ⟨#[c]⟩] ∧ isS c ∧ k (.d (.bool true))
def s_need_side : FSp := PureS fun ds k => ∃ c, ds = [.str ⟨#[c]⟩] ∧ isS c ∧ k (.d .none)
def s_is_pushes : FSp := PureS fun ds k => ∃ s, ds = [.str s] ∧ Sides s ∧ s.length ≤ 1000 ∧ k (.d (.bool true))
def s_need_pushes : FSp := PureS fun ds k => ∃ s, ds = [.str s] ∧ Sides s ∧ s.length ≤ 1000 ∧ k (.d .none)
/-! ### runs -/
def jnR (found : List Run) (p : Run) : List Run :=
  if 0 < p.2 then match found.getLast? with
    | some q => if q.1 = p.1 then found.dropLast ++ [(p.1, q.2 + p.2)] else found ++ [p]
    | none => found ++ [p]
  else found
def joinR (ps : List Run) : List Run := ps.foldl jnR []
def splitR (l : Bool) (r : Run) : List Run := if l then [(r.1 + 1, r.2 / 2), (r.1, r.2 % 2)] else [(r.1, r.2 % 2), (r.1 + 1, r.2 / 2)]
def afterR (l : Bool) (rs : List Run) : List Run := joinR (rs.flatMap (splitR l))
def runsOf (ns : List Int) : List Run := joinR (ns.map fun v => (v, 1))
def expand (rs : List Run) : List Int := rs.flatMap fun r => List.replicate r.2.toNat r.1
def cnt (rs : List Run) : Int := (rs.map (·.2)).sum
/-- a push, tile by tile -/
def mrgI : List Int → List Int
  | [] => []
  | [x] => [x]
  | x :: y :: r => if y = x then (x + 1) :: mrgI r else x :: mrgI (y :: r)
def stepI (l : Bool) (ns : List Int) : List Int := if l then mrgI ns else (mrgI ns.reverse).reverse
def s_joined_runs : FSp := PureS fun ds k => ∃ ps, ds = [.list (ps.map encR)] ∧ ps.length ≤ 2000 ∧ k (.o ((joinR ps).map encR))
def s_after_push : FSp := PureS fun ds k => ∃ rs c, ds = [.list (rs.map encR), .str ⟨#[c]⟩] ∧ rs.length ≤ 1000 ∧ k (.o ((afterR (isL c) rs).map encR))
def s_runs_of : FSp := PureS fun ds k => ∃ ns, ds = [.list (ns.map .int)] ∧ Row ns 1000 ∧ k (.o ((runsOf ns).map encR))
def s_tiles_of : FSp := PureS fun ds k => ∃ rs, ds = [.list (rs.map encR)] ∧ rs.length ≤ 2000 ∧ (∀ r ∈ rs, 0 ≤ r.2) ∧ cnt rs ≤ 10000 ∧ k (.o ((expand rs).map .int))
def s_push_row : FSp := PureS fun ds k => ∃ ns c, ds = [.list (ns.map .int), .str ⟨#[c]⟩] ∧ Row ns 1000 ∧ isS c ∧ k (.o ((stepI (isL c) ns).map .int))
def s_push_runs : FSp := PureS fun ds k => ∃ rs c, ds = [.list (rs.map encR), .str ⟨#[c]⟩] ∧ RunsOk rs ∧ isS c ∧ k (.o ((afterR (isL c) rs).map encR))
def s_worth_of : FSp := PureS fun ds k => ∃ rs, ds = [.list (rs.map encR)] ∧ RunsOk rs ∧ (∀ r ∈ rs, r.2 < 2 ^ 63 * 2 ^ 63) ∧ k (.d (.int (rs.map fun r => r.2 * 2 ^ r.1.toNat).sum))

/-! ### numbers out of a jar -/
def s_jar : FSp := PureS fun ds k => ∃ (ns : List Int) (i : Int), ds = [.dict (scrK ns), .int i] ∧ 0 ≤ i ∧ i < 100 ∧ ∀ xs, Barrel 0 xs → k (.o xs)
def s_scoop : FSp := fun args Q _ => ∃ (t : Int) (xs : List PyData) (m : Int), args = [.o xs, .d (.int m)] ∧ Barrel t xs ∧ t < 2 ^ 60 ∧ 0 < m ∧ m < 2 ^ 210 ∧ ∀ x xs', 0 ≤ x → x < m → Barrel (t + 1) xs' → Q (.d (.int x)) [.o xs', .d (.int m)]
def s_tiles : FSp := fun args Q _ => ∃ (t : Int) (xs : List PyData) (m : Nat), args = [.o xs, .d (.int m)] ∧ Barrel t xs ∧ t < 2 ^ 50 ∧ m ≤ 100 ∧ ∀ ns xs', Row ns m → (∀ i ∈ ns, i ≤ 200) → Barrel (t + 1000) xs' → Q (.o (ns.map .int)) [.o xs', .d (.int m)]
def s_runs : FSp := fun args Q _ => ∃ (t : Int) (xs : List PyData) (m : Nat) (w : Int), args = [.o xs, .d (.int m), .d (.int w)] ∧ Barrel t xs ∧ t < 2 ^ 50 ∧ m ≤ 20 ∧ 1 ≤ w ∧ w ≤ 10 ^ 30 ∧ ∀ rs xs', RunsOk rs → rs.length ≤ m → (∀ r ∈ rs, r.1 ≤ 200 ∧ r.2 ≤ w) → Barrel (t + 1000) xs' → Q (.o (rs.map encR)) [.o xs', .d (.int m), .d (.int w)]

def s_grouped : FSp := PureS fun ds k => ∃ ns, ds = [.list (ns.map .int)] ∧ ns.length ≤ 5000 ∧ k (.o ((runsOf ns).map encR))
def s_after : FSp := PureS fun ds k => ∃ rs c, ds = [.list (rs.map encR), .str ⟨#[c]⟩] ∧ rs.length ≤ 1000 ∧ isS c ∧ (∀ r ∈ rs, 0 ≤ r.2 ∧ r.2 < 2 ^ 210) ∧ k (.o ((afterR (isL c) rs).map encR))

/-! ### pushes tile by tile and run by run, by the law -/
def s_pushed : FSp := PureS fun ds k => ∃ ns c, ds = [.list (ns.map .int), .str ⟨#[c]⟩] ∧ ns.length ≤ 5000 ∧ isS c ∧ k (.d (.list ((stepI (isL c) ns).map .int)))

/-! ### lists of pushes as objects -/
def isW (w : List Nat) : Prop := ∀ c ∈ w, isS c
def tx (w : List Nat) : Str := ⟨w.toArray⟩
def flipW (w : List Nat) : List Nat := w.map fun c => if c = 76 then 82 else 76
def c_Pushes : PyData → (Str → Prop) → (Exc → Prop) → Prop := fun x k _ => ∃ w, x = .str (tx w) ∧ isW w ∧ w.length ≤ 1000 ∧ k (tx w)
def s_Pushes_written : FSp := PureD fun ds k => ∃ z, ds = [objD 0 z] ∧ k (.d (.str z))
def s_Pushes_neg : FSp := PureD fun ds k => ∃ w, ds = [objD 0 (tx w)] ∧ isW w ∧ w.length ≤ 1000 ∧ k (.d (objD 0 (tx (flipW w))))
def s_Pushes_add : FSp := PureD fun ds k => ∃ w v, ds = [objD 0 (tx w), objD 0 (tx v)] ∧ isW w ∧ isW v ∧ w.length + v.length ≤ 200 ∧ k (.d (objD 0 (tx (w ++ v))))
def s_need_same_kind : FSp := PureD fun ds k => ∃ z, ds = [objD 0 z] ∧ k (.d .none)
def s_list : FSp := fun args Q _ => ∃ (t : Int) (xs : List PyData) (m : Nat), args = [.o xs, .d (.int m)] ∧ Barrel t xs ∧ t < 2 ^ 50 ∧ m ≤ 1000 ∧ ∀ w xs', isW w → w.length ≤ m → Barrel (t + 10000) xs' → Q (.d (.str (tx w))) [.o xs', .d (.int m)]

def pushW (rs : List Run) (w : List Nat) : List Run := w.foldl (fun rs c => afterR (isL c) rs) rs
def nb (n : Nat) : Nat := if n = 0 then 0 else n.log2 + 1
def bits (rs : List Run) : Nat := (rs.map fun r => nb r.2.toNat).sum
/-- runs that stay short and small -/
structure Pk (L : Int) (rs : List Run) : Prop where
  lv : ∀ r ∈ rs, 0 ≤ r.1 ∧ r.1 ≤ L
  ct : ∀ r ∈ rs, 1 ≤ r.2
  cn : cnt rs ≤ 10 ^ 32
  bt : bits rs ≤ 1000

def stillR (rs : List Run) : Bool := rs.all fun r => decide (r.2 = 1)
def sideR (rs : List Run) : Bool := rs.any fun r => decide (r.2 % 2 = 1) && decide (1 < r.2)
def s_are_still : FSp := PureS fun ds k => ∃ rs, ds = [.list (rs.map encR)] ∧ rs.length ≤ 1000 ∧ k (.d (.bool (stillR rs)))
def s_is_still : FSp := PureS fun ds k => ∃ rs, ds = [.list (rs.map encR)] ∧ RunsOk rs ∧ k (.d (.bool (stillR rs)))
def s_side_matters : FSp := PureS fun ds k => ∃ rs, ds = [.list (rs.map encR)] ∧ RunsOk rs ∧ k (.d (.bool (sideR rs)))

/-! ### the parting number -/
def partN : List Nat → List Nat → Option Nat
  | [], [] => none
  | [], _ :: _ => some 2
  | _ :: _, [] => some 2
  | c :: w, d :: v => if c = d then (partN w v).map (2 * ·) else some 3
def optN : Option Nat → PyData
  | none => .none
  | some n => .int (n : Nat)
def s_parting_number : FSp := PureS fun ds k => ∃ w v, ds = [.str (tx w), .str (tx v)] ∧ isW w ∧ isW v ∧ w.length ≤ 300 ∧ v.length ≤ 300 ∧ k (.d (optN (partN w v)))
def s_run : FSp := PureS fun ds k => ∃ (n : Nat) (w : List Nat), ds = [.list [.tuple [.int 0, .int n]], .str (tx w)] ∧ 1 ≤ n ∧ n < 2 ^ 210 ∧ isW w ∧ w.length ≤ 300 ∧ k (.d (.list ((pushW [(0, (n : Int))] w).map encR)))
def s_tried : FSp := PureS fun ds k => ∃ w v, ds = [.str (tx w), .str (tx v)] ∧ isW w ∧ isW v ∧ w.length ≤ 5 ∧ v.length ≤ 5 ∧ k (.d (optN (partN w v)))
def s_long_right : FSp := fun args Q _ => ∃ (t : Int) (xs : List PyData) (w v : List Nat), args = [.o xs, .d (.str (tx w)), .d (.str (tx v))] ∧ Barrel t xs ∧ t < 2 ^ 50 ∧ isW w ∧ isW v ∧ w.length ≤ 205 ∧ v.length ≤ 205 ∧ ∀ xs', Barrel (t + 10) xs' → Q (.d (.bool true)) [.o xs', .d (.str (tx w)), .d (.str (tx v))]
def s_near : FSp := fun args Q _ => ∃ (t : Int) (xs : List PyData) (w : List Nat), args = [.o xs, .d (.str (tx w))] ∧ Barrel t xs ∧ t < 2 ^ 49 ∧ isW w ∧ w.length ≤ 205 ∧ ∀ v xs', isW v → v.length ≤ 200 → Barrel (t + 100000) xs' → Q (.d (.str (tx v))) [.o xs', .d (.str (tx w))]


def G : Gm where
  fn := fun i => match i with
    | 0 => some ([true, true], s_jar)
    | 1 => some ([true, true], s_scoop)
    | 2 => some ([true, true], s_list)
    | 3 => some ([true], s_is_pushes)
    | 4 => some ([true], s_need_pushes)
    | 5 => some ([true, true], s_parting_number)
    | 6 => some ([true, true], s_after)
    | 7 => some ([false, true], s_run)
    | 8 => some ([true, true, true], s_long_right)
    | 9 => some ([false, true], s_pushed)
    | 10 => some ([true, true], s_tried)
    | 11 => some ([true, true], s_near)
    | _ => none
  con := fun i => match i with
    | 0 => some (.tuple [(.str "L"), (.str "R")])
    | _ => none
theorem g_jar : G.fn 0 = some ([true, true], s_jar) := rfl
theorem g_scoop : G.fn 1 = some ([true, true], s_scoop) := rfl
theorem g_list : G.fn 2 = some ([true, true], s_list) := rfl
theorem g_is_pushes : G.fn 3 = some ([true], s_is_pushes) := rfl
theorem g_need_pushes : G.fn 4 = some ([true], s_need_pushes) := rfl
theorem g_parting_number : G.fn 5 = some ([true, true], s_parting_number) := rfl
theorem g_after : G.fn 6 = some ([true, true], s_after) := rfl
theorem g_run : G.fn 7 = some ([false, true], s_run) := rfl
theorem g_long_right : G.fn 8 = some ([true, true, true], s_long_right) := rfl
theorem g_pushed : G.fn 9 = some ([false, true], s_pushed) := rfl
theorem g_tried : G.fn 10 = some ([true, true], s_tried) := rfl
theorem g_near : G.fn 11 = some ([true, true], s_near) := rfl
theorem gc_SIDES : G.con 0 = some (.tuple [(.str "L"), (.str "R")]) := rfl

local macro_rules | `(tactic| walk_at "v") => `(tactic| (first | simp (maxSteps := 1000000) only [FX.wv_cst, FX.wo_cst, FX.wm_cst, FX.wt_cst, FX.wv_var, FX.wo_var, FX.isv_d, FX.isv_o, FX.isv_t, FX.isv_r, FX.sld_r, FX.slr_r, FX.wt_var, FX.wm_var, FX.wv_glob, FX.wo_glob, FX.wv_prim, FX.wo_prim, FX.wm_prim, FX.wt_prim, FX.wv_ands, FX.wo_ands, FX.wm_ands, FX.wt_ands, FX.wv_ors, FX.wo_ors, FX.wm_ors, FX.wt_ors, FX.wv_nt, FX.wo_nt, FX.wm_nt, FX.wt_nt, FX.wv_ite, FX.wo_ite, FX.wm_ite, FX.wt_ite, FX.wv_chain, FX.wm_chain, FX.wo_chain, FX.wt_chain, FX.wv_call, FX.wm_call, FX.wo_call, FX.wt_call, FX.wv_lst, FX.wm_lst, FX.wo_lst, FX.wt_lst, FX.wv_tup, FX.wm_tup, FX.wo_tup, FX.wv_comp, FX.wm_comp, FX.wo_comp, FX.wv_comp2, FX.wm_comp2, FX.wo_comp2, FX.wv_mcall, FX.wo_mcall, FX.wv_meth, FX.wm_meth, FX.wo_meth, FX.wv_reprL, FX.wm_reprL, FX.wo_reprL, FX.wv_lenS, FX.wm_lenS, FX.wo_lenS, FX.wv_new, FX.wm_new, FX.wo_new, FX.wv_fld, FX.wm_fld, FX.wo_fld, FX.wi_fld, FX.wv_mo, FX.wm_mo, FX.wo_mo, FX.wt_mo, FX.wi_mo, FX.wv_isO, FX.wm_isO, FX.wo_isO, FX.wt_isO, FX.wv_isT, FX.wm_isT, FX.wo_isT, FX.wt_isT, FX.wv_smul, FX.wm_smul, FX.wo_smul, FX.oo_objD, FX.eo_objD, FX.eo_n, FX.eo_b, FX.eo_i, FX.eo_s, FX.eo_l, FX.eo_t, FX.oo_n, FX.oo_b, FX.oo_i, FX.oo_s, FX.oo_l, FX.oo_tu, FX.me_ob, FX.mo_neg, FX.mo_add, FX.mo_mul, FX.mo_call, FX.mo_prop, FX.mo_len, FX.mo_item, FX.mo_inn, FX.mo_eq, FX.mo_ne, FX.wv_litD, FX.wm_litD, FX.wo_litD, FX.wv_dct0, FX.wo_dct0, FX.wv_dct1, FX.wv_dupd, FX.wo_dupd, FX.wv_sl, FX.wm_sl, FX.wo_sl, FX.ws_nil_os, FX.ws_nil_rs, FX.ws_nil_andT, FX.ws_nil_orT, FX.ws_os, FX.ws_rs, FX.ws_andT, FX.ws_orT, FX.ws_andV1, FX.ws_orV1, FX.ws_andV, FX.ws_orV, FX.wi_var, FX.wi_items, FX.wi_ite, FX.wi_call, FX.wi_prim, FX.wi_lst, FX.wi_tup, FX.wi_meth, FX.wi_sl, FX.wi_comp, FX.wi_comp2, FX.wi_dct0, FX.wi_reprL, FX.wm_glob, FX.wi_cst, FX.wi_glob, FX.wi_rng1, FX.wi_rng2, FX.wi_zip, FX.wi_enumZ, FX.wi_enum, FX.wi_rngD, FX.s_skip, FX.s_pass, FX.s_brk, FX.s_cnt, FX.s_never, FX.s_seq, FX.s_ex, FX.s_asg, FX.s_asgT, FX.s_aug, FX.s_setI, FX.s_ifs, FX.s_fr, FX.s_ret, FX.s_retv, FX.s_setI2, FX.setK_eq, FX.s_rais, FX.s_tryR, FX.s_retN, FX.at_0, FX.at_s, FX.get_v, FX.get_s, FX.gets_nil, FX.gets_cons, FX.sld_d, FX.sld_o, FX.sld_tt, FX.sld_no, FX.rsd_d, FX.rsd_o, FX.rsd_t, FX.rss_t, FX.slr_t, FX.st_nmt, FX.rss_d, FX.rss_o, FX.slr_d, FX.slr_o, FX.st_nmd, FX.st_nmo, FX.st_tp, FX.pt_nm, FX.pt_tp, FX.pts_nil', FX.pts_cons, FX.sts_nil', FX.sts_cons, FX.pa_nil', FX.pa_vt, FX.pa_vf, FX.pa_st, FX.pa_sf, FX.bi_s, FX.bi_n, FX.bi_nil, FX.oo_nil, FX.oo_t, FX.oo_f, FX.tk_b, FX.tk_i, FX.tk_s, FX.tr_b, FX.tr_i, FX.tr_l, FX.tr_s, FX.lo_b, FX.lo_i, FX.lo_l, FX.lo_s, FX.io_l, FX.io_t, FX.io_s, FX.set_0, FX.set_s, FX.isd_n, FX.isd_b, FX.isd_i, FX.isd_s, FX.isd_l, FX.isd_t, FX.ist_ii, FX.ist_ib, FX.ist_bi, FX.ist_bb, FX.ist_ll, FX.ist_tl, FX.ist_tt, FX.ist_lt, FX.ist_ss, FX.ist_si, FX.ist_is, FX.ist_sl, FX.ist_il, FX.ist_ls, FX.lk_nil, FX.lk_cons, FX.wf_nil, FX.wf_cons, FX.lko_v, FX.lko_s, FX.sld_l, FX.sld_t, FX.sld_s, FX.eqv_ii, FX.shp_ss, FX.shp_ii, FX.shp_l, FX.shp_t, FX.shp_i, FX.shp_b, FX.shp_0, FX.ps_addI, FX.ps_addS, FX.ps_addL, FX.ps_addT, FX.ps_sub, FX.ps_mul, FX.ps_mulL, FX.ps_fdiv, FX.ps_mod, FX.ps_shl, FX.ps_shr, FX.ps_pow, FX.ps_neg, FX.ps_eq, FX.ps_ne, FX.ps_ltS, FX.ps_lt, FX.ps_le, FX.ps_gt, FX.ps_ge, FX.ps_inn, FX.ps_nin, FX.ps_isB, FX.ps_notB, FX.ps_isN, FX.ps_notN, FX.ps_ixL, FX.ps_ixT, FX.ps_ixS, FX.ps_lenL, FX.ps_lenT, FX.ps_lenS, FX.ps_sl0, FX.ps_sl1, FX.ps_sl2, FX.ps_rev, FX.ps_abs, FX.ps_max2, FX.ps_min2s, FX.ps_min2, FX.ps_maxL, FX.ps_minL, FX.ps_sum, FX.ps_all, FX.ps_any, FX.ps_sorted, FX.ps_listL, FX.ps_listS, FX.ps_listT, FX.ps_tupL, FX.ps_intI, FX.ps_intS, FX.ps_strI, FX.ps_repr, FX.ps_isi, FX.ps_join, FX.ps_split, FX.ps_sortedR, FX.ps_dgetI, FX.ps_dget1, FX.ps_dget2, FX.ps_eqE, FX.ps_neE, FX.ia_dict, FX.ps_scrL, FX.ps_scrI, FX.ex_ix0, FX.ex_ix1, FX.ex_ix2, FX.ex_ixN30, FX.ex_ixN31, FX.ex_ixN32, FX.ms_append, FX.ms_extend, FX.ms_pop, FX.ms_popAt, FX.ms_reverse, FX.hx_txt, FX.hx_ite, FX.hc_is, FX.hc_nt, FX.hc_and, FX.rel, FX.Sm.ofV, Option.map_some, Option.bind_some, List.map_cons, List.map_nil, if_true, if_false, Bool.false_eq_true, decide_eq_true_eq, true_and, and_true, Bool.not_true, Bool.not_false, List.length_cons, List.length_nil, List.replicate, Nat.reduceAdd, Nat.reduceSub, List.cons_append, List.nil_append, Nat.reduceLeDiff, eq_self, reduceIte, Bool.not_eq_true, Bool.not_eq_false, forall_const, List.append_nil, FX.isNone, List.set_cons_zero, List.set_cons_succ, beq_iff_eq, List.take_nil, List.take_succ_cons, List.take_zero, List.eraseIdx_cons_zero, g_jar, g_scoop, g_list, g_is_pushes, g_need_pushes, g_parting_number, g_after, g_run, g_long_right, g_pushed, g_tried, g_near, gc_SIDES] | skip))
local macro_rules | `(tactic| walk_at "z") => `(tactic| (first | simp (maxSteps := 1000000) only [↓FX.z_v, ↓FX.z_m, ↓FX.z_o, ↓FX.z_t, ↓FX.z_rs, ↓FX.z_os, ↓FX.z_andT, ↓FX.z_S, ↓FX.z_P, ↓FX.z_Tk, ↓FX.zwv_cst, ↓FX.zwo_cst, ↓FX.zwm_cst, ↓FX.zwt_cst, ↓FX.zwv_var, ↓FX.zwo_var, ↓FX.zwt_var, ↓FX.zwm_var, ↓FX.zwv_glob, ↓FX.zwo_glob, ↓FX.zwv_prim, ↓FX.zwo_prim, ↓FX.zwm_prim, ↓FX.zwt_prim, ↓FX.zwv_ands, ↓FX.zwo_ands, ↓FX.zwm_ands, ↓FX.zwt_ands, ↓FX.zwv_ors, ↓FX.zwo_ors, ↓FX.zwm_ors, ↓FX.zwt_ors, ↓FX.zwv_nt, ↓FX.zwo_nt, ↓FX.zwm_nt, ↓FX.zwt_nt, ↓FX.zwv_ite, ↓FX.zwo_ite, ↓FX.zwm_ite, ↓FX.zwt_ite, ↓FX.zwv_chain, ↓FX.zwm_chain, ↓FX.zwo_chain, ↓FX.zwt_chain, ↓FX.zwv_call, ↓FX.zwm_call, ↓FX.zwo_call, ↓FX.zwt_call, ↓FX.zwv_lst, ↓FX.zwm_lst, ↓FX.zwo_lst, ↓FX.zwt_lst, ↓FX.zwv_tup, ↓FX.zwm_tup, ↓FX.zwo_tup, ↓FX.zwv_comp, ↓FX.zwm_comp, ↓FX.zwo_comp, ↓FX.zwv_comp2, ↓FX.zwm_comp2, ↓FX.zwo_comp2, ↓FX.zwv_mcall, ↓FX.zwo_mcall, ↓FX.zwv_meth, ↓FX.zwm_meth, ↓FX.zwo_meth, ↓FX.zwv_reprL, ↓FX.zwm_reprL, ↓FX.zwo_reprL, ↓FX.zwv_lenS, ↓FX.zwm_lenS, ↓FX.zwo_lenS, ↓FX.zwv_new, ↓FX.zwm_new, ↓FX.zwo_new, ↓FX.zwv_fld, ↓FX.zwm_fld, ↓FX.zwo_fld, ↓FX.zwi_fld, ↓FX.zwv_mo, ↓FX.zwm_mo, ↓FX.zwo_mo, ↓FX.zwt_mo, ↓FX.zwi_mo, ↓FX.zwv_isO, ↓FX.zwm_isO, ↓FX.zwo_isO, ↓FX.zwt_isO, ↓FX.zwv_isT, ↓FX.zwm_isT, ↓FX.zwo_isT, ↓FX.zwt_isT, ↓FX.zwv_smul, ↓FX.zwm_smul, ↓FX.zwo_smul, ↓FX.zme_ob, ↓FX.zmo_neg, ↓FX.zmo_add, ↓FX.zmo_mul, ↓FX.zmo_call, ↓FX.zmo_prop, ↓FX.zmo_len, ↓FX.zmo_item, ↓FX.zmo_inn, ↓FX.zmo_eq, ↓FX.zmo_ne, ↓FX.zwv_litD, ↓FX.zwm_litD, ↓FX.zwo_litD, ↓FX.zwv_dct0, ↓FX.zwo_dct0, ↓FX.zwv_dct1, ↓FX.zwv_dupd, ↓FX.zwo_dupd, ↓FX.zwv_sl, ↓FX.zwm_sl, ↓FX.zwo_sl, ↓FX.zws_nil_os, ↓FX.zws_nil_rs, ↓FX.zws_nil_andT, ↓FX.zws_nil_orT, ↓FX.zws_os, ↓FX.zws_rs, ↓FX.zws_andT, ↓FX.zws_orT, ↓FX.zws_andV1, ↓FX.zws_orV1, ↓FX.zws_andV, ↓FX.zws_orV, ↓FX.zwi_var, ↓FX.zwi_items, ↓FX.zwi_ite, ↓FX.zwi_call, ↓FX.zwi_prim, ↓FX.zwi_lst, ↓FX.zwi_tup, ↓FX.zwi_meth, ↓FX.zwi_sl, ↓FX.zwi_comp, ↓FX.zwi_comp2, ↓FX.zwi_dct0, ↓FX.zwi_reprL, ↓FX.zwm_glob, ↓FX.zwi_cst, ↓FX.zwi_glob, ↓FX.zwi_rng1, ↓FX.zwi_rng2, ↓FX.zwi_zip, ↓FX.zwi_enumZ, ↓FX.zwi_enum, ↓FX.zwi_rngD, ↓FX.zs_skip, ↓FX.zs_pass, ↓FX.zs_brk, ↓FX.zs_cnt, ↓FX.zs_never, ↓FX.zs_seq, ↓FX.zs_ex, ↓FX.zs_asg, ↓FX.zs_asgT, ↓FX.zs_aug, ↓FX.zs_setI, ↓FX.zs_ifs, ↓FX.zs_fr, ↓FX.zs_ret, ↓FX.zs_retv, ↓FX.zs_setI2, ↓FX.zs_rais, ↓FX.zs_tryR, ↓FX.zs_retN, ↓FX.ztk_b, ↓FX.ztk_i, ↓FX.ztk_s, ↓FX.zsld_l, ↓FX.zsld_t, ↓FX.zsld_s, ↓FX.zps_addI, ↓FX.zps_addS, ↓FX.zps_addL, ↓FX.zps_addT, ↓FX.zps_sub, ↓FX.zps_mul, ↓FX.zps_mulL, ↓FX.zps_fdiv, ↓FX.zps_mod, ↓FX.zps_shl, ↓FX.zps_shr, ↓FX.zps_pow, ↓FX.zps_neg, ↓FX.zps_eq, ↓FX.zps_ne, ↓FX.zps_ltS, ↓FX.zps_lt, ↓FX.zps_le, ↓FX.zps_gt, ↓FX.zps_ge, ↓FX.zps_inn, ↓FX.zps_nin, ↓FX.zps_isB, ↓FX.zps_notB, ↓FX.zps_isN, ↓FX.zps_notN, ↓FX.zps_ixL, ↓FX.zps_ixT, ↓FX.zps_ixS, ↓FX.zps_lenL, ↓FX.zps_lenT, ↓FX.zps_lenS, ↓FX.zps_sl0, ↓FX.zps_sl1, ↓FX.zps_sl2, ↓FX.zps_rev, ↓FX.zps_abs, ↓FX.zps_max2, ↓FX.zps_min2s, ↓FX.zps_min2, ↓FX.zps_maxL, ↓FX.zps_minL, ↓FX.zps_sum, ↓FX.zps_all, ↓FX.zps_any, ↓FX.zps_sorted, ↓FX.zps_listL, ↓FX.zps_listS, ↓FX.zps_listT, ↓FX.zps_tupL, ↓FX.zps_intI, ↓FX.zps_intS, ↓FX.zps_strI, ↓FX.zps_repr, ↓FX.zps_isi, ↓FX.zps_join, ↓FX.zps_split, ↓FX.zps_sortedR, ↓FX.zps_dgetI, ↓FX.zps_dget1, ↓FX.zps_dget2, ↓FX.zps_eqE, ↓FX.zps_neE, ↓FX.zia_dict, ↓FX.zps_scrL, ↓FX.zps_scrI, ↓FX.zex_ix0, ↓FX.zex_ix1, ↓FX.zex_ix2, ↓FX.zex_ixN30, ↓FX.zex_ixN31, ↓FX.zex_ixN32, ↓FX.zms_append, ↓FX.zms_extend, ↓FX.zms_pop, ↓FX.zms_popAt, ↓FX.zms_reverse, FX.isv_d, FX.isv_o, FX.isv_t, FX.isv_r, FX.sld_r, FX.slr_r, FX.oo_objD, FX.eo_objD, FX.eo_n, FX.eo_b, FX.eo_i, FX.eo_s, FX.eo_l, FX.eo_t, FX.oo_n, FX.oo_b, FX.oo_i, FX.oo_s, FX.oo_l, FX.oo_tu, FX.setK_eq, FX.at_0, FX.at_s, FX.get_v, FX.get_s, FX.gets_nil, FX.gets_cons, FX.sld_d, FX.sld_o, FX.sld_tt, FX.sld_no, FX.rsd_d, FX.rsd_o, FX.rsd_t, FX.rss_t, FX.slr_t, FX.st_nmt, FX.rss_d, FX.rss_o, FX.slr_d, FX.slr_o, FX.st_nmd, FX.st_nmo, FX.st_tp, FX.pt_nm, FX.pt_tp, FX.pts_nil', FX.pts_cons, FX.sts_nil', FX.sts_cons, FX.pa_nil', FX.pa_vt, FX.pa_vf, FX.pa_st, FX.pa_sf, FX.bi_s, FX.bi_n, FX.bi_nil, FX.oo_nil, FX.oo_t, FX.oo_f, FX.tr_b, FX.tr_i, FX.tr_l, FX.tr_s, FX.lo_b, FX.lo_i, FX.lo_l, FX.lo_s, FX.io_l, FX.io_t, FX.io_s, FX.set_0, FX.set_s, FX.isd_n, FX.isd_b, FX.isd_i, FX.isd_s, FX.isd_l, FX.isd_t, FX.ist_ii, FX.ist_ib, FX.ist_bi, FX.ist_bb, FX.ist_ll, FX.ist_tl, FX.ist_tt, FX.ist_lt, FX.ist_ss, FX.ist_si, FX.ist_is, FX.ist_sl, FX.ist_il, FX.ist_ls, FX.lk_nil, FX.lk_cons, FX.wf_nil, FX.wf_cons, FX.lko_v, FX.lko_s, FX.eqv_ii, FX.shp_ss, FX.shp_ii, FX.shp_l, FX.shp_t, FX.shp_i, FX.shp_b, FX.shp_0, FX.hx_txt, FX.hx_ite, FX.hc_is, FX.hc_nt, FX.hc_and, FX.rel, FX.Sm.ofV, Option.map_some, Option.bind_some, List.map_cons, List.map_nil, if_true, if_false, Bool.false_eq_true, decide_eq_true_eq, true_and, and_true, Bool.not_true, Bool.not_false, List.length_cons, List.length_nil, List.replicate, Nat.reduceAdd, Nat.reduceSub, List.cons_append, List.nil_append, Nat.reduceLeDiff, eq_self, reduceIte, Bool.not_eq_true, Bool.not_eq_false, forall_const, List.append_nil, FX.isNone, List.set_cons_zero, List.set_cons_succ, beq_iff_eq, List.take_nil, List.take_succ_cons, List.take_zero, List.eraseIdx_cons_zero, g_jar, g_scoop, g_list, g_is_pushes, g_need_pushes, g_parting_number, g_after, g_run, g_long_right, g_pushed, g_tried, g_near, gc_SIDES] | skip))
/-! ### the mathematics of runs -/
theorem expand_nil : expand [] = [] := rfl
theorem expand_cons (r : Run) (rs : List Run) : expand (r :: rs) = List.replicate r.2.toNat r.1 ++ expand rs := rfl
theorem expand_app (a b : List Run) : expand (a ++ b) = expand a ++ expand b := by simp [expand]
theorem expand_jn {found : List Run} {p : Run} (h : ∀ r ∈ found, 0 ≤ r.2) (hp : 0 ≤ p.2) : expand (jnR found p) = expand found ++ List.replicate p.2.toNat p.1 := by
  unfold jnR
  by_cases hc : 0 < p.2
  · rw [if_pos hc]
    cases e : found.getLast? with
    | none => simp [expand_app, expand_cons, expand_nil]
    | some q =>
      have hne : found ≠ [] := fun z => by rw [z] at e; cases e
      rw [List.getLast?_eq_getLast hne] at e
      have e := Option.some.inj e
      dsimp only
      by_cases hq : q.1 = p.1
      · rw [if_pos hq, expand_app]
        have h1 : found = found.dropLast ++ [q] := by rw [← e]; exact (List.dropLast_concat_getLast hne).symm
        have hq2 : 0 ≤ q.2 := h q (by rw [h1]; simp)
        conv => rhs; rw [h1, expand_app, List.append_assoc]
        rw [expand_cons, expand_cons, expand_nil, List.append_nil, List.append_nil, hq]
        dsimp only
        rw [Int.toNat_add hq2 hp, ← List.replicate_append_replicate]
      · rw [if_neg hq, expand_app, expand_cons, expand_nil, List.append_nil]
  · rw [if_neg hc]
    have : p.2.toNat = 0 := by omega
    rw [this]
    simp
theorem dif_app {xs : List Run} {p : Run} (h : Dif xs) (hl : ∀ q, xs.getLast? = some q → q.1 ≠ p.1) : Dif (xs ++ [p]) := by
  induction xs with
  | nil => trivial
  | cons x xs ih =>
    cases xs with
    | nil => exact ⟨hl x rfl, trivial⟩
    | cons y xs => exact ⟨h.1, ih h.2 fun q hq => hl q (by rw [List.getLast?_cons_cons]; exact hq)⟩
theorem dif_snoc {xs : List Run} {p : Run} (h : Dif (xs ++ [p])) : Dif xs ∧ ∀ q, xs.getLast? = some q → q.1 ≠ p.1 := by
  induction xs with
  | nil => exact ⟨trivial, fun q hq => by cases hq⟩
  | cons x xs ih =>
    cases xs with
    | nil =>
      refine ⟨trivial, fun q hq => ?_⟩
      obtain rfl : x = q := by simpa using hq
      exact h.1
    | cons y xs =>
      obtain ⟨h1, h2⟩ := ih h.2
      exact ⟨⟨h.1, h1⟩, fun q hq => h2 q (by rw [List.getLast?_cons_cons] at hq; exact hq)⟩
/-- what joining keeps -/
structure JOk (P : Int → Prop) (rs : List Run) : Prop where
  lv : ∀ r ∈ rs, P r.1
  ct : ∀ r ∈ rs, 1 ≤ r.2
  dif : Dif rs
theorem jok_jn {P : Int → Prop} {found : List Run} {p : Run} (h : JOk P found) (hp : P p.1) : JOk P (jnR found p) ∧ (jnR found p).length ≤ found.length + 1 := by
  unfold jnR
  by_cases hc : 0 < p.2
  · rw [if_pos hc]
    cases e : found.getLast? with
    | none =>
      have : found = [] := by simpa using e
      subst this
      exact ⟨⟨fun r hr => by simp at hr; subst hr; exact hp, fun r hr => by simp at hr; subst hr; omega, trivial⟩, by simp⟩
    | some q =>
      have hne : found ≠ [] := fun z => by rw [z] at e; cases e
      have e0 := e
      rw [List.getLast?_eq_getLast hne] at e
      have e := Option.some.inj e
      have h1 : found = found.dropLast ++ [q] := by rw [← e]; exact (List.dropLast_concat_getLast hne).symm
      have hqm : q ∈ found := by rw [h1]; simp
      dsimp only
      by_cases hq : q.1 = p.1
      · rw [if_pos hq]
        have hd : Dif (found.dropLast ++ [q]) := by rw [← h1]; exact h.dif
        obtain ⟨d1, d2⟩ := dif_snoc hd
        refine ⟨⟨fun r hr => ?_, fun r hr => ?_, dif_app d1 fun z hz => by rw [← hq]; exact d2 z hz⟩, ?_⟩
        · rcases List.mem_append.mp hr with hr | hr
          · exact h.lv r ((List.dropLast_sublist _).subset hr)
          · simp at hr; subst hr; exact hp
        · rcases List.mem_append.mp hr with hr | hr
          · exact h.ct r ((List.dropLast_sublist _).subset hr)
          · simp at hr; subst hr
            have := h.ct q hqm
            show 1 ≤ q.2 + p.2
            omega
        · simp
      · rw [if_neg hq]
        refine ⟨⟨fun r hr => ?_, fun r hr => ?_, dif_app h.dif fun z hz => ?_⟩, by simp⟩
        · rcases List.mem_append.mp hr with hr | hr
          · exact h.lv r hr
          · simp at hr; subst hr; exact hp
        · rcases List.mem_append.mp hr with hr | hr
          · exact h.ct r hr
          · simp at hr; subst hr; omega
        · rw [e0] at hz
          cases hz
          exact hq
  · rw [if_neg hc]
    exact ⟨h, by omega⟩
theorem jok_nil {P : Int → Prop} : JOk P [] := ⟨(fun _ h => by cases h), (fun _ h => by cases h), trivial⟩
theorem join_gen {P : Int → Prop} : ∀ (ps found : List Run), JOk P found → (∀ p ∈ ps, P p.1) → JOk P (ps.foldl jnR found) ∧ (ps.foldl jnR found).length ≤ found.length + ps.length
  | [], found, h, _ => ⟨h, by simp⟩
  | p :: ps, found, h, hp => by
    obtain ⟨h1, h2⟩ := jok_jn (p := p) h (hp p List.mem_cons_self)
    obtain ⟨h3, h4⟩ := join_gen ps (jnR found p) h1 fun q hq => hp q (List.mem_cons_of_mem _ hq)
    exact ⟨h3, by simp only [List.foldl_cons, List.length_cons]; omega⟩
theorem join_ok {P : Int → Prop} {ps : List Run} (h : ∀ p ∈ ps, P p.1) : JOk P (joinR ps) := (join_gen ps [] jok_nil h).1
theorem join_len (ps : List Run) : (joinR ps).length ≤ ps.length := by
  have := (join_gen (P := fun _ => True) ps [] jok_nil fun _ _ => trivial).2
  rw [List.length_nil, Nat.zero_add] at this
  exact this
theorem expand_fold : ∀ (ps found : List Run), (∀ r ∈ found, 1 ≤ r.2) → Dif found → (∀ p ∈ ps, 0 ≤ p.2) → expand (ps.foldl jnR found) = expand found ++ expand ps
  | [], found, _, _, _ => by simp [expand_nil]
  | p :: ps, found, h, hd, hp => by
    have h1 := (jok_jn (P := fun _ => True) (p := p) ⟨fun _ _ => trivial, h, hd⟩ trivial).1
    rw [List.foldl_cons, expand_fold ps _ h1.ct h1.dif fun q hq => hp q (List.mem_cons_of_mem _ hq), expand_jn (fun r hr => by have := h r hr; omega) (hp p List.mem_cons_self), expand_cons, List.append_assoc]
theorem expand_join {ps : List Run} (h : ∀ p ∈ ps, 0 ≤ p.2) : expand (joinR ps) = expand ps := by
  unfold joinR
  rw [expand_fold ps [] (by intro _ h; cases h) trivial h]
  rfl
theorem expand_runsOf (ns : List Int) : expand (runsOf ns) = ns := by
  unfold runsOf
  rw [expand_join fun p hp => by
    obtain ⟨v, _, rfl⟩ := List.mem_map.mp hp
    exact Int.zero_le_ofNat 1]
  induction ns with
  | nil => rfl
  | cons v ns ih =>
    rw [List.map_cons, expand_cons, ih]
    rfl
/-! ### a push of a run -/
theorem mrgI_cc (x y : Int) (r : List Int) : mrgI (x :: y :: r) = if y = x then (x + 1) :: mrgI r else x :: mrgI (y :: r) := by rw [mrgI]
theorem mrgI_run (v : Int) : ∀ (n : Nat) (rest : List Int), (∀ x, rest.head? = some x → x ≠ v) → mrgI (List.replicate n v ++ rest) = List.replicate (n / 2) (v + 1) ++ (List.replicate (n % 2) v ++ mrgI rest)
  | 0, rest, _ => by simp
  | 1, rest, h => by
    cases rest with
    | nil => rfl
    | cons y r =>
      have : y ≠ v := h y rfl
      show mrgI (v :: y :: r) = v :: mrgI (y :: r)
      rw [mrgI_cc, if_neg this]
  | n + 2, rest, h => by
    have ih := mrgI_run v n rest h
    have e1 : (n + 2) / 2 = n / 2 + 1 := by omega
    have e2 : (n + 2) % 2 = n % 2 := by omega
    show mrgI (v :: v :: (List.replicate n v ++ rest)) = _
    rw [e1, e2, mrgI_cc, if_pos rfl, ih]
    rfl
theorem expand_split (l : Bool) (r : Run) (h : 0 ≤ r.2) : expand (splitR l r) = if l then List.replicate (r.2.toNat / 2) (r.1 + 1) ++ List.replicate (r.2.toNat % 2) r.1 else List.replicate (r.2.toNat % 2) r.1 ++ List.replicate (r.2.toNat / 2) (r.1 + 1) := by
  have e1 : (r.2 / 2).toNat = r.2.toNat / 2 := by omega
  have e2 : (r.2 % 2).toNat = r.2.toNat % 2 := by omega
  unfold splitR
  cases l
  · simp [expand, e1, e2]
  · simp [expand, e1, e2]
theorem head_expand {rs : List Run} (h : ∀ r ∈ rs, 1 ≤ r.2) : (expand rs).head? = rs.head?.map (·.1) := by
  cases rs with
  | nil => rfl
  | cons r rs =>
    have : r.2.toNat = (r.2.toNat - 1) + 1 := by have := h r List.mem_cons_self; omega
    rw [expand_cons, this, List.replicate_succ]
    rfl
theorem mrgI_expand : ∀ {rs : List Run}, (∀ r ∈ rs, 1 ≤ r.2) → Dif rs → mrgI (expand rs) = expand (rs.flatMap (splitR true))
  | [], _, _ => rfl
  | r :: rs, h, hd => by
    have hr := fun x hx => h x (List.mem_cons_of_mem r hx)
    have ih := mrgI_expand (rs := rs) hr (by cases rs with
      | nil => trivial
      | cons y rs => exact hd.2)
    rw [expand_cons, mrgI_run r.1 _ _ (fun x hx => by
      rw [head_expand hr] at hx
      cases rs with
      | nil => cases hx
      | cons y rs =>
        cases hx
        exact fun e => hd.1 e.symm), ih, List.flatMap_cons, expand_app, expand_split true r (by have := h r List.mem_cons_self; omega), if_pos rfl, List.append_assoc]
theorem expand_rev (rs : List Run) : expand rs.reverse = (expand rs).reverse := by
  induction rs with
  | nil => rfl
  | cons r rs ih =>
    rw [List.reverse_cons, expand_app, ih, expand_cons, expand_cons, expand_nil, List.append_nil, List.reverse_append, List.reverse_replicate]
theorem dif_rev {rs : List Run} (h : Dif rs) : Dif rs.reverse := by
  induction rs with
  | nil => trivial
  | cons r rs ih =>
    rw [List.reverse_cons]
    cases rs with
    | nil => trivial
    | cons y rs =>
      refine dif_app (ih h.2) fun q hq => ?_
      rw [List.getLast?_reverse] at hq
      obtain rfl : y = q := by simpa using hq
      exact fun e => h.1 e.symm
theorem split_rev (r : Run) : (splitR true r).reverse = splitR false r := rfl
theorem flat_rev : ∀ rs : List Run, (rs.reverse.flatMap (splitR true)).reverse = rs.flatMap (splitR false)
  | [] => rfl
  | r :: rs => by
    rw [List.reverse_cons, List.flatMap_append, List.reverse_append, flat_rev rs]
    rfl
theorem stepI_expand {rs : List Run} (l : Bool) (h : ∀ r ∈ rs, 1 ≤ r.2) (hd : Dif rs) : stepI l (expand rs) = expand (rs.flatMap (splitR l)) := by
  unfold stepI
  cases l
  · rw [if_neg Bool.false_ne_true, ← expand_rev, mrgI_expand (fun r hr => h r (List.mem_reverse.mp hr)) (dif_rev hd), ← expand_rev, flat_rev]
  · rw [if_pos rfl]
    exact mrgI_expand h hd
theorem split_nn {l : Bool} {rs : List Run} (h : ∀ r ∈ rs, 0 ≤ r.2) : ∀ p ∈ rs.flatMap (splitR l), 0 ≤ p.2 := fun p hp => by
  obtain ⟨r, hr, hp⟩ := List.mem_flatMap.mp hp
  have := h r hr
  have h1 : 0 ≤ r.2 / 2 := by omega
  have h2 : 0 ≤ r.2 % 2 := by omega
  unfold splitR at hp
  cases l <;> (simp at hp; rcases hp with rfl | rfl <;> assumption)
theorem split_lv {l : Bool} {rs : List Run} {B : Int} (h : ∀ r ∈ rs, 0 ≤ r.1 ∧ r.1 ≤ B) : ∀ p ∈ rs.flatMap (splitR l), 0 ≤ p.1 ∧ p.1 ≤ B + 1 := fun p hp => by
  obtain ⟨r, hr, hp⟩ := List.mem_flatMap.mp hp
  have := h r hr
  unfold splitR at hp
  cases l <;> (simp at hp; rcases hp with rfl | rfl <;> (dsimp only; omega))
theorem split_len (l : Bool) (rs : List Run) : (rs.flatMap (splitR l)).length = 2 * rs.length := by
  induction rs with
  | nil => rfl
  | cons r rs ih =>
    rw [List.flatMap_cons, List.length_append, ih]
    cases l <;> simp [splitR] <;> omega
theorem expand_after {rs : List Run} (l : Bool) (h : ∀ r ∈ rs, 1 ≤ r.2) (hd : Dif rs) : expand (afterR l rs) = stepI l (expand rs) := by
  unfold afterR
  rw [expand_join (split_nn fun r hr => by have := h r hr; omega), stepI_expand l h hd]
theorem runsOf_ok {P : Int → Prop} {ns : List Int} (h : ∀ i ∈ ns, P i) : JOk P (runsOf ns) := join_ok fun p hp => by
  obtain ⟨v, hv, rfl⟩ := List.mem_map.mp hp
  exact h v hv
theorem runsOf_len (ns : List Int) : (runsOf ns).length ≤ ns.length := by
  have := join_len (ns.map fun v => (v, (1 : Int)))
  simpa [runsOf] using this
theorem expand_after_runsOf (l : Bool) (ns : List Int) : expand (afterR l (runsOf ns)) = stepI l ns := by
  have h := runsOf_ok (P := fun _ => True) (ns := ns) fun _ _ => trivial
  rw [expand_after l h.ct h.dif, expand_runsOf]
theorem cnt_expand {rs : List Run} (h : ∀ r ∈ rs, 0 ≤ r.2) : cnt rs = (expand rs).length := by
  induction rs with
  | nil => rfl
  | cons r rs ih =>
    have h1 := h r List.mem_cons_self
    have ih := ih fun x hx => h x (List.mem_cons_of_mem _ hx)
    unfold cnt at ih ⊢
    rw [List.map_cons, List.sum_cons, ih, expand_cons, List.length_append, List.length_replicate]
    omega
theorem mrgI_len : ∀ l : List Int, (mrgI l).length ≤ l.length
  | [] => Nat.le_refl _
  | [_] => Nat.le_refl _
  | x :: y :: r => by
    have h1 := mrgI_len r
    have h2 := mrgI_len (y :: r)
    rw [mrgI_cc]
    simp only [List.length_cons] at h2 ⊢
    split
    · simp only [List.length_cons]; omega
    · simp only [List.length_cons]; omega
theorem stepI_len (l : Bool) (ns : List Int) : (stepI l ns).length ≤ ns.length := by
  unfold stepI
  cases l
  · rw [if_neg Bool.false_ne_true, List.length_reverse]
    have := mrgI_len ns.reverse
    rwa [List.length_reverse] at this
  · rw [if_pos rfl]
    exact mrgI_len _
theorem mrgI_lv {B : Int} : ∀ l : List Int, (∀ x ∈ l, 0 ≤ x ∧ x ≤ B) → ∀ x ∈ mrgI l, 0 ≤ x ∧ x ≤ B + 1
  | [], _, _, h => by cases h
  | [y], h, x, hx => by
    have := h x hx
    omega
  | x :: y :: r, h, z, hz => by
    have hx := h x List.mem_cons_self
    have hr : ∀ z ∈ r, 0 ≤ z ∧ z ≤ B := fun z hz => h z (List.mem_cons_of_mem _ (List.mem_cons_of_mem _ hz))
    rw [mrgI_cc] at hz
    split at hz
    · rcases List.mem_cons.mp hz with rfl | hz
      · omega
      · exact mrgI_lv r hr z hz
    · rcases List.mem_cons.mp hz with rfl | hz
      · omega
      · exact mrgI_lv (y :: r) (fun w hw => h w (List.mem_cons_of_mem _ hw)) z hz
theorem stepI_lv {B : Int} (l : Bool) (ns : List Int) (h : ∀ x ∈ ns, 0 ≤ x ∧ x ≤ B) : ∀ x ∈ stepI l ns, 0 ≤ x ∧ x ≤ B + 1 := by
  unfold stepI
  cases l
  · rw [if_neg Bool.false_ne_true]
    intro x hx
    exact mrgI_lv _ (fun y hy => h y (List.mem_reverse.mp hy)) x (List.mem_reverse.mp hx)
  · rw [if_pos rfl]
    exact mrgI_lv _ h

theorem getLast_some {α : Type} {xs : List α} (h : xs ≠ []) : ∃ init q, xs = init ++ [q] ∧ xs.getLast? = some q :=
  ⟨xs.dropLast, xs.getLast h, (List.dropLast_concat_getLast h).symm, List.getLast?_eq_getLast h⟩
theorem ixN_last (n : Nat) : L2.ixN (n + 1) (-1) = some n := by
  unfold L2.ixN
  rw [if_neg (by decide)]
  simp
  omega
theorem shp_encRs (rs : List Run) : SeqAt.shaped (.list (rs.map encR)) = true := shaped_list fun d hd => by
  obtain ⟨r, _, rfl⟩ := List.mem_map.mp hd
  refine ⟨rfl, ?_⟩
  show max 0 (max 0 0) + 1 ≤ 20
  decide
theorem eqv_nil (rs : List Run) : PyData.eqv (.list (rs.map encR)) (.list []) = rs.isEmpty := by
  cases rs <;> rfl
theorem isL_eqv (c : Nat) : PyData.eqv (.str ⟨#[c]⟩) (.str (Str.ofString "L")) = isL c := by
  have e : Str.ofString "L" = ⟨#[76]⟩ := by decide +kernel
  rw [e]
  show ((⟨#[c]⟩ : Str) == ⟨#[76]⟩) = (c == 76)
  by_cases h : c = 76
  · subst h
    rfl
  · have h1 : (c == 76) = false := by simpa using h
    have h2 : ¬ ((⟨#[c]⟩ : Str) = ⟨#[76]⟩) := fun q => h (by simpa using congrArg (fun s : Str => s.cps) q)
    rw [h1]
    simpa using h2

/-! ### the worth -/
def worth (rs : List Run) : Int := (rs.map fun r => r.2 * 2 ^ r.1.toNat).sum
theorem worth_nil : worth [] = 0 := rfl
theorem worth_cons (r : Run) (rs : List Run) : worth (r :: rs) = r.2 * 2 ^ r.1.toNat + worth rs := by unfold worth; rw [List.map_cons, List.sum_cons]
theorem worth_app (a b : List Run) : worth (a ++ b) = worth a + worth b := by
  induction a with
  | nil => rw [List.nil_append, worth_nil]; omega
  | cons x a ih => rw [List.cons_append, worth_cons, worth_cons, ih]; omega
theorem two_pos (n : Nat) : (0 : Int) < 2 ^ n := Int.pow_pos (by decide)
theorem two_mono {m n : Nat} (h : m ≤ n) : (2 : Int) ^ m ≤ 2 ^ n := by
  obtain ⟨k, rfl⟩ := Nat.exists_eq_add_of_le h
  rw [Int.pow_add]
  have h1 := two_pos m
  have h2 := two_pos k
  have : (2 : Int) ^ m * 1 ≤ 2 ^ m * 2 ^ k := Int.mul_le_mul_of_nonneg_left (by omega) (by omega)
  omega
theorem worth_le {C : Int} {M : Nat} : ∀ {rs : List Run}, (∀ r ∈ rs, 0 ≤ r.2 ∧ r.2 ≤ C ∧ r.1.toNat ≤ M) → 0 ≤ worth rs ∧ worth rs ≤ rs.length * (C * 2 ^ M)
  | [], _ => by rw [worth_nil]; exact ⟨by decide, by simp⟩
  | r :: rs, h => by
    obtain ⟨i1, i2⟩ := worth_le fun x hx => h x (List.mem_cons_of_mem _ hx)
    obtain ⟨h1, h2, h3⟩ := h r List.mem_cons_self
    have p1 := two_pos r.1.toNat
    have p2 := two_mono h3
    have q1 : 0 ≤ r.2 * 2 ^ r.1.toNat := Int.mul_nonneg h1 (by omega)
    have q2 : r.2 * 2 ^ r.1.toNat ≤ C * 2 ^ M := Int.mul_le_mul h2 p2 (by omega) (by omega)
    rw [worth_cons, List.length_cons, Int.natCast_add, Int.add_mul]
    omega
theorem worth_jn {found : List Run} {p : Run} (hp : 0 ≤ p.2) : worth (jnR found p) = worth found + p.2 * 2 ^ p.1.toNat := by
  unfold jnR
  by_cases hc : 0 < p.2
  · rw [if_pos hc]
    cases e : found.getLast? with
    | none =>
      show worth (found ++ [p]) = _
      rw [worth_app, worth_cons, worth_nil]; omega
    | some q =>
      have hne : found ≠ [] := fun h => by rw [h] at e; cases e
      obtain ⟨init, q', hi, hq'⟩ := getLast_some hne
      rw [hq'] at e
      cases e
      dsimp only
      by_cases hq : q.1 = p.1
      · rw [if_pos hq, hi, List.dropLast_concat, worth_app, worth_app, worth_cons, worth_nil, worth_cons, worth_nil, hq]
        dsimp only
        rw [Int.add_mul]
        omega
      · rw [if_neg hq, worth_app, worth_cons, worth_nil]; omega
  · rw [if_neg hc]
    have : p.2 = 0 := by omega
    rw [this]
    omega
theorem worth_fold : ∀ (ps found : List Run), (∀ p ∈ ps, 0 ≤ p.2) → worth (ps.foldl jnR found) = worth found + worth ps
  | [], found, _ => by rw [worth_nil, List.foldl_nil]; omega
  | p :: ps, found, h => by
    rw [List.foldl_cons, worth_fold ps _ fun q hq => h q (List.mem_cons_of_mem _ hq), worth_jn (h p List.mem_cons_self), worth_cons]
    omega
theorem worth_join {ps : List Run} (h : ∀ p ∈ ps, 0 ≤ p.2) : worth (joinR ps) = worth ps := by
  have := worth_fold ps [] h
  rw [worth_nil] at this
  unfold joinR
  omega
theorem worth_split (l : Bool) {r : Run} (h : 0 ≤ r.1) : worth (splitR l r) = r.2 * 2 ^ r.1.toNat := by
  have e : r.2 / 2 * 2 ^ (r.1 + 1).toNat + r.2 % 2 * 2 ^ r.1.toNat = r.2 * 2 ^ r.1.toNat := by
    have e1 : (r.1 + 1).toNat = r.1.toNat + 1 := by omega
    have e2 : r.2 = 2 * (r.2 / 2) + r.2 % 2 := by omega
    have e3 : r.2 * 2 ^ r.1.toNat = (2 * (r.2 / 2) + r.2 % 2) * 2 ^ r.1.toNat := congrArg (· * _) e2
    rw [e1, Int.pow_succ, e3, Int.add_mul, ← Int.mul_assoc, Int.mul_comm (2 : Int) (r.2 / 2), Int.mul_right_comm]
  unfold splitR
  cases l
  · rw [if_neg Bool.false_ne_true, worth_cons, worth_cons, worth_nil]; dsimp only; omega
  · rw [if_pos rfl, worth_cons, worth_cons, worth_nil]; dsimp only; omega
theorem worth_flat (l : Bool) : ∀ {rs : List Run}, (∀ r ∈ rs, 0 ≤ r.1) → worth (rs.flatMap (splitR l)) = worth rs
  | [], _ => rfl
  | r :: rs, h => by rw [List.flatMap_cons, worth_app, worth_split l (h r List.mem_cons_self), worth_flat l fun x hx => h x (List.mem_cons_of_mem _ hx), worth_cons]
theorem worth_after (l : Bool) {rs : List Run} (h : ∀ r ∈ rs, 0 ≤ r.1 ∧ 0 ≤ r.2) : worth (afterR l rs) = worth rs := by
  unfold afterR
  rw [worth_join (split_nn fun r hr => (h r hr).2), worth_flat l fun r hr => (h r hr).1]
/-! the counts -/
theorem cnt_nil : cnt [] = 0 := rfl
theorem cnt_cons (r : Run) (rs : List Run) : cnt (r :: rs) = r.2 + cnt rs := by unfold cnt; rw [List.map_cons, List.sum_cons]
theorem cnt_app (a b : List Run) : cnt (a ++ b) = cnt a + cnt b := by
  induction a with
  | nil => rw [List.nil_append, cnt_nil]; omega
  | cons x a ih => rw [List.cons_append, cnt_cons, cnt_cons, ih]; omega
theorem cnt_jn {found : List Run} {p : Run} (hp : 0 ≤ p.2) : cnt (jnR found p) = cnt found + p.2 := by
  unfold jnR
  by_cases hc : 0 < p.2
  · rw [if_pos hc]
    cases e : found.getLast? with
    | none =>
      show cnt (found ++ [p]) = _
      rw [cnt_app, cnt_cons, cnt_nil]; omega
    | some q =>
      have hne : found ≠ [] := fun h => by rw [h] at e; cases e
      obtain ⟨init, q', hi, hq'⟩ := getLast_some hne
      rw [hq'] at e
      cases e
      dsimp only
      by_cases hq : q.1 = p.1
      · rw [if_pos hq, hi, List.dropLast_concat, cnt_app, cnt_app, cnt_cons, cnt_nil, cnt_cons, cnt_nil]
        dsimp only
        omega
      · rw [if_neg hq, cnt_app, cnt_cons, cnt_nil]; omega
  · rw [if_neg hc]
    omega
theorem cnt_fold : ∀ (ps found : List Run), (∀ p ∈ ps, 0 ≤ p.2) → cnt (ps.foldl jnR found) = cnt found + cnt ps
  | [], found, _ => by rw [cnt_nil, List.foldl_nil]; omega
  | p :: ps, found, h => by
    rw [List.foldl_cons, cnt_fold ps _ fun q hq => h q (List.mem_cons_of_mem _ hq), cnt_jn (h p List.mem_cons_self), cnt_cons]
    omega
theorem cnt_flat (l : Bool) : ∀ {rs : List Run}, (∀ r ∈ rs, 0 ≤ r.2) → cnt (rs.flatMap (splitR l)) ≤ cnt rs
  | [], _ => Int.le_refl _
  | r :: rs, h => by
    have := cnt_flat l fun x hx => h x (List.mem_cons_of_mem r hx)
    have h1 := h r List.mem_cons_self
    have h2 : cnt (splitR l r) ≤ r.2 := by
      unfold splitR
      cases l
      · rw [if_neg Bool.false_ne_true, cnt_cons, cnt_cons, cnt_nil]; dsimp only; omega
      · rw [if_pos rfl, cnt_cons, cnt_cons, cnt_nil]; dsimp only; omega
    rw [List.flatMap_cons, cnt_app, cnt_cons]
    omega
theorem cnt_after (l : Bool) {rs : List Run} (h : ∀ r ∈ rs, 0 ≤ r.2) : cnt (afterR l rs) ≤ cnt rs := by
  have := cnt_fold (rs.flatMap (splitR l)) [] (split_nn h)
  rw [cnt_nil] at this
  have h2 := cnt_flat l h
  unfold afterR joinR
  omega
theorem cnt_le {C : Int} : ∀ {rs : List Run}, (∀ r ∈ rs, r.2 ≤ C) → cnt rs ≤ rs.length * C
  | [], _ => by rw [cnt_nil]; simp
  | r :: rs, h => by
    have := cnt_le fun x hx => h x (List.mem_cons_of_mem r hx)
    have h1 := h r List.mem_cons_self
    rw [cnt_cons, List.length_cons, Int.natCast_add, Int.add_mul]
    omega
theorem cnt_nn : ∀ {rs : List Run}, (∀ r ∈ rs, 0 ≤ r.2) → 0 ≤ cnt rs
  | [], _ => Int.le_refl _
  | r :: rs, h => by
    have := cnt_nn fun x hx => h x (List.mem_cons_of_mem r hx)
    have h1 := h r List.mem_cons_self
    rw [cnt_cons]
    omega
theorem ct_le' {rs : List Run} (h : ∀ r ∈ rs, 0 ≤ r.2) : ∀ r ∈ rs, r.2 ≤ cnt rs := by
  induction rs with
  | nil => intro r hr; cases hr
  | cons x xs ih =>
    intro r hr
    have h1 := cnt_nn fun r hr => h r (List.mem_cons_of_mem x hr)
    have h2 := h x List.mem_cons_self
    rw [cnt_cons]
    rcases List.mem_cons.mp hr with rfl | hr
    · omega
    · have := ih (fun r hr => h r (List.mem_cons_of_mem _ hr)) r hr
      omega

/-! ### runs are one writing of a row -/
theorem last_snoc {α : Type} (xs : List α) (x : α) : (xs ++ [x]).getLast? = some x := by simp
theorem fold_more (v : Int) : ∀ (m : Nat) (found : List Run) (k : Int), 0 ≤ k → ((List.replicate m v).map fun x => (x, (1 : Int))).foldl jnR (found ++ [(v, k)]) = found ++ [(v, k + m)]
  | 0, found, k, _ => by simp
  | m + 1, found, k, hk => by
    rw [List.replicate_succ, List.map_cons, List.foldl_cons]
    have e : jnR (found ++ [(v, k)]) (v, 1) = found ++ [(v, k + 1)] := by
      unfold jnR
      rw [if_pos (show (0 : Int) < 1 by decide), last_snoc]
      dsimp only
      rw [if_pos rfl, List.dropLast_concat]
    rw [e, fold_more v m found (k + 1) (by omega)]
    congr 3
    omega
theorem fold_rep (v : Int) {n : Nat} (hn : 1 ≤ n) {found : List Run} (hl : ∀ q, found.getLast? = some q → q.1 ≠ v) : ((List.replicate n v).map fun x => (x, (1 : Int))).foldl jnR found = found ++ [(v, (n : Int))] := by
  obtain ⟨m, rfl⟩ : ∃ m, n = m + 1 := ⟨n - 1, by omega⟩
  rw [List.replicate_succ, List.map_cons, List.foldl_cons]
  have e : jnR found (v, 1) = found ++ [(v, 1)] := by
    unfold jnR
    rw [if_pos (show (0 : Int) < 1 by decide)]
    cases h : found.getLast? with
    | none => rfl
    | some q =>
      dsimp only
      rw [if_neg (hl q h)]
  rw [e, fold_more v m found 1 (by decide)]
  congr 3
  omega
theorem canon_gen : ∀ (rs found : List Run), (∀ r ∈ rs, 1 ≤ r.2) → Dif rs → (∀ q r, found.getLast? = some q → rs.head? = some r → q.1 ≠ r.1) → ((expand rs).map fun x => (x, (1 : Int))).foldl jnR found = found ++ rs
  | [], found, _, _, _ => by simp [expand]
  | r :: rs, found, h, hd, hl => by
    have h1 := h r List.mem_cons_self
    rw [expand_cons, List.map_append, List.foldl_append, fold_rep r.1 (by omega) fun q hq => hl q r hq rfl]
    have e : ((r.1, ((r.2.toNat : Nat) : Int)) : Run) = r := by
      rw [Int.toNat_of_nonneg (by omega)]
    rw [e, canon_gen rs _ (fun x hx => h x (List.mem_cons_of_mem _ hx)) ?_ ?_, List.append_assoc]
    · rfl
    · cases rs with
      | nil => trivial
      | cons y rs => exact hd.2
    · intro q y hq hy
      rw [last_snoc] at hq
      cases hq
      cases rs with
      | nil => cases hy
      | cons z rs =>
        cases hy
        exact hd.1
theorem canon {rs : List Run} (h : ∀ r ∈ rs, 1 ≤ r.2) (hd : Dif rs) : runsOf (expand rs) = rs := canon_gen rs [] h hd fun q r hq => by cases hq
theorem expand_inj {a b : List Run} (ha : ∀ r ∈ a, 1 ≤ r.2) (da : Dif a) (hb : ∀ r ∈ b, 1 ≤ r.2) (db : Dif b) (h : expand a = expand b) : a = b := by
  rw [← canon ha da, ← canon hb db, h]
theorem after_jok (l : Bool) (rs : List Run) : JOk (fun _ => True) (afterR l rs) := join_ok fun _ _ => trivial
theorem runsOf_step (l : Bool) (ns : List Int) : runsOf (stepI l ns) = afterR l (runsOf ns) := by
  have h := after_jok l (runsOf ns)
  rw [← expand_after_runsOf, canon h.ct h.dif]
theorem expand_flat_one (l : Bool) : ∀ {rs : List Run}, (∀ r ∈ rs, r.2 = 1) → expand (rs.flatMap (splitR l)) = expand rs
  | [], _ => rfl
  | r :: rs, h => by
    have h1 := h r List.mem_cons_self
    rw [List.flatMap_cons, expand_app, expand_flat_one l fun x hx => h x (List.mem_cons_of_mem _ hx), expand_cons, expand_split l r (by omega), h1]
    cases l <;> rfl
theorem after_one (l : Bool) {rs : List Run} (h : ∀ r ∈ rs, r.2 = 1) (hd : Dif rs) : afterR l rs = rs := by
  have hj := after_jok l rs
  refine expand_inj hj.ct hj.dif (fun r hr => by have := h r hr; omega) hd ?_
  unfold afterR
  rw [expand_join (split_nn fun r hr => by have := h r hr; omega), expand_flat_one l h]
theorem cnt_flat_lt (l : Bool) : ∀ {rs : List Run}, (∀ r ∈ rs, 0 ≤ r.2) → ∀ r ∈ rs, 2 ≤ r.2 → cnt (rs.flatMap (splitR l)) < cnt rs
  | x :: rs, h, r, hr, h2 => by
    have hx := h x List.mem_cons_self
    have hrs := cnt_flat l fun y hy => h y (List.mem_cons_of_mem x hy)
    have e : cnt (splitR l x) = x.2 / 2 + x.2 % 2 := by
      unfold splitR
      cases l
      · rw [if_neg Bool.false_ne_true, cnt_cons, cnt_cons, cnt_nil]; dsimp only; omega
      · rw [if_pos rfl, cnt_cons, cnt_cons, cnt_nil]; dsimp only; omega
    rw [List.flatMap_cons, cnt_app, cnt_cons, e]
    rcases List.mem_cons.mp hr with rfl | hr
    · omega
    · have := cnt_flat_lt l (fun y hy => h y (List.mem_cons_of_mem x hy)) r hr h2
      omega
theorem after_eq_iff (l : Bool) {rs : List Run} (h : ∀ r ∈ rs, 1 ≤ r.2) (hd : Dif rs) : afterR l rs = rs ↔ ∀ r ∈ rs, r.2 = 1 := by
  refine ⟨fun e r hr => ?_, fun h1 => after_one l h1 hd⟩
  have h1 := h r hr
  by_cases h2 : 2 ≤ r.2
  · have hnn : ∀ r ∈ rs, 0 ≤ r.2 := fun r hr => by have := h r hr; omega
    have hlt := cnt_flat_lt l hnn r hr h2
    have hf := cnt_fold (rs.flatMap (splitR l)) [] (split_nn hnn)
    rw [cnt_nil] at hf
    have e2 : cnt (afterR l rs) = cnt rs := by rw [e]
    unfold afterR joinR at e2
    omega
  · omega
theorem expand_side : ∀ {rs : List Run}, (∀ r ∈ rs, 1 ≤ r.2) → (expand (rs.flatMap (splitR true)) = expand (rs.flatMap (splitR false)) ↔ ∀ r ∈ rs, ¬ (r.2 % 2 = 1 ∧ 1 < r.2))
  | [], _ => ⟨fun _ r hr => (by cases hr), fun _ => rfl⟩
  | x :: rs, h => by
    have hx := h x List.mem_cons_self
    have ih := expand_side fun y hy => h y (List.mem_cons_of_mem x hy)
    rw [List.flatMap_cons, List.flatMap_cons, expand_app, expand_app, expand_split true x (by omega), expand_split false x (by omega), if_pos rfl, if_neg Bool.false_ne_true]
    by_cases hb : x.2 % 2 = 1 ∧ 1 < x.2
    · refine ⟨fun e => ?_, fun e => absurd hb (e x List.mem_cons_self)⟩
      exfalso
      have e1 : x.2.toNat % 2 = 1 := by omega
      obtain ⟨m, hm⟩ : ∃ m, x.2.toNat / 2 = m + 1 := ⟨x.2.toNat / 2 - 1, by omega⟩
      rw [e1, hm, List.replicate_succ, List.replicate_one] at e
      simp only [List.cons_append, List.cons.injEq, List.nil_append, List.append_assoc] at e
      omega
    · have e1 : List.replicate (x.2.toNat / 2) (x.1 + 1) ++ List.replicate (x.2.toNat % 2) x.1 = List.replicate (x.2.toNat % 2) x.1 ++ List.replicate (x.2.toNat / 2) (x.1 + 1) := by
        have : x.2.toNat % 2 = 0 ∨ x.2.toNat / 2 = 0 := by omega
        rcases this with h0 | h0 <;> rw [h0] <;> simp
      rw [e1, List.append_cancel_left_eq, ih]
      refine ⟨fun hr r hm => ?_, fun hr r hm => hr r (List.mem_cons_of_mem _ hm)⟩
      rcases List.mem_cons.mp hm with rfl | hm
      · exact hb
      · exact hr r hm
theorem side_iff {rs : List Run} (h : ∀ r ∈ rs, 1 ≤ r.2) : afterR true rs = afterR false rs ↔ ∀ r ∈ rs, ¬ (r.2 % 2 = 1 ∧ 1 < r.2) := by
  have hnn : ∀ r ∈ rs, 0 ≤ r.2 := fun r hr => by have := h r hr; omega
  have ht := after_jok true rs
  have hf := after_jok false rs
  rw [← expand_side h]
  refine ⟨fun e => ?_, fun e => expand_inj ht.ct ht.dif hf.ct hf.dif ?_⟩
  · have := congrArg expand e
    unfold afterR at this
    rwa [expand_join (split_nn hnn), expand_join (split_nn hnn)] at this
  · unfold afterR
    rw [expand_join (split_nn hnn), expand_join (split_nn hnn), e]
theorem still_dec {rs : List Run} (l : Bool) (h : ∀ r ∈ rs, 1 ≤ r.2) (hd : Dif rs) : stillR rs = decide (afterR l rs = rs) := by
  have := after_eq_iff l h hd
  unfold stillR
  rw [Bool.eq_iff_iff, List.all_eq_true, decide_eq_true_iff, this]
  simp
theorem side_dec {rs : List Run} (h : ∀ r ∈ rs, 1 ≤ r.2) : sideR rs = !decide (afterR true rs = afterR false rs) := by
  have := side_iff h
  by_cases e : afterR true rs = afterR false rs
  · rw [decide_eq_true e]
    have h2 := this.mp e
    show sideR rs = false
    unfold sideR
    rw [List.any_eq_false]
    intro r hr
    have := h2 r hr
    simp
    omega
  · rw [decide_eq_false e]
    show sideR rs = true
    unfold sideR
    rw [List.any_eq_true]
    have h2 := fun hh => e (this.mpr hh)
    by_cases h3 : ∃ r, r ∈ rs ∧ (r.2 % 2 = 1 ∧ 1 < r.2)
    · obtain ⟨r, h4, h5⟩ := h3
      exact ⟨r, h4, by simp [h5]⟩
    · exact absurd (fun r hr hh => h3 ⟨r, hr, hh⟩) h2

theorem log_ok2 {m : Int} (h0 : 0 < m) (h : m < 2 ^ 210) : m.natAbs.log2 < 9000 := by
  have h1 : m.natAbs < 2 ^ 210 := by omega
  have : m.natAbs.log2 < 210 := (Nat.log2_lt (by omega)).mpr h1
  omega
theorem p_scoop : ∀ args Q E, s_scoop args Q E → runB G i_scoop 4 [true, true] args Q E := by
  rintro args Q E ⟨t, xs, m, rfl, ⟨a, b, c, rfl, hb0, hb, hc0, hc⟩, ht, hm0, hm, hq⟩
  unfold runB i_scoop
  walk_at "v"
  have hl := log_ok2 hm0 hm
  by_cases ha : 0 < a
  · rw [if_pos ha]
    exact ⟨hm0, hm0, hl, hq _ _ (Int.emod_nonneg _ (by omega)) (Int.emod_lt_of_pos _ hm0) ⟨_, _, _, rfl, hb0, hb, hc0, by omega⟩⟩
  · rw [if_neg ha]
    have hx0 : 0 ≤ b + 49979687 * (c + 1) := by omega
    have hx : b + 49979687 * (c + 1) < 2 ^ 161 := by omega
    have g0 : 0 ≤ (b + 49979687 * (c + 1)) ^ Int.toNat 3 % (10 ^ Int.toNat 41 + 109) := Int.emod_nonneg _ (by decide)
    have g1 : (b + 49979687 * (c + 1)) ^ Int.toNat 3 % (10 ^ Int.toNat 41 + 109) < 2 ^ 140 := Int.lt_trans (Int.emod_lt_of_pos _ (by decide)) (by decide)
    generalize he : (b + 49979687 * (c + 1)) ^ Int.toNat 3 % (10 ^ Int.toNat 41 + 109) = e at g0 g1
    have hy0 : 0 ≤ e + 86028121 * (c + 1) := by omega
    have hy : e + 86028121 * (c + 1) < 2 ^ 161 := by omega
    refine ⟨mul_ok 40 62 (by decide) (by decide) (by omega) (by omega) (by decide), by decide, pow_ok 161 hx0 hx (by decide) (by decide), by decide, by decide, by decide, ?_⟩
    first
      | rw [he]
      | skip
    refine ⟨mul_ok 40 62 (by decide) (by decide) (by omega) (by omega) (by decide), by decide, pow_ok 161 hy0 hy (by decide) (by decide), by decide, by decide, by decide, by decide, by decide, hm0, hq _ _ (Int.emod_nonneg _ (by omega)) (Int.emod_lt_of_pos _ hm0) ⟨_, _, _, rfl, hb0, hb, by omega, by omega⟩⟩
theorem p_jar : ∀ args Q E, s_jar args Q E → runB G i_jar 3 [true, true] args Q E := by
  rintro args Q E ⟨ns, i, ha, hi0, hi, hq⟩
  obtain ⟨r0, r1, rfl, h0, h1⟩ := args2 ha
  obtain rfl := rs_d h1 (by simp [tyOf])
  have fin : ∀ x : Int, (0 < (10 : Int) ^ Int.toNat 37 + 43 ∧ IntMulOk 700001 i ∧
      Barrel 0 [.int (if x - 10 ^ Int.toNat 18 > 0 then x - 10 ^ Int.toNat 18 else 0), .int (x % (10 ^ Int.toNat 37 + 43) + 700001 * i + 9), .int 0]) := fun x => by
    have g0 : 0 ≤ x % (10 ^ Int.toNat 37 + 43) := Int.emod_nonneg _ (by decide)
    have g1 : x % (10 ^ Int.toNat 37 + 43) < 10 ^ Int.toNat 37 + 43 := Int.emod_lt_of_pos _ (by decide)
    have g2 : (10 : Int) ^ Int.toNat 37 + 43 < 2 ^ 140 := by decide
    generalize x % (10 ^ Int.toNat 37 + 43) = e at g0 g1
    exact ⟨by decide, mul_ok 20 10 (by decide) (by decide) hi0 (by omega) (by decide), _, _, _, rfl, by omega, by omega, by omega, by omega⟩
  rcases rs_k h0 with rfl | rfl
  all_goals
    unfold runB i_jar i_jar_r1
    walk_at "v"
    by_cases hlt : i < (ns.length : Int)
    · rw [if_pos hlt]
      have hx := atI_nn (xs := ns.map PyData.int) hi0 (by simpa using hlt)
      rw [List.getElem_map] at hx
      refine ⟨_, hx, by decide, by decide, ?_⟩
      walk_at "v"
      obtain ⟨f1, f2, f3⟩ := fin (ns[i.toNat]'(by omega))
      exact ⟨by decide, by decide, f1, f2, by decide, hq _ f3⟩
    · rw [if_neg hlt]
      obtain ⟨f1, f2, f3⟩ := fin 0
      exact ⟨by decide, by decide, by decide, by decide, f1, f2, by decide, hq _ f3⟩
theorem scoop_v {ρ : FE} {i : Nat} {xs : List PyData} {t m : Int} {Q : KQ} {E : KX} (h : at_ ρ i = .o xs) (hb : Barrel t xs) (ht : t < 2 ^ 60) (hm0 : 0 < m) (hm : m < 2 ^ 210) (hq : ∀ x xs', 0 ≤ x → x < m → Barrel (t + 1) xs' → Q (.d (.int x)) (ρ.set i (.o xs'))) :
    callK [true, true] s_scoop [.s i, .v (.d (.int m))] ρ Q E := by
  have e : passArgs [true, true] [.s i, .v (.d (.int m))] ρ = some ([(.o xs, some i), (.d (.int m), none)], ρ.set i .no) := by
    rw [pa_st, h]
    rfl
  unfold callK
  rw [e]
  refine ⟨t, xs, m, rfl, hb, ht, hm0, hm, fun x xs' h0 h1 hb' => ?_⟩
  show Q _ (backIo _ [_, _] _)
  rw [bi_s, bi_n, bi_nil, List.set_set]
  exact hq x xs' h0 h1 hb'
theorem scoop_s {ρ : FE} {i j : Nat} {xs : List PyData} {t m : Int} {Q : KQ} {E : KX} (h : at_ ρ i = .o xs) (hj : at_ ρ j = .d (.int m)) (hb : Barrel t xs) (ht : t < 2 ^ 60) (hm0 : 0 < m) (hm : m < 2 ^ 210) (hq : ∀ x xs', 0 ≤ x → x < m → Barrel (t + 1) xs' → Q (.d (.int x)) (ρ.set i (.o xs'))) :
    callK [true, true] s_scoop [.s i, .s j] ρ Q E := by
  have hij : i ≠ j := fun e => by subst e; rw [h] at hj; cases hj
  have e : passArgs [true, true] [.s i, .s j] ρ = some ([(.o xs, some i), (.d (.int m), none)], ρ.set i .no) := by
    rw [pa_st, h]
    show (passArgs [true] [.s j] (ρ.set i .no)).map _ = _
    rw [pa_st, at_set_ne hij, hj]
    rfl
  unfold callK
  rw [e]
  refine ⟨t, xs, m, rfl, hb, ht, hm0, hm, fun x xs' h0 h1 hb' => ?_⟩
  show Q _ (backIo _ [_, _] _)
  rw [bi_s, bi_n, bi_nil, List.set_set]
  exact hq x xs' h0 h1 hb'

theorem jn_len {found : List Run} {p : Run} : (jnR found p).length ≤ found.length + 1 := by
  unfold jnR
  split
  · cases h : found.getLast? with
    | none => simp
    | some q =>
      dsimp only
      split
      · rw [List.length_append, List.length_dropLast]; simp
      · simp
  · omega
theorem fold_jn_len : ∀ (ps found : List Run), (ps.foldl jnR found).length ≤ found.length + ps.length
  | [], found => by simp
  | p :: ps, found => by
    have := fold_jn_len ps (jnR found p)
    have h := jn_len (found := found) (p := p)
    rw [List.foldl_cons, List.length_cons]
    omega

theorem isR_eqv {c : Nat} (h : isS c) : PyData.eqv (.str ⟨#[c]⟩) (.str (Str.ofString "R")) = !isL c := by
  rcases h with rfl | rfl <;> decide +kernel
theorem shp_intsP (ns : List Int) : SeqAt.shaped (.list (ns.map .int)) = true := shaped_list fun d hd => by
  obtain ⟨i, _, rfl⟩ := List.mem_map.mp hd
  exact ⟨rfl, Nat.zero_le _⟩
def PuI (s0 s1 : Sl) (L : List Int) (n : Nat) (ρ : FE) : Prop := ∃ (R F : List Int) (r2 : Rs), r2.data = .list (R.map .int) ∧ ρ = [s0, s1, r2.sl, .o (F.map .int)] ∧ n = R.length ∧ F ++ mrgI R = mrgI L ∧ F.length + R.length ≤ L.length
theorem pu_loop {s0 s1 : Sl} {r2 : Rs} {L : List Int} {D : FEnds} (hr : r2.data = .list (L.map .int)) (hL : L.length ≤ 5000) (hD : ∀ s2, D.nx [s0, s1, s2, .o ((mrgI L).map .int)]) :
    WS G (.whl (.prim .ne (.cons (.var 2) (.cons (.lst .nil) .nil))) i_pushed_b1) [s0, s1, r2.sl, .o []] D := by
  have e : sizeLine = 16777216 := rfl
  refine whl_inv (PuI s0 s1 L) L.length ⟨L, [], r2, hr, rfl, rfl, rfl, by simp⟩ ?_
  rintro n ρ ⟨R, F, r2, hr, rfl, rfl, hm, hl⟩
  walk_at "v"
  rw [hr]
  refine ⟨by decide, ?_⟩
  walk_at "v"
  refine ⟨shp_intsP R, ?_⟩
  cases R with
  | nil =>
    refine if_B rfl ?_
    have hm : F = mrgI L := by simpa [mrgI] using hm
    rw [hm]
    exact hD _
  | cons x R =>
    refine if_T rfl ?_
    unfold i_pushed_b1
    have tail : ∀ (R' : List Int) (p : Int), R'.length ≤ R.length → F ++ (p :: mrgI R') = mrgI L → F.length + 1 + R'.length ≤ L.length →
        ∃ m, m < (x :: R).length ∧ PuI s0 s1 L m [s0, s1, .o (R'.map .int), .o (F.map .int ++ [.int p])] := fun R' p h1 h2 h3 =>
      ⟨R'.length, by simp; omega, R', F ++ [p], .o (R'.map .int), rfl, by rw [List.map_append]; rfl, rfl, by rw [List.append_assoc]; exact h2, by simp; omega⟩
    have hF : (F.map PyData.int).length < sizeLine := by rw [List.length_map]; simp at hl; omega
    have hc1 : cutD (List.map PyData.int (x :: R)) (some 1) none = R.map .int := by
      have := cutD_drop (List.map PyData.int (x :: R)) 1
      rw [← List.map_drop] at this
      exact this
    have hc2 : cutD (List.map PyData.int (x :: R)) (some 2) none = (R.drop 1).map .int := by
      have := cutD_drop (List.map PyData.int (x :: R)) 2
      rw [← List.map_drop] at this
      exact this
    walk_at "v"
    rw [hr]
    walk_at "v"
    have hc1 : cutD (PyData.int x :: List.map PyData.int R) (some 1) none = R.map .int := hc1
    have hc2 : cutD (PyData.int x :: List.map PyData.int R) (some 2) none = (R.drop 1).map .int := hc2
    rw [hc1, hc2]
    have keep : F ++ (x :: mrgI R) = mrgI L → (List.map PyData.int F).length < sizeLine ∧ ∃ m, m < R.length + 1 ∧ PuI s0 s1 L m [s0, s1, .o (R.map .int), .o (F.map .int ++ [.int x])] := fun hk => ⟨hF, tail R x (Nat.le_refl _) hk (by simp at hl; omega)⟩
    cases R with
    | nil =>
      rw [if_neg (by decide)]
      exact keep hm
    | cons y R =>
      rw [if_pos (by rw [List.length_map, List.length_cons]; omega)]
      refine ⟨.int y, L2.atI_nat (j := 1) rfl, rfl, rfl, ?_⟩
      rw [mrgI_cc] at hm
      by_cases hxy : x = y
      · refine if_T (show PyData.eqv (.int x) (.int y) = true by rw [eqv_intD]; simpa using hxy) ?_
        rw [if_pos hxy.symm] at hm
        exact ⟨hF, tail R (x + 1) (by simp) hm (by simp at hl; omega)⟩
      · refine if_B (show PyData.eqv (.int x) (.int y) = false by rw [eqv_intD]; simpa using hxy) ?_
        rw [if_neg (fun h => hxy h.symm)] at hm
        exact keep hm
theorem p_pushed : ∀ args Q E, s_pushed args Q E → runB G i_pushed 4 [false, true] args Q E := by
  rintro args Q E ⟨ns, c, ha, hl, hc, hq⟩
  obtain ⟨r0, r1, rfl, h0, h1⟩ := args2 ha
  obtain rfl := rs_d h1 (by simp [tyOf])
  have e : sizeLine = 16777216 := rfl
  unfold runB i_pushed
  walk_at "v"
  have hp : ∀ (L : List Int) (D : FEnds) (r2 : Rs), r2.data = .list (L.map .int) → L.length ≤ 5000 → (∀ s2, D.nx [.d (.list (ns.map .int)), .d (.str ⟨#[c]⟩), s2, .o ((mrgI L).map .int)]) → WS G (.whl (.prim .ne (.cons (.var 2) (.cons (.lst .nil) .nil))) i_pushed_b1) [.d (.list (ns.map .int)), .d (.str ⟨#[c]⟩), r2.sl, .o []] D := fun L D r2 h1 h2 h3 => pu_loop h1 h2 h3
  cases r0 with
  | t xs => cases h0
  | d x =>
    obtain rfl : x = .list (ns.map .int) := h0
    walk_at "v"
    rw [isR_eqv hc]
    cases hL : isL c with
    | true =>
      rw [hL] at hq
      refine ⟨by decide, ?_⟩
      walk_at "v"
      refine ⟨.list (ns.map .int), L2.atI_nat (j := 0) rfl, ?_⟩
      refine ⟨by decide, ?_⟩
      refine hp ns _ (.d (.list (ns.map .int))) rfl hl fun s2 => ?_
      walk_at "v"
      rw [isR_eqv hc, hL]
      refine ⟨by decide, ?_⟩
      walk_at "v"
      refine ⟨_, L2.atI_nat (j := 0) rfl, ?_⟩
      skip
      exact hq
    | false =>
      rw [hL] at hq
      refine ⟨by decide, ?_⟩
      walk_at "v"
      refine ⟨.list (ns.reverse.map .int), by rw [List.map_reverse]; exact L2.atI_nat (j := 1) rfl, ?_⟩
      refine ⟨by decide, ?_⟩
      refine hp ns.reverse _ (.d (.list (ns.reverse.map .int))) rfl (by rw [List.length_reverse]; exact hl) fun s2 => ?_
      walk_at "v"
      rw [isR_eqv hc, hL]
      refine ⟨by decide, ?_⟩
      walk_at "v"
      refine ⟨_, L2.atI_nat (j := 1) rfl, ?_⟩
      rw [← List.map_reverse]
      exact hq
  | o xs =>
    obtain rfl : xs = ns.map .int := PyData.list.inj h0
    walk_at "v"
    rw [isR_eqv hc]
    cases hL : isL c with
    | true =>
      rw [hL] at hq
      refine ⟨by decide, ?_⟩
      walk_at "v"
      refine ⟨.list (ns.map .int), L2.atI_nat (j := 0) rfl, ?_⟩
      refine ⟨by decide, ?_⟩
      refine hp ns _ (.d (.list (ns.map .int))) rfl hl fun s2 => ?_
      walk_at "v"
      rw [isR_eqv hc, hL]
      refine ⟨by decide, ?_⟩
      walk_at "v"
      refine ⟨_, L2.atI_nat (j := 0) rfl, ?_⟩
      skip
      exact hq
    | false =>
      rw [hL] at hq
      refine ⟨by decide, ?_⟩
      walk_at "v"
      refine ⟨.list (ns.reverse.map .int), by rw [List.map_reverse]; exact L2.atI_nat (j := 1) rfl, ?_⟩
      refine ⟨by decide, ?_⟩
      refine hp ns.reverse _ (.d (.list (ns.reverse.map .int))) rfl (by rw [List.length_reverse]; exact hl) fun s2 => ?_
      walk_at "v"
      rw [isR_eqv hc, hL]
      refine ⟨by decide, ?_⟩
      walk_at "v"
      refine ⟨_, L2.atI_nat (j := 1) rfl, ?_⟩
      rw [← List.map_reverse]
      exact hq

def AiI (a b : Sl) (f0 ps : List Run) (s3 s4 s5 s6 : Sl) (rest : List PyData) (ρ : FE) : Prop := ∃ (done todo : List Run) (s7 s8 : Sl), done ++ todo = ps ∧ rest = todo.map encR ∧ ρ = [a, b, .o ((done.foldl jnR f0).map encR), s3, s4, s5, s6, s7, s8]
def AfI (r0 : Rs) (c : Nat) (rs : List Run) (rest : List PyData) (ρ : FE) : Prop := ∃ (done todo : List Run) (s3 s4 s5 s6 s7 s8 : Sl), done ++ todo = rs ∧ rest = todo.map encR ∧ ρ = [r0.sl, .d (.str ⟨#[c]⟩), .o ((afterR (isL c) done).map encR), s3, s4, s5, s6, s7, s8]
theorem jn_step {a b : Sl} {found : List Run} {s3 s4 s5 s6 : Sl} {p : Run} {K : FE → Prop} {bk : FE → Prop} {rt : KQ} {ex : KX} (hl : found.length ≤ 5000) (hpos : ∀ r ∈ found, 1 ≤ r.2) (hK : ∀ s8, K [a, b, .o ((jnR found p).map encR), s3, s4, s5, s6, .d (.int p.1), s8]) :
    WS G i_after_b1 [a, b, .o (found.map encR), s3, s4, s5, s6, .d (.int p.1), .d (.int p.2)] { nx := K, ct := K, bk := bk, rt := rt, ex := ex } := by
  have e : sizeLine = 16777216 := rfl
  have lt : ∀ xs : List Run, xs.length ≤ found.length → (xs.map encR).length < sizeLine := fun xs h => by rw [List.length_map]; omega
  have fin : ∀ (f' : List Run) (m' : Int), f'.length ≤ found.length → jnR found p = (if 0 < m' then f' ++ [(p.1, m')] else f') → WS G i_after_r1 [a, b, .o (f'.map encR), s3, s4, s5, s6, .d (.int p.1), .d (.int m')] { nx := K, ct := K, bk := bk, rt := rt, ex := ex } := fun f' m' h1 h2 => by
    unfold i_after_r1
    walk_at "v"
    have h3 := hK (.d (.int m'))
    rw [h2] at h3
    by_cases hm : 0 < m'
    · rw [if_pos hm] at h3
      rw [if_pos hm]
      rw [List.map_append] at h3
      exact ⟨by decide, lt f' h1, h3⟩
    · rw [if_neg hm] at h3
      rw [if_neg hm]
      exact h3
  unfold i_after_b1
  walk_at "v"
  by_cases hm : 0 < p.2
  · rw [if_pos hm]
    refine ⟨by decide, shp_encRs found, ?_⟩
    by_cases hne : found = []
    · subst hne
      refine if_B rfl ?_
      exact fin [] p.2 (Nat.le_refl _) (by unfold jnR; rw [if_pos hm, if_pos hm]; rfl)
    · obtain ⟨init, q, hi, hq2⟩ := getLast_some hne
      have hlast : (List.map encR found)[(List.map encR found).length - 1]? = some (encR q) := by
        rw [hi, List.map_append]
        simp
      refine if_T (by rw [eqv_nil]; cases found with
        | nil => exact absurd rfl hne
        | cons _ _ => rfl) ?_
      refine ⟨encR q, by rw [hi, List.map_append]; exact L2.atI_last _ _, ?_⟩
      have exq : encR q = .tuple [.int q.1, .int q.2] := rfl
      rw [exq]
      walk_at "v"
      by_cases hqv : q.1 = p.1
      · rw [if_pos hqv]
        refine ⟨_, hlast, ?_⟩
        rw [exq]
        walk_at "v"
        have hdr : (List.map encR found).dropLast = init.map encR := by rw [hi, List.map_append]; simp
        rw [hdr]
        have hq1 := hpos q (by rw [hi]; simp)
        exact fin init (p.2 + q.2) (by rw [hi]; simp) (by
          unfold jnR
          rw [if_pos hm, if_pos (by omega), hq2]
          dsimp only
          rw [if_pos hqv, hi, List.dropLast_concat, Int.add_comm])
      · rw [if_neg hqv]
        exact fin found p.2 (Nat.le_refl _) (by
          unfold jnR
          rw [if_pos hm, if_pos hm, hq2]
          dsimp only
          rw [if_neg hqv])
  · rw [if_neg hm]
    exact fin found p.2 (Nat.le_refl _) (by unfold jnR; rw [if_neg hm, if_neg hm])
theorem p_after : ∀ args Q E, s_after args Q E → runB G i_after 9 [true, true] args Q E := by
  rintro args Q E ⟨rs, c, ha, hl, hc, hb, hq⟩
  obtain ⟨r0, r1, rfl, h0, h1⟩ := args2 ha
  obtain rfl := rs_d h1 (by simp [tyOf])
  have e : sizeLine = 16777216 := rfl
  unfold runB i_after
  walk_at "v"
  rw [h0]
  refine ⟨by decide, ?_⟩
  walk_at "v"
  refine ⟨rfl, ?_⟩
  refine forL_inv (AfI r0 c rs) ?_ ?_ _ _ ⟨[], rs, .no, .no, .no, .no, .no, .no, rfl, rfl, rfl⟩
  · rintro x r ρ ⟨done, todo, s3, s4, s5, s6, s7, s8, hd, hr, rfl⟩
    cases todo with
    | nil => cases hr
    | cons v todo =>
      rw [List.map_cons, List.cons.injEq] at hr
      obtain ⟨rfl, rfl⟩ := hr
      have hdl : done.length + (todo.length + 1) = rs.length := by rw [← hd]; simp
      have hvb := hb v (by rw [← hd]; simp)
      refine ⟨_, rfl, fun K hK => ?_⟩
      unfold i_after_b2
      walk_at "v"
      refine ⟨by decide, by decide, by decide, mul_ok 3 210 (by decide) (by decide) (by omega) (by omega) (by decide), ?_⟩
      have hme : v.2 - 2 * (v.2 / 2) = v.2 % 2 := by omega
      rw [hme, isR_eqv hc]
      have hsp : ∃ xs : List PyData, L2.atI [PyData.list [.tuple [.int (v.1 + 1), .int (v.2 / 2)], .tuple [.int v.1, .int (v.2 % 2)]], .list [.tuple [.int (v.1 + 1), .int (v.2 / 2)], .tuple [.int v.1, .int (v.2 % 2)]].reverse] (if (!isL c) = true then 1 else 0) = some (.list xs) ∧ xs = (splitR (isL c) v).map encR := by
        unfold splitR
        cases isL c
        · exact ⟨_, L2.atI_nat (j := 1) rfl, rfl⟩
        · exact ⟨_, L2.atI_nat (j := 0) rfl, rfl⟩
      obtain ⟨xs, hx1, hx2⟩ := hsp
      refine ⟨by decide, by decide, by decide, ?_⟩
      walk_at "v"
      refine ⟨_, hx1, ?_⟩
      rw [hx2]
      refine ⟨rfl, ?_⟩
      have hspl : (splitR (isL c) v).length = 2 := by unfold splitR; split <;> rfl
      have hjok := after_jok (isL c) done
      have hal : (afterR (isL c) done).length ≤ 2 * done.length := by
        have := join_len (done.flatMap (splitR (isL c)))
        rw [split_len] at this
        exact this
      refine forL_inv (AiI r0.sl (.d (.str ⟨#[c]⟩)) (afterR (isL c) done) (splitR (isL c) v) (.d (.int v.1)) (.d (.int v.2)) (.d (.int (v.2 / 2))) (.d (.list [.tuple [.int (v.1 + 1), .int (v.2 / 2)], .tuple [.int v.1, .int (v.2 % 2)]]))) ?_ ?_ _ _ ⟨[], splitR (isL c) v, s7, s8, rfl, rfl, rfl⟩
      · rintro x r ρ ⟨d2, t2, t7, t8, hd2, hr2, rfl⟩
        cases t2 with
        | nil => cases hr2
        | cons p t2 =>
          rw [List.map_cons, List.cons.injEq] at hr2
          obtain ⟨rfl, rfl⟩ := hr2
          refine ⟨_, rfl, fun K2 hK2 => ?_⟩
          have hfl := fold_jn_len d2 (afterR (isL c) done)
          have hd2l : d2.length + (t2.length + 1) = 2 := by rw [← hspl, ← hd2]; simp
          refine jn_step (by omega) (join_gen d2 _ hjok fun _ _ => trivial).1.ct fun s8 => ?_
          exact hK2 _ trivial ⟨d2 ++ [p], t2, .d (.int p.1), s8, by simp [← hd2], rfl, by rw [List.foldl_append]; rfl⟩
      · rintro ρ ⟨d2, t2, t7, t8, hd2, hr2, rfl⟩
        cases t2 with
        | cons _ _ => cases hr2
        | nil =>
          rw [List.append_nil] at hd2
          subst hd2
          refine hK _ (by first | trivial | exact ⟨by cases r0 <;> rfl, trivial⟩) ⟨done ++ [v], todo, .d (.int v.1), .d (.int v.2), .d (.int (v.2 / 2)), .d (.list [.tuple [.int (v.1 + 1), .int (v.2 / 2)], .tuple [.int v.1, .int (v.2 % 2)]]), t7, t8, by simp [← hd], rfl, ?_⟩
          have : afterR (isL c) (done ++ [v]) = (splitR (isL c) v).foldl jnR (afterR (isL c) done) := by
            unfold afterR joinR
            rw [List.flatMap_append, List.foldl_append]
            simp
          rw [this]
  · rintro ρ ⟨done, todo, s3, s4, s5, s6, s7, s8, hd, hr, rfl⟩
    cases todo with
    | cons _ _ => cases hr
    | nil =>
      rw [List.append_nil] at hd
      subst hd
      walk_at "v"
      exact hq

/-! ### joined texts -/
theorem joinL0 : ∀ xs : List (List Nat), TL.joinL [] xs = xs.flatten
  | [] => rfl
  | [p] => by simp [TL.joinL]
  | p :: q :: r => by
    show p ++ ([] ++ TL.joinL [] (q :: r)) = _
    rw [joinL0 (q :: r)]
    simp
theorem join0 (ys : List Str) : (Txt.join (Str.ofString "") ys).cps.toList = (ys.map fun s => s.cps.toList).flatten := by
  have h1 := TL.join_eq (Str.ofString "") ys
  have h2 := TL.tl_join (Str.ofString "") ys
  rw [h1]
  have h3 : TL.tl (Str.ofString "") = [] := by decide +kernel
  rw [h3, joinL0] at h2
  exact h2
theorem join_sides (cs : List Nat) : (Txt.join (Str.ofString "") (cs.map fun c => (⟨#[c]⟩ : Str))).cps.toList = cs := by
  rw [join0, List.map_map]
  induction cs with
  | nil => rfl
  | cons c cs ih =>
    rw [List.map_cons, List.flatten_cons, ih]
    rfl
theorem at_LR (c : Int) (h0 : 0 ≤ c) (h1 : c < 2) : ∃ d, L2.atI (Str.ofString "LR").cps.toList c = some d ∧ (d = 76 ∨ d = 82) := by
  have : c = 0 ∨ c = 1 := by omega
  rcases this with rfl | rfl
  · exact ⟨76, by decide +kernel, .inl rfl⟩
  · exact ⟨82, by decide +kernel, .inr rfl⟩

theorem side_in {c : Nat} (h : isS c) : inD (.str ⟨#[c]⟩) [.str (Str.ofString "L"), .str (Str.ofString "R")] = true := by
  rcases h with rfl | rfl <;> decide +kernel
theorem p_is_pushes : ∀ args Q E, s_is_pushes args Q E → runB G i_is_pushes 2 [true] args Q E := by
  rintro args Q E ⟨s, ha, hs, hl, hq⟩
  obtain ⟨r0, rfl, h0⟩ := args1 ha
  obtain rfl := rs_d h0 (by simp [tyOf])
  unfold runB i_is_pushes
  walk_at "v"
  have e : sizeLine = 16777216 := rfl
  have hsl : s.cps.toList.length = s.length := rfl
  refine compL_mapE (fun c => PyData.str ⟨#[c]⟩) (fun _ => .bool true) ?lk s.cps.toList [] (fun c hc => ?_) ?_ ?_
  case lk => exact ⟨rfl, trivial⟩
  · refine ⟨_, rfl, fun K hK => ?_⟩
    unfold i_is_pushes_e1
    walk_at "v"
    refine ⟨rfl, rfl, hK _ _ ?_ rfl⟩
    rw [side_in (hs c hc)]
    rfl
  · show 0 + s.cps.toList.length ≤ _
    omega
  · refine ⟨List.replicate s.cps.toList.length true, ?_, ?_⟩
    · rw [List.nil_append, map_const_b]
    · walk_at "v"
      simpa using hq
theorem p_need_pushes : ∀ args Q E, s_need_pushes args Q E → runB G i_need_pushes 1 [true] args Q E := by
  rintro args Q E ⟨s, ha, hs, hl, hq⟩
  obtain ⟨r0, rfl, h0⟩ := args1 ha
  obtain rfl := rs_d h0 (by simp [tyOf])
  unfold runB i_need_pushes
  walk_at "v"
  refine callK_pure rfl rfl ⟨s, rfl, hs, hl, ?_⟩
  walk_at "v"
  exact hq

/-! ### texts -/
theorem tx_len (w : List Nat) : (tx w).length = w.length := by simp [tx, Str.length]
theorem tx_sides {w : List Nat} (h : isW w) : Sides (tx w) := fun c hc => h c (by simpa [tx] using hc)
theorem tx_app (a b : List Nat) : tx a ++ tx b = tx (a ++ b) := by
  show Str.append _ _ = _
  simp [tx, Str.append]
theorem tx_ch (w : List Nat) : strChars (tx w) = w.map fun c : Nat => PyData.str ⟨#[c]⟩ := rfl
theorem tx_rep (w : List Nat) (n : Nat) : repS (tx w) n = tx (List.replicate n w).flatten := by
  have key : ∀ (n : Nat) (a : List Nat), (List.replicate n w.toArray).foldl (· ++ ·) a.toArray = (a ++ (List.replicate n w).flatten).toArray := by
    intro n
    induction n with
    | zero => intro a; simp
    | succ n ih =>
      intro a
      rw [List.replicate_succ, List.foldl_cons, List.append_toArray, ih, List.replicate_succ, List.flatten_cons, List.append_assoc]
  have := key n []
  rw [List.nil_append] at this
  unfold repS tx
  exact congrArg Str.mk this
theorem flat_rep_len (w : List Nat) (n : Nat) : (List.replicate n w).flatten.length = w.length * n := by
  induction n with
  | zero => rfl
  | succ n ih => rw [List.replicate_succ, List.flatten_cons, List.length_append, ih, Nat.mul_succ, Nat.add_comm]
theorem isW_app {a b : List Nat} (h1 : isW a) (h2 : isW b) : isW (a ++ b) := fun c hc => by
  rcases List.mem_append.mp hc with h | h
  · exact h1 c h
  · exact h2 c h
theorem isW_rep {w : List Nat} (n : Nat) (h : isW w) : isW (List.replicate n w).flatten := fun c hc => by
  obtain ⟨v, hv, hc⟩ := List.mem_flatten.mp hc
  rw [(List.mem_replicate.mp hv).2] at hc
  exact h c hc
theorem isW_flip (w : List Nat) : isW (flipW w) := fun c hc => by
  obtain ⟨x, _, rfl⟩ := List.mem_map.mp hc
  split
  · exact .inr rfl
  · exact .inl rfl
theorem flip_len (w : List Nat) : (flipW w).length = w.length := by simp [flipW]
theorem join_tx (w : List Nat) : Txt.join (Str.ofString "") (w.map fun c => (⟨#[c]⟩ : Str)) = tx w := by
  have h := join_sides w
  generalize Txt.join (Str.ofString "") (w.map fun c => (⟨#[c]⟩ : Str)) = s at h
  obtain ⟨s⟩ := s
  dsimp only at h
  unfold tx
  rw [← h]
theorem sum_ones (w : List Nat) : ((w.map fun c => (⟨#[c]⟩ : Str)).map (·.length)).sum = w.length := by
  induction w with
  | nil => rfl
  | cons c w ih =>
    rw [List.map_cons, List.map_cons, List.sum_cons, ih, List.length_cons]
    show 1 + _ = _
    omega

def LtI (t : Int) (m n : Nat) (style : Int) (few : Nat) (rest : List PyData) (ρ : FE) : Prop := ∃ (j k : Nat) (xs : List PyData) (w : List Nat) (s2 s5 s7 : Sl), rest = rangeD (j : Int) k ∧ j + k = n ∧ Barrel (t + 2 * j) xs ∧ isW w ∧ w.length = j ∧ ρ = [.o xs, .d (.int m), s2, .d (.int style), .d (.str ⟨#[few]⟩), s5, .d (.str (tx w)), s7]
theorem at_few {x : Int} (h0 : 0 ≤ x) (h1 : x < 2) : ∃ d, L2.atI [PyData.str (Str.ofString "L"), PyData.str (Str.ofString "R")] x = some (.str ⟨#[d]⟩) ∧ isS d := by
  have : x = 0 ∨ x = 1 := by omega
  rcases this with rfl | rfl
  · exact ⟨76, by rfl, .inl rfl⟩
  · exact ⟨82, by rfl, .inr rfl⟩
theorem p_list : ∀ args Q E, s_list args Q E → runB G i_list 8 [true, true] args Q E := by
  rintro args Q E ⟨t, xs, m, rfl, hb, ht, hm, hq⟩
  have e : sizeLine = 16777216 := rfl
  unfold runB i_list
  walk_at "z"
  refine scoop_v rfl hb (by omega) (by decide) (by decide) fun style xs1 w0 w1 hb1 => ?_
  walk_at "z"
  refine ⟨by decide, ?_⟩
  refine scoop_v rfl hb1 (by omega) (by decide) (by decide) fun f xs2 f0 f1 hb2 => ?_
  walk_at "z"
  obtain ⟨few, hf, hfew⟩ := at_few f0 f1
  refine ⟨_, hf, ?_⟩
  walk_at "z"
  refine scoop_v rfl hb2 (by omega) (by decide) (by decide) fun a xs3 a0 a1 hb3 => ?_
  walk_at "z"
  refine scoop_v rfl hb3 (by omega) (by omega) (by omega) fun b xs4 b0 b1 hb4 => ?_
  walk_at "z"
  refine ⟨by decide, ?_⟩
  refine scoop_v rfl hb4 (by omega) (by decide) (by decide) fun c xs5 c0 c1 hb5 => ?_
  walk_at "z"
  have hz : ∃ z : Int, L2.atI [PyData.int a, PyData.int b] c = some (.int z) ∧ 0 ≤ z := by
    have : c = 0 ∨ c = 1 := by omega
    rcases this with rfl | rfl
    · exact ⟨_, rfl, a0⟩
    · exact ⟨_, rfl, b0⟩
  obtain ⟨z, hz, z0⟩ := hz
  refine ⟨_, hz, ?_⟩
  walk_at "z"
  generalize hn : (if z < (m : Int) then z else (m : Int)) = n
  have hn2 : 0 ≤ n ∧ n ≤ m := by
    rw [← hn]
    split <;> omega
  obtain ⟨n, rfl⟩ := Int.eq_ofNat_of_zero_le hn2.1
  refine ⟨by omega, by omega, rfl, ?_⟩
  rw [Int.toNat_natCast]
  refine forL_inv (LtI (t + 5) m n style few) ?_ ?_ _ _ ⟨0, n, xs5, [], _, _, _, rfl, by omega, hb5.mono (by omega), (by intro c hc; cases hc), rfl, rfl⟩
  · rintro x r ρ ⟨j, k, xs6, w, s2, s5, s7, hr, hjk, hb6, hw, hl, rfl⟩
    obtain ⟨k, rfl, rfl, rfl⟩ := rangeD_cons hr
    refine ⟨_, rfl, fun K hK => ?_⟩
    unfold i_list_b1
    walk_at "z"
    refine scoop_v rfl hb6 (by omega) (by decide) (by decide) fun g xs7 g0 g1 hb7 => ?_
    walk_at "z"
    obtain ⟨d, hd, hd2⟩ := at_LR g g0 g1
    refine ⟨by decide +kernel, d, hd, ?_⟩
    walk_at "z"
    obtain ⟨u, hu, hu2⟩ := at_LR ((j : Int) % 2) (by omega) (by omega)
    refine ⟨by decide, by decide +kernel, u, hu, ?_⟩
    walk_at "z"
    refine ⟨by decide, ?_⟩
    refine scoop_v rfl hb7 (by omega) (by decide) (by decide) fun h xs8 h0 h1 hb8 => ?_
    walk_at "z"
    have hv : ∃ v, L2.atI [PyData.str ⟨#[few]⟩, PyData.str ⟨#[few]⟩, PyData.str ⟨#[few]⟩, PyData.str (Str.ofString "L"), PyData.str (Str.ofString "R")] h = some (.str ⟨#[v]⟩) ∧ isS v := by
      have : h = 0 ∨ h = 1 ∨ h = 2 ∨ h = 3 ∨ h = 4 := by omega
      rcases this with rfl | rfl | rfl | rfl | rfl
      · exact ⟨few, rfl, hfew⟩
      · exact ⟨few, rfl, hfew⟩
      · exact ⟨few, rfl, hfew⟩
      · exact ⟨76, rfl, .inl rfl⟩
      · exact ⟨82, rfl, .inr rfl⟩
    obtain ⟨v, hv, hv2⟩ := hv
    refine ⟨_, hv, ?_⟩
    walk_at "z"
    have hy : ∃ y, L2.atI [PyData.str ⟨#[d]⟩, PyData.str ⟨#[few]⟩, PyData.str ⟨#[u]⟩, PyData.str ⟨#[v]⟩] style = some (.str ⟨#[y]⟩) ∧ isS y := by
      have : style = 0 ∨ style = 1 ∨ style = 2 ∨ style = 3 := by omega
      rcases this with rfl | rfl | rfl | rfl
      · exact ⟨d, rfl, hd2⟩
      · exact ⟨few, rfl, hfew⟩
      · exact ⟨u, rfl, hu2⟩
      · exact ⟨v, rfl, hv2⟩
    obtain ⟨y, hy, hy2⟩ := hy
    refine ⟨by decide, _, hy, ?_⟩
    walk_at "z"
    have hty : (⟨#[y]⟩ : Str) = tx [y] := rfl
    have h1 : (tx [y]).length = 1 := rfl
    rw [hty, tx_app, tx_len, h1]
    refine ⟨by omega, hK _ trivial ⟨j + 1, k, xs8, w ++ [y], _, _, _, by simp, by omega, hb8.mono (by omega), isW_app hw (fun c hc => ?_), by simp [hl], rfl⟩⟩
    rw [List.mem_singleton.mp hc]
    exact hy2
  · rintro ρ ⟨j, k, xs6, w, s2, s5, s7, hr, hjk, hb6, hw, hl, rfl⟩
    have hk := rangeD_nil hr
    subst hk
    walk_at "z"
    exact hq w xs6 hw (by omega) (hb6.mono (by omega))
theorem list_v {ρ : FE} {i : Nat} {xs : List PyData} {t : Int} {m : Int} {Q : KQ} {E : KX} (h : at_ ρ i = .o xs) (hb : Barrel t xs) (ht : t < 2 ^ 50) (h0 : 0 ≤ m) (hm : m ≤ 1000) (hq : ∀ w xs', isW w → (w.length : Int) ≤ m → Barrel (t + 10000) xs' → Q (.d (.str (tx w))) (ρ.set i (.o xs'))) :
    callK [true, true] s_list [.s i, .v (.d (.int m))] ρ Q E := by
  have e : passArgs [true, true] [.s i, .v (.d (.int m))] ρ = some ([(.o xs, some i), (.d (.int m), none)], ρ.set i .no) := by
    rw [pa_st, h]
    rfl
  obtain ⟨n, rfl⟩ := Int.eq_ofNat_of_zero_le h0
  unfold callK
  rw [e]
  refine ⟨t, xs, n, rfl, hb, ht, by omega, fun ns xs' h0 h1 hb' => ?_⟩
  show Q _ (backIo _ [_, _] _)
  rw [bi_s, bi_n, bi_nil, List.set_set]
  exact hq ns xs' h0 (by omega) hb'

theorem runsOf_big {ns : List Int} {n : Nat} (h : Row ns n) (hn : n ≤ 1000) (h2 : ∀ i ∈ ns, i ≤ 200) : RunsOk (runsOf ns) ∧ (runsOf ns).length ≤ n ∧ ∀ r ∈ runsOf ns, r.1 ≤ 200 ∧ r.2 ≤ n := by
  have hj := runsOf_ok (P := fun v => 0 ≤ v ∧ v ≤ 200) (ns := ns) fun i hi => ⟨(h.2 i hi).1, h2 i hi⟩
  have hl := runsOf_len ns
  have h1 := h.1
  have he := expand_runsOf ns
  have hc := cnt_expand (rs := runsOf ns) fun r hr => by have := hj.ct r hr; omega
  rw [he] at hc
  have hm := ct_le' (rs := runsOf ns) fun r hr => by have := hj.ct r hr; omega
  exact ⟨⟨fun r hr => by have := hj.lv r hr; omega, hj.ct, hj.dif, by omega⟩, by omega, fun r hr => ⟨(hj.lv r hr).2, by have := hm r hr; omega⟩⟩
theorem after_ok {rs : List Run} (l : Bool) (h : RunsOk rs) (hl : rs.length ≤ 100) (h2 : ∀ r ∈ rs, r.1 ≤ 200 ∧ r.2 ≤ 10 ^ 30) : RunsOk (afterR l rs) ∧ ∀ r ∈ afterR l rs, r.2 < 2 ^ 63 * 2 ^ 63 := by
  have hs := split_lv (l := l) (rs := rs) (B := 200) fun r hr => ⟨(h.lv r hr).1, (h2 r hr).1⟩
  have hj := join_ok (P := fun v => 0 ≤ v ∧ v ≤ 201) (ps := rs.flatMap (splitR l)) hs
  have hjl := join_len (rs.flatMap (splitR l))
  rw [split_len] at hjl
  have hnn : ∀ r ∈ rs, 0 ≤ r.2 := fun r hr => by have := h.ct r hr; omega
  have hc := cnt_after l hnn
  have hc2 := cnt_le (C := 10 ^ 30) (rs := rs) fun r hr => (h2 r hr).2
  have hm := ct_le' (rs := afterR l rs) fun r hr => by have := hj.ct r hr; omega
  refine ⟨⟨fun r hr => by have := hj.lv r hr; omega, hj.ct, hj.dif, ?_⟩, fun r hr => ?_⟩
  · show (joinR _).length ≤ _
    omega
  · have := hm r hr
    omega
theorem gd_runs {rs : List Run} {m : Nat} (h : ∀ r ∈ rs, 0 ≤ r.1 ∧ r.1 < 10 ^ 110 ∧ 0 ≤ r.2 ∧ r.2 < 10 ^ 110) (hm : rs.length ≤ m) : Gd (m * 3) 2 (.list (rs.map encR)) :=
  Gd.list (n := 2) (D := 1) (fun d hd => by
    obtain ⟨r, hr, rfl⟩ := List.mem_map.mp hd
    obtain ⟨h1, h2, h3, h4⟩ := h r hr
    exact ((Gd.int0 h1 h2 |> fun a => GdAll.cons a ((GdAll.cons (Gd.int0 h3 h4) GdAll.nil)))).tuple) (by rw [List.length_map]; exact hm)
theorem eqv_runs (a b : List Run) : PyData.eqv (.list (a.map encR)) (.list (b.map encR)) = decide (a = b) := eqvL_dec (fun x y => by
  obtain ⟨x1, x2⟩ := x
  obtain ⟨y1, y2⟩ := y
  show PyData.eqvAll [.int x1, .int x2] [.int y1, .int y2] = _
  rw [PyData.eqvAll, PyData.eqvAll, PyData.eqvAll, eqv_intD, eqv_intD]
  by_cases h1 : x1 = y1 <;> by_cases h2 : x2 = y2 <;> simp [h1, h2]) a b

/-! ### runs stay short and small -/
theorem nb_le {n k : Nat} : nb n ≤ k ↔ n < 2 ^ k := by
  unfold nb
  by_cases h : n = 0
  · subst h
    rw [if_pos rfl]
    exact ⟨fun _ => Nat.pow_pos (by decide), fun _ => Nat.zero_le _⟩
  · rw [if_neg h]
    exact Nat.log2_lt h
theorem nb_lt (n : Nat) : n < 2 ^ nb n := nb_le.mp (Nat.le_refl _)
theorem nb_add (a b : Nat) : nb (a + b) ≤ nb a + nb b := by
  refine nb_le.mpr ?_
  have h1 := nb_lt a
  have h2 := nb_lt b
  rw [Nat.pow_add]
  by_cases ha : a = 0
  · subst ha
    have : nb 0 = 0 := rfl
    rw [this]
    omega
  by_cases hb : b = 0
  · subst hb
    have : nb 0 = 0 := rfl
    rw [this]
    omega
  have k1 : 2 ≤ 2 ^ nb a := by omega
  have k2 : 2 ≤ 2 ^ nb b := by omega
  have e1 : (2 ^ nb a - 1) * (2 ^ nb b - 1) + (2 ^ nb a + 2 ^ nb b) = 2 ^ nb a * 2 ^ nb b + 1 := by
    generalize 2 ^ nb a = x at *
    generalize 2 ^ nb b = y at *
    obtain ⟨x, rfl⟩ : ∃ z, x = z + 1 := ⟨x - 1, by omega⟩
    obtain ⟨y, rfl⟩ : ∃ z, y = z + 1 := ⟨y - 1, by omega⟩
    rw [Nat.add_sub_cancel, Nat.add_sub_cancel, Nat.add_mul, Nat.mul_add]
    omega
  omega
theorem nb_half (c : Nat) : nb (c / 2) + nb (c % 2) ≤ nb c := by
  have h1 := nb_lt c
  by_cases h0 : c = 0
  · subst h0
    exact Nat.le_refl _
  by_cases h2 : c = 1
  · subst h2
    decide
  have k2 : 2 ≤ nb c := by
    rcases Nat.lt_or_ge (nb c) 2 with h | h
    · have : 2 ^ nb c ≤ 2 ^ 1 := Nat.pow_le_pow_right (by decide) (by omega)
      omega
    · exact h
  obtain ⟨k, hk⟩ : ∃ k, nb c = k + 1 := ⟨nb c - 1, by omega⟩
  rw [hk, Nat.pow_succ] at h1
  have a1 : nb (c / 2) ≤ k := nb_le.mpr (by omega)
  have a2 : nb (c % 2) ≤ 1 := nb_le.mpr (by omega)
  omega
theorem bits_nil : bits [] = 0 := rfl
theorem bits_cons (r : Run) (rs : List Run) : bits (r :: rs) = nb r.2.toNat + bits rs := by unfold bits; rw [List.map_cons, List.sum_cons]
theorem bits_app (a b : List Run) : bits (a ++ b) = bits a + bits b := by
  induction a with
  | nil => rw [List.nil_append, bits_nil, Nat.zero_add]
  | cons x a ih => rw [List.cons_append, bits_cons, bits_cons, ih, Nat.add_assoc]
theorem bits_jn {found : List Run} {p : Run} (h : ∀ r ∈ found, 0 ≤ r.2) : bits (jnR found p) ≤ bits found + nb p.2.toNat := by
  unfold jnR
  split
  · rename_i hp
    by_cases hne : found = []
    · subst hne
      show bits [p] ≤ _
      rw [bits_cons, bits_nil]
      omega
    · obtain ⟨init, q, hi, hq⟩ := getLast_some hne
      rw [hq]
      have hq0 : 0 ≤ q.2 := h q (by rw [hi]; simp)
      dsimp only
      split
      · rw [hi, List.dropLast_concat, bits_app, bits_app, bits_cons, bits_cons, bits_nil]
        have := nb_add q.2.toNat p.2.toNat
        have e : (q.2 + p.2).toNat = q.2.toNat + p.2.toNat := by omega
        dsimp only
        rw [e]
        omega
      · rw [bits_app, bits_cons, bits_nil]
        omega
  · omega
theorem bits_fold : ∀ (ps found : List Run), JOk (fun _ => True) found → bits (ps.foldl jnR found) ≤ bits found + bits ps
  | [], found, _ => by rw [bits_nil]; exact Nat.le_refl _
  | p :: ps, found, h => by
    rw [List.foldl_cons, bits_cons]
    have h1 := bits_fold ps (jnR found p) (jok_jn h trivial).1
    have h2 := bits_jn (found := found) (p := p) fun r hr => by have := h.ct r hr; omega
    omega
theorem bits_split (l : Bool) {r : Run} (h : 0 ≤ r.2) : bits (splitR l r) ≤ nb r.2.toNat := by
  have h1 := nb_half r.2.toNat
  have e1 : (r.2 / 2).toNat = r.2.toNat / 2 := by omega
  have e2 : (r.2 % 2).toNat = r.2.toNat % 2 := by omega
  unfold splitR
  split <;> rw [bits_cons, bits_cons, bits_nil] <;> dsimp only <;> rw [e1, e2] <;> omega
theorem bits_flat (l : Bool) : ∀ {rs : List Run}, (∀ r ∈ rs, 0 ≤ r.2) → bits (rs.flatMap (splitR l)) ≤ bits rs
  | [], _ => Nat.le_refl _
  | r :: rs, h => by
    rw [List.flatMap_cons, bits_app, bits_cons]
    have h1 := bits_split l (h r List.mem_cons_self)
    have h2 := bits_flat l (rs := rs) fun x hx => h x (List.mem_cons_of_mem _ hx)
    omega
theorem bits_after (l : Bool) {rs : List Run} (h : ∀ r ∈ rs, 0 ≤ r.2) : bits (afterR l rs) ≤ bits rs := by
  have h1 := bits_fold (rs.flatMap (splitR l)) [] jok_nil
  have h2 := bits_flat l h
  rw [bits_nil] at h1
  show bits (List.foldl _ _ _) ≤ _
  omega
theorem len_bits : ∀ {rs : List Run}, (∀ r ∈ rs, 1 ≤ r.2) → rs.length ≤ bits rs
  | [], _ => Nat.le_refl _
  | r :: rs, h => by
    rw [bits_cons, List.length_cons]
    have h1 := len_bits (rs := rs) fun x hx => h x (List.mem_cons_of_mem _ hx)
    have h2 := h r List.mem_cons_self
    have h3 : 1 ≤ nb r.2.toNat := by
      rcases Nat.eq_zero_or_pos (nb r.2.toNat) with h0 | h0
      · have := nb_lt r.2.toNat
        rw [h0] at this
        omega
      · exact h0
    omega
theorem bits_le {k : Nat} : ∀ {rs : List Run}, (∀ r ∈ rs, r.2 < 2 ^ k) → bits rs ≤ rs.length * k
  | [], _ => by simp [bits_nil]
  | r :: rs, h => by
    rw [bits_cons, List.length_cons, Nat.add_mul, Nat.one_mul]
    have h1 := bits_le (rs := rs) fun x hx => h x (List.mem_cons_of_mem _ hx)
    have h2 := h r List.mem_cons_self
    have h3 : nb r.2.toNat ≤ k := nb_le.mpr (by
      have : ((2 ^ k : Nat) : Int) = (2 : Int) ^ k := by simp
      rw [← this] at h2
      have hp : 0 < 2 ^ k := Nat.pow_pos (by decide)
      omega)
    omega
theorem bits_cnt : ∀ {rs : List Run}, (∀ r ∈ rs, 0 ≤ r.2) → (bits rs : Int) ≤ cnt rs
  | [], _ => Int.le_refl _
  | r :: rs, h => by
    rw [bits_cons, cnt_cons]
    have h1 := bits_cnt (rs := rs) fun x hx => h x (List.mem_cons_of_mem _ hx)
    have h2 := h r List.mem_cons_self
    have h3 : nb r.2.toNat ≤ r.2.toNat := nb_le.mpr Nat.lt_two_pow_self
    omega
theorem Pk.len {L : Int} {rs : List Run} (h : Pk L rs) : rs.length ≤ 1000 := Nat.le_trans (len_bits h.ct) h.bt
theorem Pk.after {L : Int} {rs : List Run} (l : Bool) (h : Pk L rs) : Pk (L + 1) (afterR l rs) := by
  have hnn : ∀ r ∈ rs, 0 ≤ r.2 := fun r hr => by have := h.ct r hr; omega
  have hj := join_ok (P := fun v => 0 ≤ v ∧ v ≤ L + 1) (ps := rs.flatMap (splitR l)) (split_lv (l := l) (rs := rs) (B := L) h.lv)
  have h1 := cnt_after l hnn
  have h2 := bits_after l hnn
  have h3 := h.cn
  have h4 := h.bt
  exact ⟨hj.lv, hj.ct, by omega, by omega⟩
theorem pushW_app (rs : List Run) (a b : List Nat) : pushW rs (a ++ b) = pushW (pushW rs a) b := List.foldl_append ..
theorem Pk.push : ∀ (w : List Nat) {L : Int} {rs : List Run}, Pk L rs → Pk (L + w.length) (pushW rs w)
  | [], L, rs, h => by
    have : L + (([] : List Nat).length : Int) = L := by simp
    rw [this]
    exact h
  | c :: w, L, rs, h => by
    have := Pk.push w (h.after (isL c))
    have e : L + ((c :: w).length : Int) = L + 1 + (w.length : Int) := by rw [List.length_cons]; omega
    rw [e]
    exact this
theorem Pk.pre {L : Int} {rs : List Run} {done todo w : List Nat} (h : Pk L rs) (hw : w.length ≤ 300) (e : done ++ todo = w) : Pk (L + 300) (pushW rs done) := by
  have h1 := h.push done
  have h2 : done.length ≤ w.length := by rw [← e]; simp
  exact ⟨fun r hr => by have := h1.lv r hr; omega, h1.ct, h1.cn, h1.bt⟩
theorem Pk.gd {L : Int} {rs : List Run} (h : Pk L rs) (hL : L ≤ 1000) : Gd 3000 2 (.list (rs.map encR)) := gd_runs (m := 1000) (fun r hr => by
  have h1 := h.lv r hr
  have h2 := h.ct r hr
  have h3 := ct_le' (rs := rs) (fun r hr => by have := h.ct r hr; omega) r hr
  have h4 := h.cn
  exact ⟨by omega, by omega, by omega, by omega⟩) h.len

/-! ### what one run of tiles becomes -/
theorem dif_pre : ∀ {xs ys : List Run}, Dif (xs ++ ys) → Dif xs
  | [], _, _ => trivial
  | [_], _, _ => trivial
  | x :: y :: r, ys, h => ⟨h.1, dif_pre (xs := y :: r) h.2⟩
theorem fold_filter : ∀ (ps found : List Run), Dif (found ++ ps.filter fun p => decide (0 < p.2)) → ps.foldl jnR found = found ++ ps.filter fun p => decide (0 < p.2)
  | [], found, _ => by simp
  | p :: ps, found, h => by
    rw [List.foldl_cons]
    by_cases hp : 0 < p.2
    · rw [List.filter_cons_of_pos (by simpa using hp)] at h ⊢
      have e : found ++ p :: ps.filter (fun p => decide (0 < p.2)) = (found ++ [p]) ++ ps.filter fun p => decide (0 < p.2) := by simp
      rw [e] at h ⊢
      have hj : jnR found p = found ++ [p] := by
        have hd : Dif (found ++ [p]) := dif_pre h
        unfold jnR
        rw [if_pos hp]
        cases hl : found.getLast? with
        | none => rfl
        | some q =>
          dsimp only
          rw [if_neg ((dif_snoc hd).2 q hl)]
      rw [hj]
      exact fold_filter ps _ h
    · rw [List.filter_cons_of_neg (by simpa using hp)] at h ⊢
      have hj : jnR found p = found := by
        unfold jnR
        rw [if_neg hp]
      rw [hj]
      exact fold_filter ps _ h
theorem dif_cat : ∀ {A C : List Run}, Dif A → Dif C → (∀ a ∈ A, ∀ c, C.head? = some c → a.1 ≠ c.1) → Dif (A ++ C)
  | [], C, _, h, _ => h
  | [a], C, _, h, hk => by
    cases C with
    | nil => trivial
    | cons c C => exact ⟨hk a List.mem_cons_self c rfl, h⟩
  | a :: b :: A, C, h1, h2, hk => ⟨h1.1, dif_cat (A := b :: A) h1.2 h2 fun x hx => hk x (List.mem_cons_of_mem _ hx)⟩
theorem flat_ones (l : Bool) : ∀ {A : List Run}, (∀ r ∈ A, r.2 = 1) → (A.flatMap (splitR l)).filter (fun p => decide (0 < p.2)) = A
  | [], _ => rfl
  | r :: A, h => by
    have ih := flat_ones l (A := A) fun x hx => h x (List.mem_cons_of_mem _ hx)
    have h1 := h r List.mem_cons_self
    rw [List.flatMap_cons, List.filter_append, ih]
    have : (splitR l r).filter (fun p => decide (0 < p.2)) = [r] := by
      obtain ⟨a, b⟩ := r
      obtain rfl : b = 1 := h1
      cases l <;> rfl
    rw [this]
    rfl
/-- single tiles of lower levels on both sides -/
structure Sd (k : Int) (A B : List Run) : Prop where
  a1 : ∀ r ∈ A, r.2 = 1 ∧ r.1 < k
  b1 : ∀ r ∈ B, r.2 = 1 ∧ r.1 < k
  da : Dif A
  db : Dif B
theorem dif_head {c : Run} {C : List Run} (h : Dif C) (hc : ∀ d ∈ C, c.1 ≠ d.1) : Dif (c :: C) := by
  cases C with
  | nil => trivial
  | cons d C => exact ⟨hc d List.mem_cons_self, h⟩
theorem sd_dif {k : Int} {A B : List Run} {c0 : Run} {C : List Run} (h : Sd k A B) (hC : Dif (c0 :: C)) (hk : ∀ c ∈ c0 :: C, k ≤ c.1) : Dif (A ++ (c0 :: C ++ B)) := by
  refine dif_cat h.da (dif_cat hC h.db fun a ha c hc => ?_) fun a ha c hc => ?_
  · have h1 := (h.b1 c (List.mem_of_mem_head? hc)).2
    have h2 := hk a ha
    omega
  · have h1 := (h.a1 a ha).2
    obtain rfl : c0 = c := by simpa using hc
    have := hk c0 List.mem_cons_self
    omega
theorem sd_after {k q : Int} {A B C : List Run} {c0 : Run} (l : Bool) (h : Sd k A B) (hC : Dif (c0 :: C)) (hk : ∀ c ∈ c0 :: C, k ≤ c.1) (e : (splitR l (k, q)).filter (fun p => decide (0 < p.2)) = c0 :: C) :
    afterR l (A ++ ((k, q) :: B)) = A ++ (c0 :: C ++ B) := by
  have key : ((A ++ ((k, q) :: B)).flatMap (splitR l)).filter (fun p => decide (0 < p.2)) = A ++ (c0 :: C ++ B) := by
    rw [List.flatMap_append, List.flatMap_cons, List.filter_append, List.filter_append, flat_ones l fun r hr => (h.a1 r hr).1, flat_ones l fun r hr => (h.b1 r hr).1, e]
  unfold afterR joinR
  rw [fold_filter _ _ (by rw [List.nil_append, key]; exact sd_dif h hC hk), List.nil_append, key]
theorem sd_one {k : Int} {A B : List Run} (h : Sd k A B) (w : List Nat) : pushW (A ++ ((k, 1) :: B)) w = A ++ ((k, 1) :: B) := by
  induction w with
  | nil => rfl
  | cons c w ih =>
    have e : afterR (isL c) (A ++ ((k, 1) :: B)) = A ++ ((k, 1) :: B) := sd_after (C := []) (c0 := (k, 1)) (isL c) h trivial (fun c hc => by rw [List.mem_singleton.mp hc]; exact Int.le_refl _) (by cases isL c <;> rfl)
    show pushW (afterR (isL c) _) w = _
    rw [e]
    exact ih
theorem sd_even {k q : Int} {A B : List Run} (l : Bool) (h : Sd k A B) (hq : 1 ≤ q) : afterR l (A ++ ((k, 2 * q) :: B)) = A ++ ((k + 1, q) :: B) :=
  sd_after (C := []) (c0 := (k + 1, q)) l h trivial (fun c hc => by rw [List.mem_singleton.mp hc]; dsimp only; omega) (by
    have e1 : 2 * q / 2 = q := by omega
    have e2 : 2 * q % 2 = 0 := by omega
    have h0 : 0 < q := by omega
    cases l
    · show [((k, 2 * q % 2) : Run), (k + 1, 2 * q / 2)].filter _ = _
      rw [e1, e2]
      simp [h0]
    · show [((k + 1, 2 * q / 2) : Run), (k, 2 * q % 2)].filter _ = _
      rw [e1, e2]
      simp [h0])
theorem sd_odd {k q : Int} {A B : List Run} (l : Bool) (h : Sd k A B) (hq : 1 ≤ q) : afterR l (A ++ ((k, 2 * q + 1) :: B)) = if l then A ++ ((k + 1, q) :: (k, 1) :: B) else A ++ ((k, 1) :: (k + 1, q) :: B) := by
  have e1 : (2 * q + 1) / 2 = q := by omega
  have e2 : (2 * q + 1) % 2 = 1 := by omega
  cases l
  · exact sd_after (C := [(k + 1, q)]) (c0 := (k, 1)) false h ⟨by dsimp only; omega, trivial⟩ (fun c hc => by
      rcases List.mem_cons.mp hc with rfl | hc
      · exact Int.le_refl _
      · rw [List.mem_singleton.mp hc]; dsimp only; omega) (by
      unfold splitR
      rw [if_neg Bool.false_ne_true, e1, e2]
      simp
      omega)
  · exact sd_after (C := [(k, 1)]) (c0 := (k + 1, q)) true h ⟨by dsimp only; omega, trivial⟩ (fun c hc => by
      rcases List.mem_cons.mp hc with rfl | hc
      · dsimp only; omega
      · rw [List.mem_singleton.mp hc]; exact Int.le_refl _) (by
      unfold splitR
      rw [if_pos rfl, e1, e2]
      simp
      omega)
theorem Sd.up {k : Int} {A B : List Run} (h : Sd k A B) : Sd (k + 1) A B := ⟨fun r hr => ⟨(h.a1 r hr).1, by have := (h.a1 r hr).2; omega⟩, fun r hr => ⟨(h.b1 r hr).1, by have := (h.b1 r hr).2; omega⟩, h.da, h.db⟩
theorem Sd.right {k : Int} {A B : List Run} (h : Sd k A B) : Sd (k + 1) A ((k, 1) :: B) := ⟨h.up.a1, fun r hr => by
  rcases List.mem_cons.mp hr with rfl | hr
  · exact ⟨rfl, by dsimp only; omega⟩
  · exact h.up.b1 r hr, h.da, dif_head h.db fun d hd => by have := (h.b1 d hd).2; dsimp only; omega⟩
theorem Sd.left {k : Int} {A B : List Run} (h : Sd k A B) : Sd (k + 1) (A ++ [(k, 1)]) B := ⟨fun r hr => by
  rcases List.mem_append.mp hr with hr | hr
  · exact h.up.a1 r hr
  · rw [List.mem_singleton.mp hr]
    exact ⟨rfl, by dsimp only; omega⟩, h.up.b1, dif_cat h.da trivial fun a ha c hc => by
      obtain rfl : (k, 1) = c := by simpa using hc
      have := (h.a1 a ha).2
      dsimp only
      omega, h.db⟩
theorem sd_nil (k : Int) : Sd k [] [] := ⟨(fun r h => by cases h), (fun r h => by cases h), trivial, trivial⟩
theorem pushW_cons (rs : List Run) (c : Nat) (w : List Nat) : pushW rs (c :: w) = pushW (afterR (isL c) rs) w := rfl
/-- fewer tiles are not parted -/
theorem run_less : ∀ {w v : List Nat} {n : Nat} {q : Int} {k : Int} {A B : List Run}, partN w v = some n → 1 ≤ q → q < n → Sd k A B → pushW (A ++ ((k, q) :: B)) w = pushW (A ++ ((k, q) :: B)) v
  | [], [], _, _, _, _, _, h, _, _, _ => by cases h
  | [], x :: v, n, q, k, A, B, h, h1, h2, hs => by
    cases h
    obtain rfl : q = 1 := by omega
    rw [sd_one hs, sd_one hs]
  | x :: w, [], n, q, k, A, B, h, h1, h2, hs => by
    cases h
    obtain rfl : q = 1 := by omega
    rw [sd_one hs, sd_one hs]
  | c :: w, d :: v, n, q, k, A, B, h, h1, h2, hs => by
    by_cases h3 : q = 1
    · subst h3
      rw [sd_one hs, sd_one hs]
    unfold partN at h
    by_cases hcd : c = d
    · subst hcd
      rw [if_pos rfl, Option.map_eq_some_iff] at h
      obtain ⟨m, hm, rfl⟩ := h
      rw [pushW_cons, pushW_cons]
      have hq : q / 2 ≥ 1 := by omega
      have hl : q / 2 < (m : Nat) := by omega
      rcases (by omega : q = 2 * (q / 2) ∨ q = 2 * (q / 2) + 1) with e | e
      · rw [e, sd_even _ hs hq]
        exact run_less hm hq hl hs.up
      · rw [e, sd_odd _ hs hq]
        split
        · exact run_less hm hq hl hs.right
        · have e2 : A ++ ((k, 1) :: (k + 1, q / 2) :: B) = (A ++ [(k, 1)]) ++ ((k + 1, q / 2) :: B) := by simp
          rw [e2]
          exact run_less hm hq hl hs.left
    · rw [if_neg hcd] at h
      cases h
      obtain rfl : q = 2 := by omega
      have e : (2 : Int) = 2 * 1 := rfl
      rw [pushW_cons, pushW_cons, e, sd_even _ hs (by decide), sd_even _ hs (by decide), sd_one hs.up, sd_one hs.up]
theorem part_ge : ∀ {w v : List Nat} {n : Nat}, partN w v = some n → 2 ≤ n
  | [], [], _, h => by cases h
  | [], x :: v, n, h => by cases h; exact Nat.le_refl _
  | x :: w, [], n, h => by cases h; exact Nat.le_refl _
  | c :: w, d :: v, n, h => by
    unfold partN at h
    split at h
    · rw [Option.map_eq_some_iff] at h
      obtain ⟨m, hm, rfl⟩ := h
      have := part_ge hm
      omega
    · cases h
      decide
/-- the number parts -/
theorem run_part : ∀ {w v : List Nat} {n : Nat} {k : Int} {A B : List Run}, isW w → isW v → partN w v = some n → Sd k A B → pushW (A ++ ((k, (n : Int)) :: B)) w ≠ pushW (A ++ ((k, (n : Int)) :: B)) v
  | [], [], _, _, _, _, _, _, h, _ => by cases h
  | [], x :: v, n, k, A, B, _, _, h, hs => by
    cases h
    have e : ((2 : Nat) : Int) = 2 * 1 := rfl
    rw [pushW_cons, e, sd_even _ hs (by decide), sd_one hs.up]
    intro he
    have := List.append_cancel_left he
    simp at this
  | x :: w, [], n, k, A, B, _, _, h, hs => by
    cases h
    have e : ((2 : Nat) : Int) = 2 * 1 := rfl
    rw [pushW_cons, e, sd_even _ hs (by decide), sd_one hs.up]
    intro he
    have := List.append_cancel_left he
    simp at this
  | c :: w, d :: v, n, k, A, B, hw, hv, h, hs => by
    unfold partN at h
    by_cases hcd : c = d
    · subst hcd
      rw [if_pos rfl, Option.map_eq_some_iff] at h
      obtain ⟨m, hm, rfl⟩ := h
      have hm2 := part_ge hm
      have e : ((2 * m : Nat) : Int) = 2 * (m : Int) := by omega
      rw [pushW_cons, pushW_cons, e, sd_even _ hs (by omega)]
      exact run_part (fun x hx => hw x (List.mem_cons_of_mem _ hx)) (fun x hx => hv x (List.mem_cons_of_mem _ hx)) hm hs.up
    · rw [if_neg hcd] at h
      cases h
      have e : ((3 : Nat) : Int) = 2 * 1 + 1 := rfl
      rw [pushW_cons, pushW_cons, e, sd_odd _ hs (by decide), sd_odd _ hs (by decide)]
      have oL : ∀ u : List Nat, pushW (A ++ ((k + 1, 1) :: (k, 1) :: B)) u = A ++ ((k + 1, 1) :: (k, 1) :: B) := sd_one hs.right
      have oR : ∀ u : List Nat, pushW (A ++ ((k, 1) :: (k + 1, 1) :: B)) u = A ++ ((k, 1) :: (k + 1, 1) :: B) := fun u => by
        have := sd_one hs.left u
        simpa using this
      have hne : A ++ (((k + 1, 1) : Run) :: (k, 1) :: B) ≠ A ++ ((k, 1) :: (k + 1, 1) :: B) := fun he => by
        have := List.append_cancel_left he
        simp at this
        omega
      rcases hw c List.mem_cons_self with rfl | rfl <;> rcases hv d List.mem_cons_self with rfl | rfl
      · exact absurd rfl hcd
      · rw [if_pos (by decide), if_neg (by decide), oL, oR]
        exact hne
      · rw [if_neg (by decide), if_pos (by decide), oL, oR]
        exact hne.symm
      · exact absurd rfl hcd
theorem part_none : ∀ {w v : List Nat}, partN w v = none ↔ w = v
  | [], [] => ⟨fun _ => rfl, fun _ => rfl⟩
  | [], x :: v => ⟨(fun h => by cases h), (fun h => by cases h)⟩
  | x :: w, [] => ⟨(fun h => by cases h), (fun h => by cases h)⟩
  | c :: w, d :: v => by
    unfold partN
    by_cases h : c = d
    · subst h
      rw [if_pos rfl, Option.map_eq_none_iff, part_none]
      simp
    · rw [if_neg h]
      simp [h]
theorem part_comm : ∀ w v : List Nat, partN w v = partN v w
  | [], [] => rfl
  | [], _ :: _ => rfl
  | _ :: _, [] => rfl
  | c :: w, d :: v => by
    unfold partN
    by_cases h : c = d
    · rw [if_pos h, if_pos h.symm, part_comm w v]
    · rw [if_neg h, if_neg (fun z => h z.symm)]
theorem part_lt : ∀ {w v : List Nat} {n : Nat}, partN w v = some n → n < 2 ^ (w.length + 2)
  | [], [], _, h => by cases h
  | [], x :: v, n, h => by cases h; decide
  | x :: w, [], n, h => by
    cases h
    have : 2 ^ 2 ≤ 2 ^ ((x :: w).length + 2) := Nat.pow_le_pow_right (by decide) (by omega)
    omega
  | c :: w, d :: v, n, h => by
    rw [List.length_cons, show w.length + 1 + 2 = (w.length + 2) + 1 by omega, Nat.pow_succ]
    unfold partN at h
    split at h
    · rw [Option.map_eq_some_iff] at h
      obtain ⟨m, hm, rfl⟩ := h
      have := part_lt hm
      omega
    · cases h
      have : 2 ^ 2 ≤ 2 ^ (w.length + 2) := Nat.pow_le_pow_right (by decide) (by omega)
      omega
theorem part_app : ∀ (p w v : List Nat), partN (p ++ w) (p ++ v) = (partN w v).map (2 ^ p.length * ·)
  | [], w, v => by simp
  | c :: p, w, v => by
    rw [List.cons_append, List.cons_append, partN, if_pos rfl, part_app p w v, Option.map_map, List.length_cons, Nat.pow_succ]
    congr 1
    funext m
    show 2 * (2 ^ p.length * m) = _
    rw [← Nat.mul_assoc, Nat.mul_comm 2 (2 ^ p.length)]

theorem at_shl (n : Nat) (a : Int) : a * 2 ^ (Int.toNat (n : Int)) = a * 2 ^ n := by rw [Int.toNat_natCast]
theorem zip_tx (w v : List Nat) : zipD (strChars (tx w)) (strChars (tx v)) = (w.zip v).map fun p => PyData.tuple [.str ⟨#[p.1]⟩, .str ⟨#[p.2]⟩] := by
  rw [tx_ch, tx_ch]
  induction w generalizing v with
  | nil => cases v <;> rfl
  | cons c w ih =>
    cases v with
    | nil => rfl
    | cons d v =>
      rw [List.map_cons, List.map_cons, zipD, ih]
      rfl
theorem eqv_tx24 (a b : List Nat) : PyData.eqv (.str (tx a)) (.str (tx b)) = decide (a = b) := by
  have : PyData.eqv (.str (tx a)) (.str (tx b)) = decide (tx a = tx b) := by
    simp only [PyData.eqv]
    by_cases h : tx a = tx b <;> simp [h]
  rw [this]
  refine decide_eq_decide.mpr ⟨fun h => ?_, fun h => by rw [h]⟩
  have := congrArg (fun s : Str => s.cps.toList) h
  simpa [tx] using this
theorem p_parting_number : ∀ args Q E, s_parting_number args Q E → runB G i_parting_number 5 [true, true] args Q E := by
  rintro args Q E ⟨w, v, ha, hw, hv, hwl, hvl, hq⟩
  obtain ⟨r0, r1, rfl, h0, h1⟩ := args2 ha
  obtain rfl := rs_d h0 (by simp [tyOf])
  obtain rfl := rs_d h1 (by simp [tyOf])
  have e : sizeLine = 16777216 := rfl
  unfold runB i_parting_number
  walk_at "z"
  refine callK_pure rfl rfl ⟨tx w, rfl, tx_sides hw, by rw [tx_len]; omega, ?_⟩
  walk_at "z"
  refine callK_pure rfl rfl ⟨tx v, rfl, tx_sides hv, by rw [tx_len]; omega, ?_⟩
  walk_at "z"
  rw [eqv_tx24]
  by_cases hwv : w = v
  · subst hwv
    rw [decide_eq_true rfl]
    walk_at "z"
    have h := part_none.mpr (rfl : w = w)
    rw [h] at hq
    exact hq
  rw [decide_eq_false hwv]
  walk_at "z"
  rw [zip_tx]
  refine ⟨rfl, ?_⟩
  refine forL_inv (fun rest ρ => ∃ (p w' v' : List Nat) (s2 s3 s4 : Sl), p ++ w' = w ∧ p ++ v' = v ∧ rest = enumD ((w'.zip v').map fun p => PyData.tuple [.str ⟨#[p.1]⟩, .str ⟨#[p.2]⟩]) p.length ∧ ρ = [.d (.str (tx w)), .d (.str (tx v)), s2, s3, s4]) ?_ ?_ _ _ ⟨[], w, v, .no, .no, .no, rfl, rfl, rfl, rfl⟩
  · rintro x r ρ ⟨p, w', v', s2, s3, s4, rfl, rfl, hr, rfl⟩
    cases w' with
    | nil => cases hr
    | cons c w' =>
      cases v' with
      | nil => cases hr
      | cons d v' =>
        rw [List.zip_cons_cons, List.map_cons, enumD, List.cons.injEq] at hr
        obtain ⟨rfl, rfl⟩ := hr
        refine ⟨_, rfl, fun K hK => ?_⟩
        unfold i_parting_number_b1
        walk_at "z"
        have ec : PyData.eqv (.str ⟨#[c]⟩) (.str ⟨#[d]⟩) = decide (c = d) := by
          have h := eqv_tx24 [c] [d]
          have h2 : decide ([c] = [d]) = decide (c = d) := decide_eq_decide.mpr (by simp)
          rw [h2] at h
          exact h
        rw [ec]
        have hb : (Builtin.Int.intBits 3 : Int) ≤ 100 := by decide +kernel
        rw [part_app, partN] at hq
        by_cases hcd : c = d
        · subst hcd
          refine if_B (by simp) ?_
          exact hK _ trivial ⟨p ++ [c], w', v', _, _, _, by simp, by simp, by simp, rfl⟩
        · refine if_T (by simp [hcd]) ?_
          rw [if_neg hcd] at hq
          refine ⟨by omega, ?_, ?_⟩
          · rw [List.length_append] at hwl
            omega
          · rw [Int.toNat_natCast]
            have en : (((2 ^ p.length * 3 : Nat) : Nat) : Int) = 3 * 2 ^ p.length := by
              rw [Int.natCast_mul, Int.mul_comm]
              simp
            rw [← en]
            exact hq
  · rintro ρ ⟨p, w', v', s2, s3, s4, rfl, rfl, hr, rfl⟩
    walk_at "z"
    have hb : (Builtin.Int.intBits 1 : Int) ≤ 100 := by decide +kernel
    have hend : (w' = [] ∧ v' ≠ []) ∨ (w' ≠ [] ∧ v' = []) := by
      cases w' with
      | nil => exact .inl ⟨rfl, fun h => hwv (by rw [h])⟩
      | cons c w' =>
        cases v' with
        | nil => exact .inr ⟨by simp, rfl⟩
        | cons d v' => cases hr
    rw [tx_len, tx_len]
    have hlen : (if ((p ++ v').length : Int) < ((p ++ w').length : Int) then ((p ++ v').length : Int) else ((p ++ w').length : Int)) = p.length := by
      rcases hend with ⟨rfl, h⟩ | ⟨h, rfl⟩
      · rw [List.append_nil, List.length_append, if_neg (by omega)]
      · rw [List.append_nil, List.length_append]
        have : 0 < w'.length := List.length_pos_iff.mpr h
        rw [if_pos (by omega)]
    rw [hlen]
    have hpl : p.length ≤ 300 := by
      rw [List.length_append] at hwl
      omega
    refine ⟨by omega, by omega, by omega, by omega, ?_⟩
    have hp2 : partN w' v' = some 2 := by
      rcases hend with ⟨rfl, h⟩ | ⟨h, rfl⟩
      · cases v' with
        | nil => exact absurd rfl h
        | cons _ _ => rfl
      · cases w' with
        | nil => exact absurd rfl h
        | cons _ _ => rfl
    rw [part_app, hp2] at hq
    have en : (((2 ^ p.length * 2 : Nat) : Nat) : Int) = 1 * 2 ^ ((p.length : Int) + 1).toNat := by
      have e1 : ((p.length : Int) + 1).toNat = p.length + 1 := by omega
      rw [e1, ← Nat.pow_succ]
      simp
    rw [← en]
    exact hq
/-! ### runs of many tiles -/
structure Bt (rs : List Run) : Prop where
  ct : ∀ r ∈ rs, 1 ≤ r.2
  bt : bits rs ≤ 210
theorem Bt.after {rs : List Run} (l : Bool) (h : Bt rs) : Bt (afterR l rs) := ⟨(after_jok l rs).ct, Nat.le_trans (bits_after l fun r hr => by have := h.ct r hr; omega) h.bt⟩
theorem Bt.push {rs : List Run} (h : Bt rs) : ∀ w, Bt (pushW rs w)
  | [] => h
  | c :: w => Bt.push (h.after (isL c)) w
theorem bits_ge : ∀ {rs : List Run} {r : Run}, r ∈ rs → nb r.2.toNat ≤ bits rs
  | x :: rs, r, h => by
    rw [bits_cons]
    rcases List.mem_cons.mp h with rfl | h
    · omega
    · have := bits_ge h
      omega
theorem Bt.lt {rs : List Run} (h : Bt rs) : ∀ r ∈ rs, 0 ≤ r.2 ∧ r.2 < 2 ^ 210 := fun r hr => by
  have h1 := h.ct r hr
  have h2 := nb_le.mp (Nat.le_trans (bits_ge hr) h.bt)
  have h3 : ((2 ^ 210 : Nat) : Int) = 2 ^ 210 := by simp
  omega
theorem Bt.len {rs : List Run} (h : Bt rs) : rs.length ≤ 1000 := by
  have h1 := len_bits h.ct
  have h2 := h.bt
  omega
theorem bt_one {n : Nat} (h0 : 1 ≤ n) (h : n < 2 ^ 210) : Bt [(0, (n : Int))] := ⟨fun r hr => by
  rw [List.mem_singleton.mp hr]
  dsimp only
  omega, by
  rw [bits_cons, bits_nil]
  dsimp only
  rw [Int.toNat_natCast]
  exact nb_le.mpr h⟩
theorem p_run : ∀ args Q E, s_run args Q E → runB G i_run 3 [false, true] args Q E := by
  rintro args Q E ⟨n, w, ha, hn0, hn, hw, hwl, hq⟩
  obtain ⟨r0, r1, rfl, h0, h1⟩ := args2 ha
  obtain rfl := rs_d h1 (by simp [tyOf])
  have e : sizeLine = 16777216 := rfl
  have hbt := bt_one hn0 hn
  have h0 : r0.data = .list (([(0, (n : Int))] : List Run).map encR) := h0
  generalize hrs : ([(0, (n : Int))] : List Run) = rs at *
  unfold runB i_run
  walk_at "z"
  rw [tx_ch]
  refine ⟨rfl, ?_⟩
  refine forL_inv (fun rest ρ => ∃ (done todo : List Nat) (r : Rs) (s2 : Sl), done ++ todo = w ∧ rest = todo.map (fun c : Nat => PyData.str ⟨#[c]⟩) ∧ r.data = .list ((pushW rs done).map encR) ∧ ρ = [r.sl, .d (.str (tx w)), s2]) ?_ ?_ _ _ ⟨[], w, r0, .no, rfl, rfl, h0, rfl⟩
  · rintro x r ρ ⟨done, todo, r1, s2, hd, hrest, hr1, rfl⟩
    cases todo with
    | nil => cases hrest
    | cons c todo =>
      cases hrest
      have h1 := hbt.push done
      refine ⟨_, rfl, fun K hK => ?_⟩
      unfold i_run_b1
      walk_at "z"
      refine callK_r hr1 rfl rfl rfl rfl ⟨pushW rs done, c, rfl, h1.len, hw c (by rw [← hd]; simp), h1.lt, ?_⟩
      walk_at "z"
      exact hK _ ⟨rfl, trivial⟩ ⟨done ++ [c], todo, .o _, _, by simp [← hd], rfl, by rw [pushW_app]; rfl, rfl⟩
  · rintro ρ ⟨done, todo, r1, s2, hd, hrest, hr1, rfl⟩
    cases todo with
    | cons p todo => cases hrest
    | nil =>
      rw [List.append_nil] at hd
      subst hd
      walk_at "z"
      cases r1 with
      | d y =>
        obtain rfl : y = _ := hr1
        exact hq
      | o ys =>
        have : PyData.list ys = _ := hr1
        cases this
        exact hq
      | t ys => cases hr1

/-! ### whole lists of pushes, tile by tile -/
def stepW (ns : List Int) (w : List Nat) : List Int := w.foldl (fun l c => stepI (isL c) l) ns
theorem stepW_app (ns : List Int) (a b : List Nat) : stepW ns (a ++ b) = stepW (stepW ns a) b := List.foldl_append ..
theorem stepW_cons (ns : List Int) (c : Nat) (w : List Nat) : stepW ns (c :: w) = stepW (stepI (isL c) ns) w := rfl
theorem pushW_stepW : ∀ (w : List Nat) (ns : List Int), pushW (runsOf ns) w = runsOf (stepW ns w)
  | [], _ => rfl
  | c :: w, ns => by
    show pushW (afterR (isL c) (runsOf ns)) w = _
    rw [← runsOf_step, pushW_stepW w]
    rfl
theorem expand_pushW (w : List Nat) (ns : List Int) : expand (pushW (runsOf ns) w) = stepW ns w := by rw [pushW_stepW, expand_runsOf]
theorem stepW_len : ∀ (w : List Nat) (ns : List Int), (stepW ns w).length ≤ ns.length
  | [], _ => Nat.le_refl _
  | c :: w, ns => Nat.le_trans (stepW_len w _) (stepI_len (isL c) ns)
theorem runs_rep (k : Int) {n : Nat} (h : 1 ≤ n) : runsOf (List.replicate n k) = [(k, (n : Int))] := by
  have h1 := canon (rs := [(k, (n : Int))]) (fun r hr => by rw [List.mem_singleton.mp hr]; dsimp only; omega) trivial
  have h2 : expand [(k, (n : Int))] = List.replicate n k := by
    rw [expand_cons, expand_nil, List.append_nil, Int.toNat_natCast]
  rw [h2] at h1
  exact h1

theorem rep_iff {n : Nat} (h : 1 ≤ n) (w v : List Nat) : stepW (List.replicate n 0) w = stepW (List.replicate n 0) v ↔ pushW [(0, (n : Int))] w = pushW [(0, (n : Int))] v := by
  have h1 := runs_rep 0 h
  rw [← h1]
  refine ⟨fun e => by rw [pushW_stepW, pushW_stepW, e], fun e => ?_⟩
  have := congrArg expand e
  rwa [expand_pushW, expand_pushW] at this
theorem tried_is {w v : List Nat} {j : Nat} (hw : isW w) (hv : isW v) (hj : 1 ≤ j) (hlow : ∀ n, 1 ≤ n → n < j → stepW (List.replicate n 0) w = stepW (List.replicate n 0) v) (hne : stepW (List.replicate j 0) w ≠ stepW (List.replicate j 0) v) : partN w v = some j := by
  cases hp : partN w v with
  | none =>
    rw [part_none] at hp
    subst hp
    exact absurd rfl hne
  | some n =>
    have h2 := part_ge hp
    rcases Nat.lt_trichotomy j n with h | h | h
    · exact absurd ((rep_iff hj w v).mpr (run_less (A := []) (B := []) hp (by omega) (by omega) (sd_nil 0))) hne
    · rw [h]
    · exact absurd ((rep_iff (by omega) w v).mp (hlow n (by omega) h)) (run_part (A := []) (B := []) hw hv hp (sd_nil 0))
theorem tried_none {w v : List Nat} (hw : isW w) (hv : isW v) (hwl : w.length ≤ 5) (hlow : ∀ n, 1 ≤ n → n < 200 → stepW (List.replicate n 0) w = stepW (List.replicate n 0) v) : partN w v = none := by
  cases hp : partN w v with
  | none => rfl
  | some n =>
    exfalso
    have h2 := part_ge hp
    have h3 := part_lt hp
    have h4 : 2 ^ (w.length + 2) ≤ 2 ^ 7 := Nat.pow_le_pow_right (by decide) (by omega)
    exact run_part (A := []) (B := []) hw hv hp (sd_nil 0) ((rep_iff (by omega) w v).mp (hlow n (by omega) (by omega)))
theorem flat_one (n : Nat) (x : PyData) : (List.replicate n [x]).flatten = List.replicate n x := by
  induction n with
  | zero => rfl
  | succ n ih => rw [List.replicate_succ, List.flatten_cons, ih, List.replicate_succ]; rfl
theorem p_tried : ∀ args Q E, s_tried args Q E → runB G i_tried 6 [true, true] args Q E := by
  rintro args Q E ⟨w, v, ha, hw, hv, hwl, hvl, hq⟩
  obtain ⟨r0, r1, rfl, h0, h1⟩ := args2 ha
  obtain rfl := rs_d h0 (by simp [tyOf])
  obtain rfl := rs_d h1 (by simp [tyOf])
  have e : sizeLine = 16777216 := rfl
  unfold runB i_tried
  walk_at "z"
  refine ⟨by decide, by decide, by decide, by decide, rfl, ?_⟩
  refine forL_inv (fun rest ρ => ∃ (j m : Nat) (s2 s3 s4 s5 : Sl), rest = rangeD (j : Int) m ∧ j + m = 200 ∧ 1 ≤ j ∧ (∀ n, 1 ≤ n → n < j → stepW (List.replicate n 0) w = stepW (List.replicate n 0) v) ∧ ρ = [.d (.str (tx w)), .d (.str (tx v)), s2, s3, s4, s5]) ?_ ?_ _ _ ⟨1, 199, .no, .no, .no, .no, rfl, rfl, by decide, fun n h1 h2 => by omega, rfl⟩
  · rintro x r ρ ⟨j, m, s2, s3, s4, s5, hr, hjm, hj, hlow, rfl⟩
    obtain ⟨m, rfl, rfl, rfl⟩ := rangeD_cons hr
    refine ⟨_, rfl, fun K hK => ?_⟩
    unfold i_tried_b3
    walk_at "z"
    rw [tx_ch]
    rw [Int.toNat_natCast, flat_one, show List.replicate j (PyData.int 0) = (List.replicate j (0 : Int)).map .int from by rw [List.map_replicate]]
    refine ⟨by decide, by omega, by omega, by omega, by decide, by omega, by omega, by omega, rfl, ?_⟩
    refine forL_inv (fun rest ρ => ∃ (done todo : List Nat) (r : Rs) (s3 : Sl), done ++ todo = w ∧ rest = todo.map (fun c : Nat => PyData.str ⟨#[c]⟩) ∧ r.data = .list ((stepW (List.replicate j 0) done).map .int) ∧ ρ = [.d (.str (tx w)), .d (.str (tx v)), .d (.int j), s3, r.sl, .o ((List.replicate j (0 : Int)).map .int)]) ?_ ?_ _ _ ⟨[], w, .o _, s3, rfl, rfl, rfl, rfl⟩
    · rintro x r ρ ⟨done, todo, r4, s3, hd, hrest, hr4, rfl⟩
      cases todo with
      | nil => cases hrest
      | cons c todo =>
        cases hrest
        have h1 := stepW_len done (List.replicate j 0)
        rw [List.length_replicate] at h1
        refine ⟨_, rfl, fun K2 hK2 => ?_⟩
        unfold i_tried_b2
        walk_at "z"
        refine callK_any hr4 rfl rfl rfl rfl ⟨stepW (List.replicate j 0) done, c, rfl, by omega, hw c (by rw [← hd]; simp), ?_⟩
        walk_at "z"
        exact hK2 _ ⟨rfl, trivial⟩ ⟨done ++ [c], todo, .d _, _, by simp [← hd], rfl, by rw [stepW_app]; rfl, rfl⟩
    · rintro ρ ⟨done, todo, r4, s3, hd, hrest, hr4, rfl⟩
      cases todo with
      | cons p todo => cases hrest
      | nil =>
        rw [List.append_nil] at hd
        subst hd
        walk_at "z"
        rw [tx_ch]
        refine ⟨rfl, ?_⟩
        refine forL_inv (fun rest ρ => ∃ (don2 todo : List Nat) (r : Rs) (s3 : Sl), don2 ++ todo = v ∧ rest = todo.map (fun c : Nat => PyData.str ⟨#[c]⟩) ∧ r.data = .list ((stepW (List.replicate j 0) don2).map .int) ∧ ρ = [.d (.str (tx done)), .d (.str (tx v)), .d (.int j), s3, r4.sl, r.sl]) ?_ ?_ _ _ ⟨[], v, .o _, s3, rfl, rfl, rfl, rfl⟩
        · rintro x r ρ ⟨don2, todo, r5, s3, hd, hrest, hr5, rfl⟩
          cases todo with
          | nil => cases hrest
          | cons c todo =>
            cases hrest
            have h1 := stepW_len don2 (List.replicate j 0)
            rw [List.length_replicate] at h1
            refine ⟨_, rfl, fun K2 hK2 => ?_⟩
            unfold i_tried_b1
            walk_at "z"
            refine callK_any hr5 rfl rfl rfl rfl ⟨stepW (List.replicate j 0) don2, c, rfl, by omega, hv c (by rw [← hd]; simp), ?_⟩
            walk_at "z"
            exact hK2 _ ⟨rfl, trivial⟩ ⟨don2 ++ [c], todo, .d _, _, by simp [← hd], rfl, by rw [stepW_app]; rfl, rfl⟩
        · rintro ρ ⟨don2, todo, r5, s3, hd, hrest, hr5, rfl⟩
          cases todo with
          | cons p todo => cases hrest
          | nil =>
            rw [List.append_nil] at hd
            subst hd
            walk_at "z"
            rw [hr4, hr5]
            walk_at "z"
            rw [eqv_ints]
            refine ⟨shp_intsP _, shp_intsP _, ?_⟩
            by_cases hs : stepW (List.replicate j 0) done = stepW (List.replicate j 0) don2
            · refine if_B (by simp [hs]) ?_
              exact hK _ trivial ⟨j + 1, m, _, _, _, _, by simp, by omega, by omega, fun n h1 h2 => by
                rcases Nat.lt_or_ge n j with h3 | h3
                · exact hlow n h1 h3
                · obtain rfl : n = j := by omega
                  exact hs, rfl⟩
            · refine if_T (by simp [hs]) ?_
              rw [tried_is hw hv hj hlow hs] at hq
              exact hq
  · rintro ρ ⟨j, m, s2, s3, s4, s5, hr, hjm, hj, hlow, rfl⟩
    have hm := rangeD_nil hr
    subst hm
    walk_at "z"
    rw [tried_none hw hv hwl fun n h1 h2 => hlow n h1 (by omega)] at hq
    exact hq

theorem tx_of (z : Str) : z = tx z.cps.toList := by
  obtain ⟨z⟩ := z
  simp [tx]
theorem isW_of {z : Str} (h : Sides z) : isW z.cps.toList := h
theorem len_of (z : Str) : z.cps.toList.length = z.length := by
  obtain ⟨z⟩ := z
  simp [Str.length]
theorem sd_cut {z : Str} (lo hi : Option Int) (h : Sides z) : Sides (L2.cutS z lo hi) := fun c hc => h c (by
  unfold L2.cutS at hc
  exact List.mem_of_mem_drop (List.mem_of_mem_take (by simpa using hc)))
theorem sd_app {a b : Str} (ha : Sides a) (hb : Sides b) : Sides (a ++ b) := fun c hc => by
  rw [tx_of a, tx_of b, tx_app] at hc
  exact isW_app (isW_of ha) (isW_of hb) c (by simpa [tx] using hc)
theorem len_app (a b : Str) : (a ++ b).length = a.length + b.length := by
  rw [tx_of a, tx_of b, tx_app, tx_len, tx_len, tx_len, List.length_append]
theorem p_near : ∀ args Q E, s_near args Q E → runB G i_near 7 [true, true] args Q E := by
  rintro args Q E ⟨t, xs, w, rfl, hb, ht, hw, hwl, hq⟩
  have e : sizeLine = 16777216 := rfl
  unfold runB i_near
  walk_at "z"
  rw [tx_len]
  refine ⟨by omega, ?_⟩
  refine scoop_v rfl hb (by omega) (by omega) (by omega) fun a xs1 a0 a1 hb1 => ?_
  walk_at "z"
  refine scoop_v rfl hb1 (by omega) (by decide) (by decide) fun y xs2 y0 y1 hb2 => ?_
  walk_at "z"
  have hcs := sd_cut (some a) (some (a + 1)) (tx_sides hw)
  have hcl := L2.cutS_length (tx w) (some a) (some (a + 1))
  rw [tx_len] at hcl
  refine ⟨⟨_, rfl, rfl⟩, by rw [tx_len]; omega, ?_⟩
  rw [tx_of (L2.cutS (tx w) (some a) (some (a + 1)))]
  generalize hu : (L2.cutS (tx w) (some a) (some (a + 1))).cps.toList = u
  have hul : u.length ≤ w.length := by rw [← hu, len_of]; exact hcl
  have huw : isW u := by rw [← hu]; exact isW_of hcs
  rw [tx_ch]
  refine compL_mapE (fun c : Nat => PyData.str ⟨#[c]⟩) (fun c => .str ⟨#[if c = 76 then 82 else 76]⟩) ?lk u [] (fun c hc => ?_) (by show 0 + _ ≤ _; omega) ?_
  case lk => trivial
  · refine ⟨_, rfl, fun K hK => ?_⟩
    unfold i_near_e1
    walk_at "v"
    rw [isL_eqv]
    refine ⟨by decide, ?_⟩
    rcases huw c hc with rfl | rfl
    · exact ⟨_, rfl, hK _ _ rfl rfl⟩
    · exact ⟨_, rfl, hK _ _ rfl rfl⟩
  have h0 : (Str.ofString "").length = 0 := by decide +kernel
  have hfl := flip_len u
  walk_at "z"
  refine ⟨(flipW u).map fun c => (⟨#[c]⟩ : Str), ?_, ?_, ?_⟩
  · unfold flipW
    rw [List.map_map, List.map_map]
    rfl
  · rw [h0, sum_ones]
    omega
  rw [join_tx]
  walk_at "z"
  have hn1 := sd_cut none (some a) (tx_sides hw)
  have hn2 := sd_cut (some (a + 1)) none (tx_sides hw)
  have k1 := L2.cutS_length (tx w) none (some a)
  have k2 := L2.cutS_length (tx w) (some (a + 1)) none
  rw [tx_len] at k1 k2
  obtain ⟨d, hd, hd2⟩ := at_LR (a % 2) (by omega) (by omega)
  have htd : (⟨#[d]⟩ : Str) = tx [d] := rfl
  have hsd : Sides (tx [d]) := tx_sides fun c hc => by rw [List.mem_singleton.mp hc]; exact hd2
  have hld : (tx [d]).length = 1 := rfl
  rw [len_app, tx_len, tx_len]
  refine ⟨by omega, by omega, by omega, by omega, by omega, by decide, by decide +kernel, d, hd, ?_⟩
  rw [htd]
  walk_at "z"
  rw [tx_len, hld]
  refine ⟨by omega, by omega, ?_⟩
  refine list_v rfl hb2 (by omega) (by decide) (by decide) fun v1 xs3 hv1 hvl1 hb3 => ?_
  walk_at "z"
  rw [tx_len]
  refine ⟨by omega, by decide, ?_⟩
  refine list_v rfl hb3 (by omega) (by decide) (by decide) fun v2 xs4 hv2 hvl2 hb4 => ?_
  walk_at "z"
  generalize L2.cutS (tx w) none (some a) = s1 at hn1 k1 ⊢
  generalize L2.cutS (tx w) (some (a + 1)) none = s2 at hn2 k2 ⊢
  have hfs : Sides (tx (flipW u)) := tx_sides (isW_flip u)
  have hz : ∃ z : Str, L2.atI [PyData.str (s1 ++ tx (flipW u) ++ s2), .str s1, .str (tx w ++ tx [d]), .str (s1 ++ tx v1), .str (tx v2)] y = some (.str z) ∧ Sides z ∧ z.length ≤ 1000 := by
    have : y = 0 ∨ y = 1 ∨ y = 2 ∨ y = 3 ∨ y = 4 := by omega
    rcases this with rfl | rfl | rfl | rfl | rfl
    · exact ⟨_, rfl, sd_app (sd_app hn1 hfs) hn2, by rw [len_app, len_app, tx_len]; omega⟩
    · exact ⟨_, rfl, hn1, by omega⟩
    · exact ⟨_, rfl, sd_app (tx_sides hw) hsd, by rw [len_app, tx_len, hld]; omega⟩
    · exact ⟨_, rfl, sd_app hn1 (tx_sides hv1), by rw [len_app, tx_len]; omega⟩
    · exact ⟨_, rfl, tx_sides hv2, by rw [tx_len]; omega⟩
  obtain ⟨z, hz, hz1, hz2⟩ := hz
  refine ⟨by decide, by decide, _, hz, ?_⟩
  walk_at "z"
  refine ⟨by omega, ?_⟩
  have hc1 := sd_cut none (some 200) hz1
  have hc2 : (L2.cutS z none (some 200)).length ≤ 200 := by
    unfold L2.cutS
    rw [← len_of]
    simp only [List.toList_toArray, List.length_take]
    have h1 : HT.sIx z.length z.length (some 200) = min 200 z.length := HT.sIx_nat z.length z.length 200
    omega
  rw [tx_of (L2.cutS z none (some 200))]
  exact hq _ xs4 (isW_of hc1) (by rw [len_of]; exact hc2) (hb4.mono (by omega))
theorem near_v {s0 s1 s2 s3 s5 s7 : Sl} {xs : List PyData} {w : List Nat} {t : Int} {Q : KQ} {E : KX} (hb : Barrel t xs) (ht : t < 2 ^ 49) (hw : isW w) (hl : w.length ≤ 205) (hq : ∀ v xs', isW v → v.length ≤ 200 → Barrel (t + 100000) xs' → Q (.d (.str (tx v))) [s0, s1, s2, s3, .o xs', s5, .d (.str (tx w)), s7]) :
    callK [true, true] s_near [.s 4, .s 6] [s0, s1, s2, s3, .o xs, s5, .d (.str (tx w)), s7] Q E := by
  have e : passArgs [true, true] [.s 4, .s 6] [s0, s1, s2, s3, .o xs, s5, .d (.str (tx w)), s7] = some ([(.o xs, some 4), (.d (.str (tx w)), none)], [s0, s1, s2, s3, .no, s5, .d (.str (tx w)), s7]) := rfl
  unfold callK
  rw [e]
  exact ⟨t, xs, w, rfl, hb, ht, hw, hl, fun v xs' h1 h2 hb' => hq v xs' h1 h2 hb'⟩
theorem scoop_c {s1 s2 s4 : Sl} {xs : List PyData} {t m : Int} {Q : KQ} {E : KX} (hb : Barrel t xs) (ht : t < 2 ^ 60) (hm0 : 0 < m) (hm : m < 2 ^ 210) (hq : ∀ x xs', 0 ≤ x → x < m → Barrel (t + 1) xs' → Q (.d (.int x)) [.o xs', s1, s2, .d (.int m), s4]) :
    callK [true, true] s_scoop [.s 0, .s 3] [.o xs, s1, s2, .d (.int m), s4] Q E := by
  have e : passArgs [true, true] [.s 0, .s 3] [.o xs, s1, s2, .d (.int m), s4] = some ([(.o xs, some 0), (.d (.int m), none)], [.no, s1, s2, .d (.int m), s4]) := rfl
  unfold callK
  rw [e]
  exact ⟨t, xs, m, rfl, hb, ht, hm0, hm, fun x xs' h0 h1 hb' => hq x xs' h0 h1 hb'⟩
theorem p_long_right : ∀ args Q E, s_long_right args Q E → runB G i_long_right 5 [true, true, true] args Q E := by
  rintro args Q E ⟨t, xs, w, v, rfl, hb, ht, hw, hv, hwl, hvl, hq⟩
  have e : sizeLine = 16777216 := rfl
  unfold runB i_long_right
  walk_at "z"
  refine callK_pure rfl rfl ⟨w, v, rfl, hw, hv, by omega, by omega, ?_⟩
  walk_at "z"
  refine callK_pure rfl rfl ⟨w, v, rfl, hw, hv, by omega, by omega, ?_⟩
  walk_at "z"
  refine callK_pure rfl rfl ⟨v, w, rfl, hv, hw, by omega, by omega, ?_⟩
  rw [part_comm v w]
  have hgd : Gd 0 0 (optN (partN w v)) := by
    cases hp : partN w v with
    | none => exact Gd.none
    | some n =>
      have h1 := part_lt hp
      have h2 : 2 ^ (w.length + 2) ≤ 2 ^ 207 := Nat.pow_le_pow_right (by decide) (by omega)
      exact Gd.int0 (by omega) (by
        have : ((n : Nat) : Int) < ((2 ^ 207 : Nat) : Int) := by omega
        exact Int.lt_of_lt_of_le this (by decide))
  have g2 : Gd 2 1 (.list [optN (partN w v), optN (partN w v)]) := (GdAll.cons hgd (GdAll.cons hgd GdAll.nil)).list
  walk_at "z"
  refine ⟨by decide, g2.rc (by decide) (by decide) ⟨by decide, g2.rc (by decide) (by decide) (if_B (neqv_str _) ?_)⟩⟩
  rw [eqv_tx24]
  by_cases hwv : w = v
  · subst hwv
    refine if_T (by simp) ?_
    rw [part_none.mpr (rfl : w = w)]
    exact hq xs (hb.mono (by omega))
  refine if_B (by simp [hwv]) ?_
  cases hp : partN w v with
  | none => exact absurd (part_none.mp hp) hwv
  | some n =>
    have h1 := part_lt hp
    have h2 : 2 ^ (w.length + 2) ≤ 2 ^ 207 := Nat.pow_le_pow_right (by decide) (by omega)
    have h3 := part_ge hp
    have h4 : n < 2 ^ 210 := by omega
    have hne := run_part (A := []) (B := []) hw hv hp (sd_nil 0)
    replace hne : pushW [(0, (n : Int))] w ≠ pushW [(0, (n : Int))] v := hne
    have on : optN (some n) = .int (n : Nat) := rfl
    rw [on]
    walk_at "z"
    have hn1 : ¬ ((n : Nat) : Int) < 1 := by omega
    rw [if_neg hn1]
    refine ⟨by decide, by decide, ?_⟩
    refine callK_pure rfl rfl ⟨n, w, rfl, by omega, h4, hw, by omega, ?_⟩
    walk_at "z"
    refine ⟨by decide, by decide, ?_⟩
    refine callK_pure rfl rfl ⟨n, v, rfl, by omega, h4, hv, by omega, ?_⟩
    walk_at "z"
    rw [eqv_runs]
    refine ⟨shp_encRs _, shp_encRs _, if_B (by simp [hne]) ?_⟩
    have hn2 : ((n : Nat) : Int) < 2 ^ 210 := by
      have : ((2 ^ 210 : Nat) : Int) = 2 ^ 210 := by simp
      omega
    refine scoop_c hb (by omega) (by omega) hn2 fun x xs1 x0 x1 hb1 => ?_
    walk_at "z"
    refine scoop_c hb1 (by omega) (by omega) hn2 fun y xs2 y0 y1 hb2 => ?_
    walk_at "z"
    refine ⟨by decide, rfl, ?_⟩
    refine forL_inv (fun rest ρ => ∃ (us : List Int) (s4 : Sl), rest = us.map .int ∧ (∀ u ∈ us, u < n) ∧ ρ = [.o xs2, .d (.str (tx w)), .d (.str (tx v)), .d (.int (n : Nat)), s4]) ?_ ?_ _ _ ⟨[n - 1, n - 1 - x, y, 1], .no, rfl, fun u hu => ?_, rfl⟩
    · rintro z r ρ ⟨us, s4, hr, hus, rfl⟩
      cases us with
      | nil => cases hr
      | cons u us =>
        cases hr
        have hun := hus u List.mem_cons_self
        refine ⟨_, rfl, fun K hK => ?_⟩
        unfold i_long_right_b1
        have fin := fun s4 : Sl => hK [.o xs2, .d (.str (tx w)), .d (.str (tx v)), .d (.int (n : Nat)), .d (.int u)] trivial ⟨us, .d (.int u), rfl, fun z hz => hus z (List.mem_cons_of_mem _ hz), rfl⟩
        walk_at "z"
        by_cases hu0 : 0 < u
        · rw [if_pos hu0, if_pos hun]
          obtain ⟨m, rfl⟩ := Int.eq_ofNat_of_zero_le (show 0 ≤ u by omega)
          have hle : pushW [(0, (m : Int))] w = pushW [(0, (m : Int))] v := run_less (A := []) (B := []) hp (by omega) hun (sd_nil 0)
          refine ⟨by decide, by decide, ?_⟩
          refine callK_pure rfl rfl ⟨m, w, rfl, by omega, by omega, hw, by omega, ?_⟩
          walk_at "z"
          refine ⟨by decide, by decide, ?_⟩
          refine callK_pure rfl rfl ⟨m, v, rfl, by omega, by omega, hv, by omega, ?_⟩
          walk_at "z"
          rw [eqv_runs]
          exact ⟨shp_encRs _, shp_encRs _, if_B (by simp [hle]) (fin .no)⟩
        · rw [if_neg hu0]
          exact fin .no
    · rintro ρ ⟨us, s4, hr, hus, rfl⟩
      walk_at "z"
      exact hq xs2 (hb2.mono (by omega))
    · simp only [List.mem_cons, List.not_mem_nil, or_false] at hu
      omega

def ce0 : ExcT := ⟨fun _ => none, fun _ => none⟩
theorem long_v {s0 s1 s2 s3 s5 s7 : Sl} {xs : List PyData} {w v : List Nat} {t : Int} {Q : KQ} {E : KX} (hb : Barrel t xs) (ht : t < 2 ^ 50) (hw : isW w) (hv : isW v) (hl : w.length ≤ 205) (hl2 : v.length ≤ 205) (hq : ∀ xs', Barrel (t + 10) xs' → Q (.d (.bool true)) [s0, s1, s2, s3, .o xs', s5, .d (.str (tx w)), s7]) :
    callK [true, true, true] s_long_right [.s 4, .s 6, .v (.d (.str (tx v)))] [s0, s1, s2, s3, .o xs, s5, .d (.str (tx w)), s7] Q E := by
  have e : passArgs [true, true, true] [.s 4, .s 6, .v (.d (.str (tx v)))] [s0, s1, s2, s3, .o xs, s5, .d (.str (tx w)), s7] = some ([(.o xs, some 4), (.d (.str (tx w)), none), (.d (.str (tx v)), none)], [s0, s1, s2, s3, .no, s5, .d (.str (tx w)), s7]) := rfl
  unfold callK
  rw [e]
  exact ⟨t, xs, w, v, rfl, hb, ht, hw, hv, hl, hl2, fun xs' hb' => hq xs' hb'⟩
def KI (sc : PyData) (n : Nat) (rest : List PyData) (ρ : FE) : Prop := ∃ (j m : Nat) (s1 s3 s4 s5 s6 s7 : Sl), rest = rangeD (j : Int) m ∧ j + m = n ∧ ρ = [.d sc, s1, .no, s3, s4, s5, s6, s7]
def KtI (sc : PyData) (k : Nat) (rest : List PyData) (ρ : FE) : Prop := ∃ (j m : Nat) (xs : List PyData) (s3 s5 s6 s7 : Sl), rest = rangeD (j : Int) m ∧ j + m = 4 ∧ Barrel (200000 * j) xs ∧ ρ = [.d sc, .d (.int k), .no, s3, .o xs, s5, s6, s7]
theorem lp_intB (b : Bool) {k : Rs → Prop} : LP .int [.bool b] k = k (.d (.int (if b then 1 else 0))) := rfl
theorem small_eq : [PyData.str (Str.ofString ""), .str (Str.ofString "L"), .str (Str.ofString "R"), .str (Str.ofString "LL"), .str (Str.ofString "LR"), .str (Str.ofString "RL"), .str (Str.ofString "RR"), .str (Str.ofString "LLL"), .str (Str.ofString "LRL"), .str (Str.ofString "LLR")] =
    ([[], [76], [82], [76, 76], [76, 82], [82, 76], [82, 82], [76, 76, 76], [76, 82, 76], [76, 76, 82]] : List (List Nat)).map fun w => .str (tx w) := rfl
theorem shp_opt (o : Option Nat) : shp (optN o) (optN o) = true := by cases o <;> rfl
theorem eqv_opt (o : Option Nat) : (!PyData.eqv (optN o) (optN o)) = false := by
  cases o with
  | none => rfl
  | some n =>
    show (!PyData.eqv (.int (n : Nat)) (.int (n : Nat))) = false
    rw [eqv_intD]
    simp
def small : List (List Nat) := [[], [76], [82], [76, 76], [76, 82], [82, 76], [82, 82], [76, 76, 76], [76, 82, 76], [76, 76, 82]]
theorem small_ok : ∀ w ∈ small, isW w ∧ w.length ≤ 5 := by unfold small isW isS; decide
theorem law_true (ns : List Int) (hl : ns.length ≤ 63) (hbits : ∀ z ∈ ns, Builtin.Int.intBits z ≤ 1048576) : runB G i_law 8 [false] [.d (.dict (scrK ns))] (fun r _ => r = .d (.bool true)) (fun _ _ => False) := by
  have e : sizeLine = 16777216 := rfl
  unfold runB i_law
  walk_at "z"
  generalize hn : (if (if (ns.length : Int) < 4 then (ns.length : Int) else 4) > 1 then if (ns.length : Int) < 4 then (ns.length : Int) else 4 else 1) = n
  have hn2 : 0 ≤ n ∧ n ≤ 4 := by
    rw [← hn]
    split <;> (try split) <;> omega
  refine ⟨by omega, by omega, rfl, ?_⟩
  refine forL_inv (KI (.dict (scrK ns)) n.toNat) ?_ ?_ _ _ ⟨0, n.toNat, .no, .no, .no, .no, .no, .no, rfl, by omega, rfl⟩
  · rintro x r ρ ⟨j, m, s1, s3, s4, s5, s6, s7, hr, hjm, rfl⟩
    obtain ⟨m, rfl, rfl, rfl⟩ := rangeD_cons hr
    refine ⟨_, rfl, fun K hK => ?_⟩
    unfold i_law_b3
    walk_at "z"
    refine callK_pure rfl rfl ⟨ns, j, rfl, by omega, by omega, fun xs hb => ?_⟩
    walk_at "z"
    refine ⟨by decide, by decide, rfl, ?_⟩
    refine forL_inv (KtI (.dict (scrK ns)) j) ?_ ?_ _ _ ⟨0, 4, xs, s3, s5, s6, s7, rfl, rfl, hb, rfl⟩
    · rintro x r ρ ⟨u, q, xs2, t3, t5, t6, t7, hr2, huv, hb2, rfl⟩
      obtain ⟨q, rfl, rfl, rfl⟩ := rangeD_cons hr2
      refine ⟨_, rfl, fun K2 hK2 => ?_⟩
      unfold i_law_b2
      walk_at "z"
      rw [lp_intB]
      walk_at "z"
      obtain ⟨b, hb3, b0, b1⟩ : ∃ b : Int, L2.atI [PyData.int 200, PyData.int 70] (if 0 < (j : Int) then 1 else 0) = some (.int b) ∧ 0 ≤ b ∧ b ≤ 200 := by
        by_cases hj0 : 0 < (j : Int)
        · rw [if_pos hj0]
          exact ⟨70, rfl, by decide, by decide⟩
        · rw [if_neg hj0]
          exact ⟨200, rfl, by decide, by decide⟩
      refine ⟨by decide, _, hb3, ?_⟩
      walk_at "z"
      obtain ⟨a, ha, a0, a1⟩ : ∃ a : Int, L2.atI [PyData.int 12, PyData.int 50, PyData.int 9, PyData.int b] (u : Int) = some (.int a) ∧ 0 ≤ a ∧ a ≤ 200 := by
        have : u = 0 ∨ u = 1 ∨ u = 2 ∨ u = 3 := by omega
        rcases this with rfl | rfl | rfl | rfl
        · exact ⟨12, rfl, by decide, by decide⟩
        · exact ⟨50, rfl, by decide, by decide⟩
        · exact ⟨9, rfl, by decide, by decide⟩
        · exact ⟨b, rfl, b0, b1⟩
      refine ⟨by decide, _, ha, ?_⟩
      walk_at "z"
      refine list_v rfl hb2 (by omega) a0 (by omega) fun w xs3 hw hwl hb4 => ?_
      walk_at "z"
      refine near_v hb4 (by omega) hw (by omega) fun v xs4 hv hvl hb5 => ?_
      walk_at "z"
      refine long_v hb5 (by omega) hw hv (by omega) (by omega) fun xs5 hb6 => ?_
      walk_at "z"
      exact hK2 _ trivial ⟨u + 1, q, xs5, _, _, _, _, by simp, by omega, hb6.mono (by omega), rfl⟩
    · rintro ρ ⟨u, q, xs2, t3, t5, t6, t7, hr2, huv, hb2, rfl⟩
      walk_at "z"
      refine list_v rfl hb2 (by omega) (by decide) (by decide) fun w xs3 hw hwl hb3 => ?_
      walk_at "z"
      refine list_v rfl hb3 (by omega) (by decide) (by decide) fun v xs4 hv hvl hb4 => ?_
      walk_at "z"
      refine callK_pure rfl rfl ⟨w, v, rfl, hw, hv, by omega, by omega, ?_⟩
      walk_at "z"
      have hgd : Gd 0 0 (optN (partN w v)) := by
        cases hp : partN w v with
        | none => exact Gd.none
        | some n =>
          have h1 := part_lt hp
          have h2 : 2 ^ (w.length + 2) ≤ 2 ^ 207 := Nat.pow_le_pow_right (by decide) (by omega)
          exact Gd.int0 (by omega) (by
            have : ((n : Nat) : Int) < ((2 ^ 207 : Nat) : Int) := by omega
            exact Int.lt_of_lt_of_le this (by decide))
      refine hgd.rc (by decide) (by decide) ?_
      refine callK_pure rfl rfl ⟨w, v, rfl, hw, hv, by omega, by omega, ?_⟩
      walk_at "z"
      refine hgd.rc (by decide) (by decide) (if_B (neqv_str _) ?_)
      exact hK _ trivial ⟨j + 1, m, _, _, _, _, _, _, by simp, by omega, rfl⟩
  · rintro ρ ⟨j, m, s1, s3, s4, s5, s6, s7, hr, hjm, rfl⟩
    walk_at "z"
    rw [small_eq]
    refine ⟨by decide, rfl, ?_⟩
    refine forL_inv (fun rest ρ => ∃ (ws : List (List Nat)) (s1 s3 s4 s5 s6 s7 : Sl), (∀ w ∈ ws, w ∈ small) ∧ rest = ws.map (fun w => .str (tx w)) ∧ ρ = [.d (.dict (scrK ns)), s1, .o (small.map fun w => .str (tx w)), s3, s4, s5, s6, s7]) ?_ ?_ _ _ ⟨small, s1, s3, s4, s5, s6, s7, fun w h => h, rfl, rfl⟩
    · rintro x r ρ ⟨ws, s1, s3, s4, s5, s6, s7, hws, hr, rfl⟩
      cases ws with
      | nil => cases hr
      | cons w ws =>
        cases hr
        obtain ⟨hw, hwl⟩ := small_ok w (hws w List.mem_cons_self)
        refine ⟨_, rfl, fun K hK => ?_⟩
        unfold i_law_b1
        walk_at "z"
        refine compL_fmE (fun w => PyData.str (tx w)) (fun _ => none) ?lk small [] (fun v hv9 => ?_) (by decide) ?_
        case lk => exact ⟨rfl, trivial⟩
        · obtain ⟨hv, hvl⟩ := small_ok v hv9
          refine ⟨_, rfl, fun K2 hK2 => ?_⟩
          walk_at "z"
          split
          · refine callK_pure rfl rfl ⟨w, v, rfl, hw, hv, by omega, by omega, ?_⟩
            walk_at "z"
            refine callK_pure rfl rfl ⟨w, v, rfl, hw, hv, hwl, hvl, ?_⟩
            walk_at "z"
            exact ⟨shp_opt _, shp_opt _, if_B (eqv_opt _) hK2⟩
          · exact hK2
        walk_at "z"
        have hno : small.filterMap (fun _ => (none : Option PyData)) = [] := by decide
        rw [hno]
        exact ⟨by decide, by decide, if_B (by decide) (hK _ ⟨rfl, trivial⟩ ⟨ws, s1, _, s4, s5, s6, _, fun v hv => hws v (List.mem_cons_of_mem _ hv), rfl, rfl⟩)⟩
    · rintro ρ ⟨ws, s1, s3, s4, s5, s6, s7, hws, hr, rfl⟩
      walk_at "z"
      have e1 : Str.ofString "LLR" = tx [76, 76, 82] := rfl
      have e2 : Str.ofString "LRR" = tx [76, 82, 82] := rfl
      have e3 : Str.ofString "L" = tx [76] := rfl
      have e4 : Str.ofString "LR" = tx [76, 82] := rfl
      have e5 : Str.ofString "" = tx [] := rfl
      rw [e1, e2]
      refine callK_pure rfl rfl ⟨_, _, rfl, (by unfold isW isS; decide), (by unfold isW isS; decide), by decide, by decide, ?_⟩
      walk_at "z"
      rw [e3, e4]
      refine callK_pure rfl rfl ⟨_, _, rfl, (by unfold isW isS; decide), (by unfold isW isS; decide), by decide, by decide, ?_⟩
      walk_at "z"
      rw [e5]
      refine callK_pure rfl rfl ⟨_, _, rfl, (by unfold isW isS; decide), (by unfold isW isS; decide), by decide, by decide, ?_⟩
      have f1 : partN [76, 76, 82] [76, 82, 82] = some 6 := by decide
      have f2 : partN [76] [76, 82] = some 4 := by decide
      have f3 : partN [] [] = none := rfl
      rw [f1, f2, f3]
      walk_at "z"
      exact ⟨by decide, by decide, by decide, by decide, rfl⟩


end L24
set_option maxHeartbeats 4000000
open FX PySem PySem.Spec PyProof.Rows L2
namespace L24
def topS (i : Nat) : Stmt := PySem.Challenge.pw_tilepushes_k24_parting_numbers.main.body.getD i (.Pass ⟨0, 0, 0, 0⟩)
def conN : List Str := ["SIDES"]
def clsN : List (Str × Bool) := []
theorem dC : ∀ x ∈ conN, dbgOk x = true := by decide +kernel
theorem sc_jar : FnScope ["script", "k", "cell"] ["script", "k"] (defScope (topS 10)) := ⟨rfl, rfl, rfl, by decide +kernel, rfl, by decide +kernel, by decide +kernel⟩
theorem dn_jar : ∀ x ∈ (["script", "k", "cell"] : List Str), dbgOk x = true := by decide +kernel
theorem ck_jar : chkSs ⟨["script", "k", "cell"], [], conN, clsN, [], [], [], []⟩ (fun _ => true) (defScope (topS 10)) i_jar (defBody (topS 10)) = true := by decide +kernel
theorem bb_jar : BindB (topS 10) ["script", "k"] := fun x kV doc pm an cdv ct us hl => match us, hl with | [_, _], _ => rfl
theorem sc_scoop : FnScope ["jar", "many", "mixed", "found"] ["jar", "many"] (defScope (topS 11)) := ⟨rfl, rfl, rfl, by decide +kernel, rfl, by decide +kernel, by decide +kernel⟩
theorem dn_scoop : ∀ x ∈ (["jar", "many", "mixed", "found"] : List Str), dbgOk x = true := by decide +kernel
theorem ck_scoop : chkSs ⟨["jar", "many", "mixed", "found"], ["_law_jar"], conN, clsN, [], [], [], []⟩ (fun _ => true) (defScope (topS 11)) i_scoop (defBody (topS 11)) = true := by decide +kernel
theorem bb_scoop : BindB (topS 11) ["jar", "many"] := fun x kV doc pm an cdv ct us hl => match us, hl with | [_, _], _ => rfl
theorem sc_list : FnScope ["jar", "most", "at", "style", "few", "size", "found", "some"] ["jar", "most"] (defScope (topS 14)) := ⟨rfl, rfl, rfl, by decide +kernel, rfl, by decide +kernel, by decide +kernel⟩
theorem dn_list : ∀ x ∈ (["jar", "most", "at", "style", "few", "size", "found", "some"] : List Str), dbgOk x = true := by decide +kernel
theorem ck_list : chkSs ⟨["jar", "most", "at", "style", "few", "size", "found", "some"], ["_law_jar", "_law_scoop"], conN, clsN, [], [], [], []⟩ (fun _ => true) (defScope (topS 14)) i_list (defBody (topS 14)) = true := by decide +kernel
theorem bb_list : BindB (topS 14) ["jar", "most"] := fun x kV doc pm an cdv ct us hl => match us, hl with | [_, _], _ => rfl
theorem sc_is_pushes : FnScope ["value", "side"] ["value"] (defScope (topS 5)) := ⟨rfl, rfl, rfl, by decide +kernel, rfl, by decide +kernel, by decide +kernel⟩
theorem dn_is_pushes : ∀ x ∈ (["value", "side"] : List Str), dbgOk x = true := by decide +kernel
theorem ck_is_pushes : chkSs ⟨["value", "side"], ["_law_jar", "_law_scoop", "_law_list"], conN, clsN, [], [], [], []⟩ (fun _ => true) (defScope (topS 5)) i_is_pushes (defBody (topS 5)) = true := by decide +kernel
theorem bb_is_pushes : BindB (topS 5) ["value"] := fun x kV doc pm an cdv ct us hl => match us, hl with | [_], _ => rfl
theorem sc_need_pushes : FnScope ["value"] ["value"] (defScope (topS 6)) := ⟨rfl, rfl, rfl, by decide +kernel, rfl, by decide +kernel, by decide +kernel⟩
theorem dn_need_pushes : ∀ x ∈ (["value"] : List Str), dbgOk x = true := by decide +kernel
theorem ck_need_pushes : chkSs ⟨["value"], ["_law_jar", "_law_scoop", "_law_list", "is_pushes"], conN, clsN, [], [], [], []⟩ (fun _ => true) (defScope (topS 6)) i_need_pushes (defBody (topS 6)) = true := by decide +kernel
theorem bb_need_pushes : BindB (topS 6) ["value"] := fun x kV doc pm an cdv ct us hl => match us, hl with | [_], _ => rfl
theorem sc_parting_number : FnScope ["pushes", "other", "index", "one", "two"] ["pushes", "other"] (defScope (topS 8)) := ⟨rfl, rfl, rfl, by decide +kernel, rfl, by decide +kernel, by decide +kernel⟩
theorem dn_parting_number : ∀ x ∈ (["pushes", "other", "index", "one", "two"] : List Str), dbgOk x = true := by decide +kernel
theorem ck_parting_number : chkSs ⟨["pushes", "other", "index", "one", "two"], ["_law_jar", "_law_scoop", "_law_list", "is_pushes", "need_pushes"], conN, clsN, [], [], [], []⟩ (fun _ => true) (defScope (topS 8)) i_parting_number (defBody (topS 8)) = true := by decide +kernel
theorem bb_parting_number : BindB (topS 8) ["pushes", "other"] := fun x kV doc pm an cdv ct us hl => match us, hl with | [_, _], _ => rfl
theorem sc_after : FnScope ["runs", "way", "found", "level", "count", "half", "pair", "one", "many"] ["runs", "way"] (defScope (topS 13)) := ⟨rfl, rfl, rfl, by decide +kernel, rfl, by decide +kernel, by decide +kernel⟩
theorem dn_after : ∀ x ∈ (["runs", "way", "found", "level", "count", "half", "pair", "one", "many"] : List Str), dbgOk x = true := by decide +kernel
theorem ck_after : chkSs ⟨["runs", "way", "found", "level", "count", "half", "pair", "one", "many"], ["_law_jar", "_law_scoop", "_law_list", "is_pushes", "need_pushes", "parting_number"], conN, clsN, [], [], [], []⟩ (fun _ => true) (defScope (topS 13)) i_after (defBody (topS 13)) = true := by decide +kernel
theorem bb_after : BindB (topS 13) ["runs", "way"] := fun x kV doc pm an cdv ct us hl => match us, hl with | [_, _], _ => rfl
theorem sc_run : FnScope ["runs", "text", "way"] ["runs", "text"] (defScope (topS 15)) := ⟨rfl, rfl, rfl, by decide +kernel, rfl, by decide +kernel, by decide +kernel⟩
theorem dn_run : ∀ x ∈ (["runs", "text", "way"] : List Str), dbgOk x = true := by decide +kernel
theorem ck_run : chkSs ⟨["runs", "text", "way"], ["_law_jar", "_law_scoop", "_law_list", "is_pushes", "need_pushes", "parting_number", "_law_after"], conN, clsN, [], [], [], []⟩ (fun _ => true) (defScope (topS 15)) i_run (defBody (topS 15)) = true := by decide +kernel
theorem bb_run : BindB (topS 15) ["runs", "text"] := fun x kV doc pm an cdv ct us hl => match us, hl with | [_, _], _ => rfl
theorem sc_long_right : FnScope ["jar", "one", "two", "number", "less"] ["jar", "one", "two"] (defScope (topS 17)) := ⟨rfl, rfl, rfl, by decide +kernel, rfl, by decide +kernel, by decide +kernel⟩
theorem dn_long_right : ∀ x ∈ (["jar", "one", "two", "number", "less"] : List Str), dbgOk x = true := by decide +kernel
theorem ck_long_right : chkSs ⟨["jar", "one", "two", "number", "less"], ["_law_jar", "_law_scoop", "_law_list", "is_pushes", "need_pushes", "parting_number", "_law_after", "_law_run"], conN, clsN, [], [], [], []⟩ (fun _ => true) (defScope (topS 17)) i_long_right (defBody (topS 17)) = true := by decide +kernel
theorem bb_long_right : BindB (topS 17) ["jar", "one", "two"] := fun x kV doc pm an cdv ct us hl => match us, hl with | [_, _, _], _ => rfl
theorem sc_pushed : FnScope ["row", "way", "left", "found"] ["row", "way"] (defScope (topS 12)) := ⟨rfl, rfl, rfl, by decide +kernel, rfl, by decide +kernel, by decide +kernel⟩
theorem dn_pushed : ∀ x ∈ (["row", "way", "left", "found"] : List Str), dbgOk x = true := by decide +kernel
theorem ck_pushed : chkSs ⟨["row", "way", "left", "found"], ["_law_jar", "_law_scoop", "_law_list", "is_pushes", "need_pushes", "parting_number", "_law_after", "_law_run", "_law_long_right"], conN, clsN, [], [], [], []⟩ (fun _ => true) (defScope (topS 12)) i_pushed (defBody (topS 12)) = true := by decide +kernel
theorem bb_pushed : BindB (topS 12) ["row", "way"] := fun x kV doc pm an cdv ct us hl => match us, hl with | [_, _], _ => rfl
theorem sc_tried : FnScope ["one", "two", "tiles", "way", "first", "second"] ["one", "two"] (defScope (topS 16)) := ⟨rfl, rfl, rfl, by decide +kernel, rfl, by decide +kernel, by decide +kernel⟩
theorem dn_tried : ∀ x ∈ (["one", "two", "tiles", "way", "first", "second"] : List Str), dbgOk x = true := by decide +kernel
theorem ck_tried : chkSs ⟨["one", "two", "tiles", "way", "first", "second"], ["_law_jar", "_law_scoop", "_law_list", "is_pushes", "need_pushes", "parting_number", "_law_after", "_law_run", "_law_long_right", "_law_pushed"], conN, clsN, [], [], [], []⟩ (fun _ => true) (defScope (topS 16)) i_tried (defBody (topS 16)) = true := by decide +kernel
theorem bb_tried : BindB (topS 16) ["one", "two"] := fun x kV doc pm an cdv ct us hl => match us, hl with | [_, _], _ => rfl
theorem sc_near : FnScope ["jar", "text", "turned", "some", "at", "way", "sign"] ["jar", "text"] (defScope (topS 18)) := ⟨rfl, rfl, rfl, by decide +kernel, rfl, by decide +kernel, by decide +kernel⟩
theorem dn_near : ∀ x ∈ (["jar", "text", "turned", "some", "at", "way", "sign"] : List Str), dbgOk x = true := by decide +kernel
theorem ck_near : chkSs ⟨["jar", "text", "turned", "some", "at", "way", "sign"], ["_law_jar", "_law_scoop", "_law_list", "is_pushes", "need_pushes", "parting_number", "_law_after", "_law_run", "_law_long_right", "_law_pushed", "_law_tried"], conN, clsN, [], [], [], []⟩ (fun _ => true) (defScope (topS 18)) i_near (defBody (topS 18)) = true := by decide +kernel
theorem bb_near : BindB (topS 18) ["jar", "text"] := fun x kV doc pm an cdv ct us hl => match us, hl with | [_, _], _ => rfl
theorem sc_law : FnScope ["script", "k", "small", "one", "jar", "turn", "text", "two"] ["script"] (defScope (topS 19)) := ⟨rfl, rfl, rfl, by decide +kernel, rfl, by decide +kernel, by decide +kernel⟩
theorem dn_law : ∀ x ∈ (["script", "k", "small", "one", "jar", "turn", "text", "two"] : List Str), dbgOk x = true := by decide +kernel
theorem ck_law : chkSs ⟨["script", "k", "small", "one", "jar", "turn", "text", "two"], ["_law_jar", "_law_scoop", "_law_list", "is_pushes", "need_pushes", "parting_number", "_law_after", "_law_run", "_law_long_right", "_law_pushed", "_law_tried", "_law_near"], conN, clsN, [], [], [], []⟩ (fun _ => true) (defScope (topS 19)) i_law (defBody (topS 19)) = true := by decide +kernel
end L24
open FX PySem PySem.Spec PyProof.Rows L2
namespace L24
instance wcI : FX.Wc := ⟨fun K c => match c with
  | _ => none, fun c => match c with
  | _ => ""⟩
section
variable {P : Program} {w : World} {K : PySem.W.Frag} {mg : Str → Option Value} {base h : Heap}
theorem cons_ok (d0 : ∃ u v, mg "SIDES" = some u ∧ RelV v u ∧ ∀ F, DD K F v (.tuple [(.str "L"), (.str "R")])) : ∀ (g : Nat) (x : Str), conN[g]? = some x → ∀ c, G.con g = some c → ∃ u v, mg x = some u ∧ RelV v u ∧ ∀ F, DD K F v c := fun g x h1 c h2 => by
  rcases g with _ | g
  · cases h1
    cases h2
    exact d0
  cases h1
theorem cls1_ok  : ∀ (c : Nat) (x : Str) (b : Bool), clsN[c]? = some (x, b) → FactC K x b := fun c x b h => by
  cases h
theorem cls2_ok  : ∀ (i j : Nat) (x y : Str) (b b' : Bool), clsN[i]? = some (x, b) → clsN[j]? = some (y, b') → FactS K x y (G.sub i j) := fun i j x y b b' h g => by
  cases h
theorem clsX_ok : ∀ (c : Nat) (x : Str) (b : Bool), clsN[c]? = some (x, b) → (x == ("__debug__" : Str)) = false := fun c x b h => by
  cases h
theorem modl_ok (X : K.In h) (Gn : h.Ns mainGlobals mg) (b : BiF K) (f0 : FactF K "_law_jar" (topS 10)) (f1 : FactF K "_law_scoop" (topS 11)) (f2 : FactF K "_law_list" (topS 14)) (f3 : FactF K "is_pushes" (topS 5)) (f4 : FactF K "need_pushes" (topS 6)) (f5 : FactF K "parting_number" (topS 8)) (f6 : FactF K "_law_after" (topS 13)) (f7 : FactF K "_law_run" (topS 15)) (f8 : FactF K "_law_long_right" (topS 17)) (f9 : FactF K "_law_pushed" (topS 12)) (f10 : FactF K "_law_tried" (topS 16)) (f11 : FactF K "_law_near" (topS 18)) (d0 : ∃ u v, mg "SIDES" = some u ∧ RelV v u ∧ ∀ F, DD K F v (.tuple [(.str "L"), (.str "R")]))   : Modl P w K mg base (ceK K clsN) G ["_law_jar", "_law_scoop", "_law_list", "is_pushes", "need_pushes", "parting_number", "_law_after", "_law_run", "_law_long_right", "_law_pushed", "_law_tried", "_law_near"] conN clsN { ocl := [], mtd := [], prp := [], ctd := [] } 12 :=
  (Modl.nil (ocl := []) (owOk_none fun _ => rfl) (clsAll_of (cls1_ok ) (cls2_ok )) (cl_of X Gn (cls1_ok )) clsX_ok dC (bi_of X Gn b) (cons_ok d0))
  |>.step X Gn f0 sc_jar bb_jar (by decide +kernel) dn_jar rfl (mask_free (by decide)) ck_jar rfl p_jar
  |>.step X Gn f1 sc_scoop bb_scoop (by decide +kernel) dn_scoop rfl (mask_free (by decide)) ck_scoop rfl p_scoop
  |>.step X Gn f2 sc_list bb_list (by decide +kernel) dn_list rfl (mask_free (by decide)) ck_list rfl p_list
  |>.step X Gn f3 sc_is_pushes bb_is_pushes (by decide +kernel) dn_is_pushes rfl (mask_free (by decide)) ck_is_pushes rfl p_is_pushes
  |>.step X Gn f4 sc_need_pushes bb_need_pushes (by decide +kernel) dn_need_pushes rfl (mask_free (by decide)) ck_need_pushes rfl p_need_pushes
  |>.step X Gn f5 sc_parting_number bb_parting_number (by decide +kernel) dn_parting_number rfl (mask_free (by decide)) ck_parting_number rfl p_parting_number
  |>.step X Gn f6 sc_after bb_after (by decide +kernel) dn_after rfl (mask_free (by decide)) ck_after rfl p_after
  |>.step X Gn f7 sc_run bb_run (by decide +kernel) dn_run rfl (mask_free (by decide)) ck_run rfl p_run
  |>.step X Gn f8 sc_long_right bb_long_right (by decide +kernel) dn_long_right rfl (mask_free (by decide)) ck_long_right rfl p_long_right
  |>.step X Gn f9 sc_pushed bb_pushed (by decide +kernel) dn_pushed rfl (mask_free (by decide)) ck_pushed rfl p_pushed
  |>.step X Gn f10 sc_tried bb_tried (by decide +kernel) dn_tried rfl (mask_free (by decide)) ck_tried rfl p_tried
  |>.step X Gn f11 sc_near bb_near (by decide +kernel) dn_near rfl (mask_free (by decide)) ck_near rfl p_near
theorem law_mk {l : PySem.W.OpenLaw} {fa fl : Addr} {od an : Option Addr} {sl : Array (Option Value)} {oc kV dc pm cd ct : Value} (X : K.In h) (Gn : h.Ns mainGlobals mg) (hfa : mg "law" = some (.ref fa))
    (a0 : PySem.W.nsIn K mainGlobals "law" = some (some (.ref fl))) (l0 : K.lookup fl = some ⟨oc, od, .func (PySem.W.fnOf "law" "law" (defArgs (topS 19)) (defBody (topS 19)) (defScope (topS 19)) .none kV dc pm an cd ct), sl⟩)
    (c0 : PySem.W.codeIn K cd "law" = true) (k0 : PySem.W.keepIn K (.ref fl) = true) (b : BiF K) (f0 : FactF K "_law_jar" (topS 10)) (f1 : FactF K "_law_scoop" (topS 11)) (f2 : FactF K "_law_list" (topS 14)) (f3 : FactF K "is_pushes" (topS 5)) (f4 : FactF K "need_pushes" (topS 6)) (f5 : FactF K "parting_number" (topS 8)) (f6 : FactF K "_law_after" (topS 13)) (f7 : FactF K "_law_run" (topS 15)) (f8 : FactF K "_law_long_right" (topS 17)) (f9 : FactF K "_law_pushed" (topS 12)) (f10 : FactF K "_law_tried" (topS 16)) (f11 : FactF K "_law_near" (topS 18)) (d0 : ∃ u v, mg "SIDES" = some u ∧ RelV v u ∧ ∀ F, DD K F v (.tuple [(.str "L"), (.str "R")]))   :
    ∃ fd : FuncData, (∀ (s : Shared) (v : Value), BindsTo s fd ⟨[v], []⟩ [("script", v)]) ∧ ∀ base : Heap, K.In base → base.Ns mainGlobals mg → FnG l.prog w K mg base 13 fa fd ["script"] (liftSp K (ceK K clsN) [false] (runB G i_law 8 [false])) := by
  have e := hfa.symm.trans (PySem.W.mg_of X Gn a0)
  cases e
  exact ⟨_, fun s v => .of_eq rfl, fun base _ _ => (modl_ok X Gn b f0 f1 f2 f3 f4 f5 f6 f7 f8 f9 f10 f11 d0  ).law sc_law dn_law ck_law l0 c0 k0⟩
end
end L24
open PySem PySem.W PyProof.Rows
set_option maxHeartbeats 0 in
theorem PySem.Challenge.cw_tilepushes_k24_parting_numbers_holds : PySem.Challenge.rw_tilepushes_k24_parting_numbers.Holds := by
  w_on; o_law; k_head; (case hw => w_witness2)
  k_fill
  refine FX.walk_G (l := PySem.Challenge.rw_tilepushes_k24_parting_numbers) (n := 63) (k := 13) (x := "script") (sp := fun w => FX.liftK _ L24.clsN [false] (FX.runB L24.G L24.i_law 8 [false])) rfl (by decide) rfl ⟨rfl, by decide, by decide⟩ (fun w h Y => PySem.W.kIn_of Y) ?F (fun w H a ns hl hb hS => FX.law_spK hS (L24.law_true ns hl hb))
  case F =>
    intro w mg fa h KX G hmg
    refine' L24.law_mk KX G hmg ?a0 ?l0 ?c0 ?k0 ?bi ?f0 ?f1 ?f2 ?f3 ?f4 ?f5 ?f6 ?f7 ?f8 ?f9 ?f10 ?f11 ?d0 
    (case a0 => k_is); (case l0 => k_is); (case c0 => k_is); (case k0 => k_is)
    (case bi => refine' ⟨?_, ?_, ?_, ?_, ?_, ?_, ?_, ?_, ?_, ?_, ?_, ?_, ?_, ?_, ?_, ?_, ?_, ?_, ?_, ?_⟩ <;> (unfold FX.FreeB; k_is))
    (case f0 => refine' FX.factF_mk ?a ?l ?c ?k; (case a => k_is); (case l => k_is); (case c => k_is); (case k => k_is))
    (case f1 => refine' FX.factF_mk ?a ?l ?c ?k; (case a => k_is); (case l => k_is); (case c => k_is); (case k => k_is))
    (case f2 => refine' FX.factF_mk ?a ?l ?c ?k; (case a => k_is); (case l => k_is); (case c => k_is); (case k => k_is))
    (case f3 => refine' FX.factF_mk ?a ?l ?c ?k; (case a => k_is); (case l => k_is); (case c => k_is); (case k => k_is))
    (case f4 => refine' FX.factF_mk ?a ?l ?c ?k; (case a => k_is); (case l => k_is); (case c => k_is); (case k => k_is))
    (case f5 => refine' FX.factF_mk ?a ?l ?c ?k; (case a => k_is); (case l => k_is); (case c => k_is); (case k => k_is))
    (case f6 => refine' FX.factF_mk ?a ?l ?c ?k; (case a => k_is); (case l => k_is); (case c => k_is); (case k => k_is))
    (case f7 => refine' FX.factF_mk ?a ?l ?c ?k; (case a => k_is); (case l => k_is); (case c => k_is); (case k => k_is))
    (case f8 => refine' FX.factF_mk ?a ?l ?c ?k; (case a => k_is); (case l => k_is); (case c => k_is); (case k => k_is))
    (case f9 => refine' FX.factF_mk ?a ?l ?c ?k; (case a => k_is); (case l => k_is); (case c => k_is); (case k => k_is))
    (case f10 => refine' FX.factF_mk ?a ?l ?c ?k; (case a => k_is); (case l => k_is); (case c => k_is); (case k => k_is))
    (case f11 => refine' FX.factF_mk ?a ?l ?c ?k; (case a => k_is); (case l => k_is); (case c => k_is); (case k => k_is))
    (case d0 => refine' FX.con_tup KX G ?a ?l ?h ?d; (case a => k_is); (case l => k_is); (case h => decide); (case d => rfl))
