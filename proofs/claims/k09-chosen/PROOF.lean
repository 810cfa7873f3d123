import PyProof.Rows.All
import Wide.All
import OpenK.AllK
import Wide.FinOn
import KE.SortData
import HandS.Base
import HandS.Call
import HandS.List
import HandS.Comp
import HandS.Ends
import HandS.Exc
import HandS.ExcOwn
import HandS.TryMany
import HandS.Steps
import HandS.Deep
import HandS.DeepEq
import HandS.TupAny
import HandS.Evl
import HandS.Dict
import HandS.DictTup
import HandS.TupLe
import KE.DataCmp
import HandS.Wide
import HandS.TupLen
import HandS.Text
import HandS.IsInst
import HandS.WideBits
import HandS.More
import HandS.RaiseMore
import HandS.Replace
import HandS.SetFor
import HandS.TryOnly
import HandS.Iter
import HandS.Finally
import KE.KDictCopyH
import KE.GoesZip
import KE.GoesMore
import HandS.ExcInit
import HandS.ExcField
import HandS.ExcIs
import HandS.Style
import KE.KStateDown
import HandS.Words
import HandS.WordsExc
import HandS.Defaults
import HandS.Head0
import HandS.Head1
import HandS.Head2
import HandS.HeadEnd
import HandS.HeadHook1
import HandS.HeadHook2
import KE.OsArith
import KE.BitLaws
import PySem.Challenge.RW_wholepackets_k09_chosen_entries
set_option autoImplicit false
set_option linter.all false
set_option Elab.async false
set_option maxRecDepth 100000
set_option maxHeartbeats 4000000
/-! PyA: abstract values, the syntax of the subset, the evaluator. -/
namespace Py
noncomputable section

/-- the kit's line of sizes -/
abbrev big : Nat := 16777216
/-- a line of ints: never unfolded in sums -/
def huge : Nat := 2 ^ 1000
theorem lt_huge {n : Nat} (h : n < 2 ^ 128) : n < huge := Nat.lt_of_lt_of_le h (by unfold huge; exact Nat.pow_le_pow_right (by decide) (by decide))

inductive A where
  | non
  | bl (b : Bool)
  | int (i : Int)
  | str (x : List Nat)
  | tup (as : List A)
  | lst (as : List A)
  | dct (t : Bool) (ks : List (A × A))
  | ctp (as : List A)
  | ref (n : Nat)
  | fn (f : Nat)
  deriving Inhabited

inductive Cell where
  | lst (as : List A)
  | dct (t : Bool) (ks : List (A × A))
  | lck (t : Bool) (ks : List (A × A))
  | ins (c : Nat) (fs : List (String × A))

abbrev Sto := List Cell
abbrev Loc := List (Option A)

structure Exn where
  c : Nat
  as : List A

inductive R (α : Type) where
  | ok (a : α) (s : Sto)
  | exc (e : Exn) (s : Sto)
  | bad

def R.bind {α β : Type} : R α → (α → Sto → R β) → R β
  | .ok a s, k => k a s
  | .exc e s, _ => .exc e s
  | .bad, _ => .bad

/-! ### values -/
/-- data that may be compared: no reference, no dict, of a bounded depth -/
def dat : Nat → A → Bool
  | _, .non => true
  | _, .bl _ => true
  | _, .int _ => true
  | _, .str _ => true
  | n + 1, .tup as => as.all (dat n)
  | n + 1, .lst as => as.all (dat n)
  | _, _ => false
mutual
/-- == -/
def eqA : A → A → Bool
  | .non, .non => true
  | .bl a, .bl b => a == b
  | .bl a, .int j => (if a then 1 else 0) == j
  | .int i, .bl b => i == (if b then 1 else 0)
  | .int i, .int j => i == j
  | .str x, .str y => x == y
  | .tup xs, .tup ys => eqAs xs ys
  | .lst xs, .lst ys => eqAs xs ys
  | _, _ => false
def eqAs : List A → List A → Bool
  | [], [] => true
  | x :: xs, y :: ys => eqA x y && eqAs xs ys
  | [], _ :: _ => false
  | _ :: _, [] => false
end
mutual
/-- every reference within is below p -/
def lowA (p : Nat) : A → Bool
  | .tup as => lowAs p as
  | .lst as => lowAs p as
  | .dct _ ks => lowKs p ks
  | .ref n => decide (n < p)
  | .non => true
  | .bl _ => true
  | .int _ => true
  | .str _ => true
  | .fn _ => true
  | .ctp _ => true
def lowAs (p : Nat) : List A → Bool
  | [] => true
  | a :: as => lowA p a && lowAs p as
def lowKs (p : Nat) : List (A × A) → Bool
  | [] => true
  | (k, v) :: r => (lowA p k && lowA p v) && lowKs p r
end
@[simp] theorem lowAs_all (p : Nat) (as : List A) : lowAs p as = as.all (lowA p) := by
  induction as with
  | nil => rfl
  | cons a as ih => rw [lowAs, List.all_cons, ih]
@[simp] theorem lowKs_all (p : Nat) (ks : List (A × A)) : lowKs p ks = ks.all fun kv => lowA p kv.1 && lowA p kv.2 := by
  induction ks with
  | nil => rfl
  | cons a as ih => obtain ⟨k, v⟩ := a; rw [lowKs, List.all_cons, ih]
/-- no reference within -/
abbrev clo : A → Bool := lowA 0
def lowC (p : Nat) : Cell → Bool
  | .lst as => as.all (lowA p)
  | .dct _ ks => ks.all fun kv => lowA p kv.1 && lowA p kv.2
  | .lck _ ks => ks.all fun kv => lowA p kv.1 && lowA p kv.2
  | .ins _ fs => fs.all fun kv => lowA p kv.2
/-- nothing that may be changed or shared stands in it -/
def flat : A → Bool
  | .non => true
  | .bl _ => true
  | .int _ => true
  | .str _ => true
  | .ctp _ => true
  | _ => false
def flatC (p : Nat) : Cell → Bool
  | .lst as => as.all fun a => flat a || (match a with | .ref n => decide (n < p) | _ => false)
  | _ => false
def mapO {α β : Type} (f : α → Option β) : List α → Option (List β)
  | [] => some []
  | a :: as => match f a, mapO f as with
    | some x, some xs => some (x :: xs)
    | _, _ => none
@[simp] theorem mapO_nil {α β : Type} (f : α → Option β) : mapO f [] = some [] := rfl
@[simp] theorem mapO_cons {α β : Type} (f : α → Option β) (a : α) (as : List α) : mapO f (a :: as) = (match f a, mapO f as with
    | some x, some xs => some (x :: xs)
    | _, _ => none) := rfl
theorem mapO_id {α : Type} (f : α → Option α) (as : List α) (h : ∀ a ∈ as, f a = some a) : mapO f as = some as := by
  induction as with
  | nil => rfl
  | cons a as ih =>
    rw [mapO_cons, h a List.mem_cons_self, ih fun b hb => h b (List.mem_cons_of_mem _ hb)]
def kFrz (g : A → Option A) : Option Cell → Option A
  | some (.lst as) => (mapO g as).map .lst
  | some (.dct t ks) => (mapO (fun kv : A × A => (g kv.2).map fun v => (kv.1, v)) ks).map (.dct t)
  | some (.lck t ks) => (mapO (fun kv : A × A => (g kv.2).map fun v => (kv.1, v)) ks).map (.dct t)
  | _ => none
/-- references from p on are replaced by what stands there, frozen -/
def frz (s : Sto) (p : Nat) : Nat → A → Option A
  | _, .non => some .non
  | _, .bl b => some (.bl b)
  | _, .int i => some (.int i)
  | _, .str x => some (.str x)
  | _, .fn f => some (.fn f)
  | _, .ctp as => some (.ctp as)
  | n + 1, .tup as => (mapO (frz s p n) as).map .tup
  | n + 1, .lst as => (mapO (frz s p n) as).map .lst
  | n + 1, .dct t ks => (mapO (fun kv : A × A => (frz s p n kv.2).map fun v => (kv.1, v)) ks).map (.dct t)
  | n + 1, .ref m => if m < p then some (.ref m) else kFrz (frz s p n) s[m]?
  | 0, .ref m => if m < p then some (.ref m) else none
  | 0, _ => none
def kLst1 : Option Cell → Option (List A)
  | some (.lst as) => some as
  | _ => none
def kDct1 : Option Cell → Option (Bool × List (A × A))
  | some (.dct t ks) => some (t, ks)
  | some (.lck t ks) => some (t, ks)
  | _ => none
/-- a list or a tuple, read -/
def seqOf (s : Sto) : A → Option (List A)
  | .tup as => some as
  | .ctp as => some as
  | .lst as => some as
  | .ref n => kLst1 s[n]?
  | _ => none
/-- a list, read -/
def lstOf (s : Sto) : A → Option (List A)
  | .lst as => some as
  | .ref n => kLst1 s[n]?
  | _ => none
def dctOf (s : Sto) : A → Option (Bool × List (A × A))
  | .dct t ks => some (t, ks)
  | .ref n => kDct1 s[n]?
  | _ => none
def kDeep (g : A → Option A) : Option Cell → Option A
  | some (.lst as) => (mapO g as).map .lst
  | _ => none
/-- lists within are read, so deep as n -/
def deep (s : Sto) : Nat → A → Option A
  | n + 1, .ref m => kDeep (deep s n) s[m]?
  | 0, .ref _ => none
  | n + 1, .tup as => (mapO (deep s n) as).map .tup
  | n + 1, .ctp as => (mapO (deep s n) as).map .tup
  | n + 1, .lst as => (mapO (deep s n) as).map .lst
  | _, .non => some .non
  | _, .bl b => some (.bl b)
  | _, .int i => some (.int i)
  | _, .str x => some (.str x)
  | _, _ => none

/-! ### places -/
def ixN (n : Nat) (i : Int) : Option Nat := if 0 ≤ i then (if i < n then some i.toNat else none) else if -(n : Int) ≤ i then some (i + n).toNat else none
def atI {α : Type} (xs : List α) (i : Int) : Option α := (ixN xs.length i).bind fun j => xs[j]?
def sIx (n d : Nat) : Option Int → Nat
  | none => d
  | some v => if v < 0 then (v + (n : Int)).toNat else min v.toNat n
def cut {α : Type} (xs : List α) (lo hi : Option Int) : List α := (xs.drop (sIx xs.length 0 lo)).take (sIx xs.length xs.length hi - sIx xs.length 0 lo)

/-! ### dicts -/
def isK1 : A → Bool
  | .int _ => true
  | .str _ => true
  | _ => false
def isKey : Bool → A → Bool
  | true, .tup as => as.all isK1
  | true, _ => false
  | false, a => isK1 a
def kEq1 : A → A → Bool
  | .int i, .int j => i == j
  | .str x, .str y => x == y
  | _, _ => false
def kEqs : List A → List A → Bool
  | [], [] => true
  | x :: xs, y :: ys => kEq1 x y && kEqs xs ys
  | _, _ => false
def kEq : A → A → Bool
  | .tup xs, .tup ys => kEqs xs ys
  | a, b => kEq1 a b
def dget (ks : List (A × A)) (k : A) : Option A := (ks.find? fun kv => kEq kv.1 k).map (·.2)
def dput (ks : List (A × A)) (k v : A) : List (A × A) :=
  if (ks.any fun kv => kEq kv.1 k) = true then ks.map (fun kv => if kEq kv.1 k = true then (kv.1, v) else kv) else ks ++ [(k, v)]
def ddel (ks : List (A × A)) (k : A) : List (A × A) := ks.filter fun kv => !kEq kv.1 k

/-! ### fields -/
def fget : List (String × A) → String → Option A
  | [], _ => none
  | (g, v) :: r, f => if g = f then some v else fget r f
def fput : List (String × A) → String → A → List (String × A)
  | [], f, y => [(f, y)]
  | (g, v) :: r, f, y => if g = f then (f, y) :: r else (g, v) :: fput r f y

/-! ### new objects -/
def mkL (fz : Bool) (as : List A) (s : Sto) : R A := if fz = true then .ok (.lst as) s else .ok (.ref s.length) (s ++ [.lst as])
def mkD (fz t : Bool) (ks : List (A × A)) (s : Sto) : R A := if fz = true then .ok (.dct t ks) s else .ok (.ref s.length) (s ++ [.dct t ks])

/-! ### data of the kit -/
/-- a text of the kit -/
abbrev toS (x : List Nat) : PySem.Str := ⟨x.toArray⟩
abbrev ofS (x : PySem.Str) : List Nat := x.cps.toList
mutual
def toD : A → PySem.PyData
  | .non => .none
  | .bl b => .bool b
  | .int i => .int i
  | .str x => .str (toS x)
  | .tup as => .tuple (toDs as)
  | .lst as => .list (toDs as)
  | .dct _ ks => .dict (toDk ks)
  | .ref _ => .none
  | .fn _ => .none
  | .ctp as => .tuple (toDs as)
def toDs : List A → List PySem.PyData
  | [] => []
  | a :: as => toD a :: toDs as
def toDk : List (A × A) → List (PySem.PyData × PySem.PyData)
  | [] => []
  | (k, v) :: r => (toD k, toD v) :: toDk r
end
@[simp] theorem toDs_map (as : List A) : toDs as = as.map toD := by
  induction as with
  | nil => rfl
  | cons a as ih => rw [toDs, ih, List.map_cons]
@[simp] theorem toDk_map (ks : List (A × A)) : toDk ks = ks.map fun kv => (toD kv.1, toD kv.2) := by
  induction ks with
  | nil => rfl
  | cons a as ih => obtain ⟨k, v⟩ := a; rw [toDk, ih, List.map_cons]
def numT (i : Int) : List Nat := (toString i).toList.map Char.toNat
def leA (a b : A) : Bool := PySem.W.dataLe false toD a b
def okSort (as : List A) : Prop := PySem.W.AllAlike (as.map toD) ∧ PySem.W.Sortable (as.map toD)
def intsOf : List A → Option (List Int)
  | [] => some []
  | .int i :: r => (intsOf r).map (i :: ·)
  | _ :: _ => none
def blsOf : List A → Option (List Bool)
  | [] => some []
  | .bl i :: r => (blsOf r).map (i :: ·)
  | _ :: _ => none
def strsOf : List A → Option (List (List Nat))
  | [] => some []
  | .str i :: r => (strsOf r).map (i :: ·)
  | _ :: _ => none
def maxI : List Int → Option Int
  | [] => none
  | i :: r => some (r.foldl (fun a b => if b > a then b else a) i)
def minI : List Int → Option Int
  | [] => none
  | i :: r => some (r.foldl (fun a b => if b < a then b else a) i)

/-! ### syntax -/
inductive BOp where | add | sub | mul | fdiv | mod | band | bor | bxor | shl | shr
inductive COp where | eq | ne | lt | le | gt | ge | inn | nin
inductive Ty where | int | bool | str | list | tuple | dict
inductive BF where | len | abs | int | str | ord | max1 | max2 | min1 | min2 | sum | all | any | sorted | list | dict | repr
inductive BM where | append | clear | extend | get | insert | lindex | sindex | join | partition | pop0 | pop1 | dpop | remove | replace | split0 | split1
inductive IK where | seq | keys | rng | rlen | enum | zip | rev
inductive T where
  | nm (i : Nat)
  | tp (is : List Nat)

inductive E where
  | loc (i : Nat)
  | glb (g : Nat)
  | fun_ (f : Nat)
  | non
  | bl (b : Bool)
  | int (i : Int)
  | str (x : List Nat)
  | bin (op : BOp) (fz : Bool) (a b : E)
  | neg (a : E)
  | not (a : E)
  | and (a b : E)
  | or (a b : E)
  | cmp (op : COp) (a b : E)
  | chain (o1 o2 : COp) (a b c : E)
  | isN (a : E)
  | notN (a : E)
  | ite (c a b : E)
  | tup (es : List E)
  | lst (fz : Bool) (es : List E)
  | dct (fz t : Bool) (es : List E)
  | idx (a i : E)
  | cut (fz : Bool) (a : E) (lo hi : Option E)
  | rev (fz : Bool) (a : E)
  | call (f : Nat) (es : List E)
  | callv (i : Nat) (es : List E)
  | make (c : Nat) (es : List E)
  | meth (m : String) (o : E) (es : List E)
  | bc (f : BF) (fz : Bool) (es : List E)
  | bm (m : BM) (fz : Bool) (o : E) (es : List E)
  | attr (o : E) (f : String)
  | isa (a : E) (t : Ty)
  | lcomp (fz : Bool) (elt : E) (tg : T) (k : IK) (es : List E) (c : Option E) (own : List Nat)
  | dcomp (fz t : Bool) (key elt : E) (tg : T) (k : IK) (es : List E) (c : Option E) (own : List Nat)
  | xattr (i : Nat) (f : String)
  | xisa (i : Nat) (c : Nat)

mutual
inductive S where
  | asg (t : T) (e : E)
  | sub (o i e : E)
  | fld (o : E) (f : String) (e : E)
  | par (is : List Nat) (es : List E)
  | ex (e : E)
  | iff (c : E) (a b : List S)
  | whl (c : E) (b : List S) (ks : List Nat)
  | forr (t : T) (k : IK) (es : List E) (b : List S) (ks : List Nat)
  | ret (e : E)
  | retN
  | rais (c : Nat) (es : List E)
  | tryy (b : List S) (hs : List Hd)
  | brk
  | cnt
  | pass
  | kil (is : List Nat)
inductive Hd where
  | mk (c : Nat) (i : Option Nat) (b : List S)
end

/-- what a statement comes to -/
inductive Fl where
  | nx (l : Loc) (s : Sto)
  | brk (l : Loc) (s : Sto)
  | cnt (l : Loc) (s : Sto)
  | ret (a : A) (s : Sto)
  | exc (e : Exn) (l : Loc) (s : Sto)
  | bad

structure Env where
  call : Nat → List A → Sto → R A
  glb : Nat → Option A
  meth : Nat → String → Option Nat
  init : Nat → Option Nat
  sub : Nat → Nat → Bool
  xat : Nat → String → Bool
  exn : Option (Nat × Exn)

/-! ### operators, built-ins by values -/
abbrev okMul (i j : Int) : Prop := (-(2 ^ 64) < i ∧ i < 2 ^ 64) ∨ (-(2 ^ 64) < j ∧ j < 2 ^ 64)
def repL {α : Type} (n : Nat) (xs : List α) : List α := (List.replicate n xs).flatten
def kOpt : Option A → Sto → R A
  | some a, s => .ok a s
  | none, _ => .bad
def kBl : Option Bool → Sto → R A
  | some a, s => .ok (.bl a) s
  | none, _ => .bad
def kOpI : Option Int → Sto → R A
  | some a, s => .ok (.int a) s
  | none, _ => .bad
def kAddL (fz : Bool) : Option (List A) → Option (List A) → Sto → R A
  | some a, some b, s => if a.length + b.length ≤ big then mkL fz (a ++ b) s else .bad
  | _, _, _ => .bad
def addA (fz : Bool) : A → A → Sto → R A
  | .int i, .int j, s => .ok (.int (i + j)) s
  | .str a, .str b, s => if a.length + b.length ≤ big then .ok (.str (a ++ b)) s else .bad
  | .tup a, .tup b, s => if a.length + b.length ≤ big then .ok (.tup (a ++ b)) s else .bad
  | .lst a, y, s => kAddL fz (some a) (lstOf s y) s
  | .ref a, y, s => kAddL fz (lstOf s (.ref a)) (lstOf s y) s
  | _, _, _ => .bad
def kRepL (fz : Bool) (j : Int) : Option (List A) → Sto → R A
  | some a, s => if a.length * j.toNat ≤ big ∧ j < 2 ^ 62 ∧ -(2 ^ 62) < j then mkL fz (repL j.toNat a) s else .bad
  | none, _ => .bad
def mulA (fz : Bool) : A → A → Sto → R A
  | .int i, .int j, s => if okMul i j then .ok (.int (i * j)) s else .bad
  | .str a, .int j, s => if a.length * j.toNat ≤ big ∧ j < 2 ^ 62 ∧ -(2 ^ 62) < j then .ok (.str (repL j.toNat a)) s else .bad
  | .lst a, .int j, s => kRepL fz j (some a) s
  | .ref n, .int j, s => kRepL fz j (lstOf s (.ref n)) s
  | _, _, _ => .bad
def intA (op : BOp) (i j : Int) (s : Sto) : R A :=
  match op with
  | .add => .bad
  | .mul => .bad
  | .sub => .ok (.int (i - j)) s
  | .fdiv => if 0 < j ∧ j < 2 ^ 64 then .ok (.int (i / j)) s else .bad
  | .mod => if 0 < j then .ok (.int (i % j)) s else .bad
  | .band => .ok (.int (PySem.Builtin.bitAnd i j)) s
  | .bor => .ok (.int (PySem.Builtin.bitOr i j)) s
  | .bxor => .ok (.int (PySem.Builtin.bitXor i j)) s
  | .shl => if 0 ≤ j ∧ j ≤ 1000 ∧ i.natAbs < huge then .ok (.int (i * 2 ^ j.toNat)) s else .bad
  | .shr => if 0 ≤ j then .ok (.int (i / 2 ^ j.toNat)) s else .bad
def intsA (op : BOp) : A → A → Sto → R A
  | .int i, .int j, s => intA op i j s
  | _, _, _ => .bad
def binA (op : BOp) (fz : Bool) (x y : A) (s : Sto) : R A :=
  match op with
  | .add => addA fz x y s
  | .mul => mulA fz x y s
  | .sub => intsA .sub x y s
  | .fdiv => intsA .fdiv x y s
  | .mod => intsA .mod x y s
  | .band => intsA .band x y s
  | .bor => intsA .bor x y s
  | .bxor => intsA .bxor x y s
  | .shl => intsA .shl x y s
  | .shr => intsA .shr x y s

/-- x in y -/
def kInD (x : A) (t : Bool) (ks : List (A × A)) : Option Bool :=
  if isKey t x = true then some (dget ks x).isSome else none
def kInL : Option A → Option (List A) → Option Bool
  | some d, some ds => some (ds.any fun z => eqA z d)
  | _, _ => none
def kInR (s : Sto) (x : A) : Option Cell → Option Bool
  | some (.dct t ks) => kInD x t ks
  | some (.lck t ks) => kInD x t ks
  | some (.lst as) => kInL (deep s 60 x) (mapO (deep s 60) as)
  | _ => none
def inA : A → A → Sto → Option Bool
  | x, .dct t ks, _ => kInD x t ks
  | x, .ref n, s => kInR s x s[n]?
  | x, .lst as, s => kInL (deep s 60 x) (mapO (deep s 60) as)
  | x, .tup as, s => kInL (deep s 60 x) (mapO (deep s 60) as)
  | x, .ctp as, s => kInL (deep s 60 x) (mapO (deep s 60) as)
  | .str [c], .str z, _ => some (decide (c ∈ z))
  | _, _, _ => none
def kEqD : Option A → Option A → Sto → R A
  | some a, some b, s => .ok (.bl (eqA a b)) s
  | _, _, _ => .bad
def kNeD : Option A → Option A → Sto → R A
  | some a, some b, s => .ok (.bl (!eqA a b)) s
  | _, _, _ => .bad
/-- by the first ints that differ -/
def lexGt : List Int → List Int → Bool
  | [], _ => false
  | _ :: _, [] => true
  | x :: xs, y :: ys => if x = y then lexGt xs ys else decide (y < x)
def kGtL : Option (List Int) → Option (List Int) → Sto → R A
  | some is, some js, s => .ok (.bl (lexGt is js)) s
  | _, _, _ => .bad
def ltA : A → A → Sto → R A
  | .int i, .int j, s => .ok (.bl (decide (i < j))) s
  | _, _, _ => .bad
def leqA : A → A → Sto → R A
  | .int i, .int j, s => .ok (.bl (decide (i ≤ j))) s
  | .str a, .str b, s => .ok (.bl (!decide (b < a))) s
  | _, _, _ => .bad
def gtA : A → A → Sto → R A
  | .int i, .int j, s => .ok (.bl (decide (j < i))) s
  | .tup as, .tup bs, s => kGtL (intsOf as) (intsOf bs) s
  | .lst as, .lst bs, s => kGtL (intsOf as) (intsOf bs) s
  | _, _, _ => .bad
def geA : A → A → Sto → R A
  | .int i, .int j, s => .ok (.bl (decide (j ≤ i))) s
  | _, _, _ => .bad
def cmpA (op : COp) (x y : A) (s : Sto) : R A :=
  match op with
  | .eq => kEqD (deep s 60 x) (deep s 60 y) s
  | .ne => kNeD (deep s 60 x) (deep s 60 y) s
  | .lt => ltA x y s
  | .le => leqA x y s
  | .gt => gtA x y s
  | .ge => geA x y s
  | .inn => kBl (inA x y s) s
  | .nin => kBl ((inA x y s).map not) s
def kIxS : Option Nat → Sto → R A
  | some c, s => .ok (.str [c]) s
  | none, _ => .bad
def kIxD (t : Bool) (ks : List (A × A)) (i : A) (s : Sto) : R A := if isKey t i = true then kOpt (dget ks i) s else .bad
def kIxR : A → Option Cell → Sto → R A
  | i, some (.dct t ks), s => kIxD t ks i s
  | i, some (.lck t ks), s => kIxD t ks i s
  | .int j, some (.lst as), s => kOpt (atI as j) s
  | _, _, _ => .bad
def idxA : A → A → Sto → R A
  | .str z, .int j, s => kIxS (atI z j) s
  | .tup z, .int j, s => kOpt (atI z j) s
  | .ctp z, .int j, s => kOpt (atI z j) s
  | .lst z, .int j, s => kOpt (atI z j) s
  | .dct t ks, k, s => kIxD t ks k s
  | .ref n, i, s => kIxR i s[n]? s
  | _, _, _ => .bad
def kCutL (fz : Bool) : Option (List A) → Option Int → Option Int → Sto → R A
  | some z, a, b, s => mkL fz (cut z a b) s
  | none, _, _, _ => .bad
def cutA (fz : Bool) : A → Option Int → Option Int → Sto → R A
  | .str z, lo, hi, s => .ok (.str (cut z lo hi)) s
  | .tup z, lo, hi, s => .ok (.tup (cut z lo hi)) s
  | .lst z, lo, hi, s => kCutL fz (some z) lo hi s
  | .ref n, lo, hi, s => kCutL fz (lstOf s (.ref n)) lo hi s
  | _, _, _, _ => .bad
def Ty.isInt : Ty → Bool
  | .int => true
  | _ => false
def Ty.isBl : Ty → Bool
  | .int => true
  | .bool => true
  | _ => false
def Ty.isStr : Ty → Bool
  | .str => true
  | _ => false
def Ty.isTup : Ty → Bool
  | .tuple => true
  | _ => false
def Ty.isLst : Ty → Bool
  | .list => true
  | _ => false
def Ty.isDct : Ty → Bool
  | .dict => true
  | _ => false
def kIsaR (t : Ty) : Option Cell → Option Bool
  | some (.lst _) => some t.isLst
  | some (.dct _ _) => some t.isDct
  | some (.lck _ _) => some t.isDct
  | _ => none
def isaA (t : Ty) : A → Sto → Option Bool
  | .fn _, _ => none
  | .ref n, s => kIsaR t s[n]?
  | .non, _ => some false
  | .bl _, _ => some t.isBl
  | .int _, _ => some t.isInt
  | .str _, _ => some t.isStr
  | .tup _, _ => some t.isTup
  | .lst _, _ => some t.isLst
  | .dct _ _, _ => some t.isDct
  | .ctp _, _ => some t.isTup
def kLen : Option Cell → Sto → R A
  | some (.lst xs), s => .ok (.int xs.length) s
  | some (.dct _ xs), s => .ok (.int xs.length) s
  | some (.lck _ xs), s => .ok (.int xs.length) s
  | _, _ => .bad
open Classical in
def sortL (fz : Bool) (xs : List A) (s : Sto) : R A := if xs.all (dat 60) = true ∧ okSort xs then mkL fz (xs.mergeSort leA) s else .bad
def kSort (fz : Bool) : Option Cell → Sto → R A
  | some (.lst xs), s => sortL fz xs s
  | some (.dct _ ks), s => sortL fz (ks.map (·.1)) s
  | some (.lck _ ks), s => sortL fz (ks.map (·.1)) s
  | _, _ => .bad
def kList (fz : Bool) : Option Cell → Sto → R A
  | some (.lst xs), s => mkL fz xs s
  | _, _ => .bad
def kDict (fz : Bool) : Option Cell → Sto → R A
  | some (.dct t ks), s => mkD fz t ks s
  | some (.lck t ks), s => mkD fz t ks s
  | _, _ => .bad
def kRepr : Option A → Sto → R A
  | some d, s => if (toD d).shown.length ≤ big then .ok (.str (ofS (toD d).shown)) s else .bad
  | _, _ => .bad
def lenA : A → Sto → R A
  | .str x, s => .ok (.int x.length) s
  | .tup x, s => .ok (.int x.length) s
  | .ctp x, s => .ok (.int x.length) s
  | .lst x, s => .ok (.int x.length) s
  | .dct _ x, s => .ok (.int x.length) s
  | .ref n, s => kLen s[n]? s
  | _, _ => .bad
def strA : A → Sto → R A
  | .int i, s => if i.natAbs < huge then .ok (.str (numT i)) s else .bad
  | .str x, s => .ok (.str x) s
  | _, _ => .bad
def ordA : A → Sto → R A
  | .str [c], s => .ok (.int c) s
  | _, _ => .bad
def sortedA (fz : Bool) : A → Sto → R A
  | .lst xs, s => sortL fz xs s
  | .dct _ ks, s => sortL fz (ks.map (·.1)) s
  | .ref n, s => kSort fz s[n]? s
  | _, _ => .bad
def listA (fz : Bool) : A → Sto → R A
  | .ctp xs, s => mkL fz xs s
  | .lst xs, s => mkL fz xs s
  | .tup xs, s => mkL fz xs s
  | .ref n, s => kList fz s[n]? s
  | _, _ => .bad
def dictA (fz : Bool) : A → Sto → R A
  | .dct t ks, s => mkD fz t ks s
  | .ref n, s => kDict fz s[n]? s
  | _, _ => .bad
def bcA1 (f : BF) (fz : Bool) (a : A) (s : Sto) : R A :=
  match f with
  | .len => lenA a s
  | .abs => kOpI ((match a with | .int i => some (i.natAbs : Int) | _ => none)) s
  | .int => kOpI ((match a with | .int i => some i | _ => none)) s
  | .str => strA a s
  | .ord => ordA a s
  | .max1 => kOpI ((lstOf s a).bind fun as => (intsOf as).bind maxI) s
  | .min1 => kOpI ((lstOf s a).bind fun as => (intsOf as).bind minI) s
  | .sum => kOpI ((lstOf s a).bind fun as => (intsOf as).map List.sum) s
  | .all => kBl ((lstOf s a).bind fun as => (blsOf as).map fun bs => bs.all id) s
  | .any => kBl ((lstOf s a).bind fun as => (blsOf as).map fun bs => bs.any id) s
  | .sorted => sortedA fz a s
  | .list => listA fz a s
  | .dict => dictA fz a s
  | .repr => kRepr (deep s 60 a) s
  | _ => .bad
def bcA2 (f : BF) (a b : A) (s : Sto) : R A :=
  match f, a, b with
  | .max2, .int i, .int j => .ok (.int (if j > i then j else i)) s
  | .min2, .int i, .int j => .ok (.int (if j < i then j else i)) s
  | _, _, _ => .bad
def bcA (f : BF) (fz : Bool) (as : List A) (s : Sto) : R A :=
  match as with
  | [a] => bcA1 f fz a s
  | [a, b] => bcA2 f a b s
  | _ => .bad
def kApp (n : Nat) (a : A) : Option Cell → Sto → R A
  | some (.lst xs), s => if xs.length < big then .ok .non (s.set n (.lst (xs ++ [a]))) else .bad
  | _, _ => .bad
def kExt (n : Nat) : Option Cell → Option (List A) → Sto → R A
  | some (.lst xs), some ys, s => if xs.length + ys.length ≤ big then .ok .non (s.set n (.lst (xs ++ ys))) else .bad
  | _, _, _ => .bad
def kIns (n : Nat) (i : Int) (a : A) : Option Cell → Sto → R A
  | some (.lst xs), s => if xs.length < big ∧ 0 ≤ i ∧ i < 2 ^ 62 then .ok .non (s.set n (.lst (xs.take i.toNat ++ [a] ++ xs.drop i.toNat))) else .bad
  | _, _ => .bad
def kClr (n : Nat) : Option Cell → Sto → R A
  | some (.dct t _), s => .ok .non (s.set n (.dct t []))
  | _, _ => .bad
def kPopd (n : Nat) : Option A → Cell → Sto → R A
  | some v, c, s => .ok v (s.set n c)
  | none, _, _ => .bad
def kPop0 (n : Nat) : Option Cell → Sto → R A
  | some (.lst xs), s => kPopd n xs.getLast? (.lst xs.dropLast) s
  | _, _ => .bad
def kPop2 (n : Nat) (xs : List A) : Option Nat → Sto → R A
  | some j, s => kPopd n xs[j]? (.lst (xs.eraseIdx j)) s
  | none, _ => .bad
def kPop1 (n : Nat) (i : Int) : Option Cell → Sto → R A
  | some (.lst xs), s => kPop2 n xs (ixN xs.length i) s
  | _, _ => .bad
def kDpop2 (n : Nat) (k d : A) (t : Bool) (ks : List (A × A)) : Option A → Sto → R A
  | some v, s => .ok v (s.set n (.dct t (ddel ks k)))
  | none, s => .ok d s
def kDpop (n : Nat) (k d : A) : Option Cell → Sto → R A
  | some (.dct t ks), s => if isKey t k = true then kDpop2 n k d t ks (dget ks k) s else .bad
  | _, _ => .bad
def kRem2 (n : Nat) (xs : List A) : Option Nat → Sto → R A
  | some j, s => .ok .non (s.set n (.lst (xs.eraseIdx j)))
  | none, _ => .bad
def kRem3 (n : Nat) (xs : List A) (y : List Nat) : Option (List (List Nat)) → Sto → R A
  | some ys, s => kRem2 n xs (ys.findIdx? (fun z => z == y)) s
  | none, _ => .bad
def kRem (n : Nat) : A → Option Cell → Sto → R A
  | .str y, some (.lst xs), s => kRem3 n xs y (strsOf xs) s
  | _, _, _ => .bad
def kGet (k d : A) : Option (Bool × List (A × A)) → Sto → R A
  | some (t, ks), s => if isKey t k = true then .ok ((dget ks k).getD d) s else .bad
  | none, _ => .bad
def kLix : Option (List A) → Option A → Sto → R A
  | some ds, some d, s => kOpI ((ds.findIdx? (fun z => eqA z d)).map Int.ofNat) s
  | _, _, _ => .bad
def kJoin (x : List Nat) : Option (List (List Nat)) → Sto → R A
  | some ys, s => if (ys.map (·.length)).sum + ys.length * x.length ≤ big then .ok (.str (ofS (PySem.Txt.join (toS x) (ys.map toS)))) s else .bad
  | none, _ => .bad
def bmR (m : BM) (n : Nat) (as : List A) (s : Sto) : R A :=
  match m, as with
  | .append, [a] => kApp n a s[n]? s
  | .extend, [a] => kExt n s[n]? (lstOf s a) s
  | .insert, [.int i, a] => kIns n i a s[n]? s
  | .clear, [] => kClr n s[n]? s
  | .pop0, [] => kPop0 n s[n]? s
  | .pop1, [.int i] => kPop1 n i s[n]? s
  | .dpop, [k, d] => kDpop n k d s[n]? s
  | .remove, [a] => kRem n a s[n]? s
  | .get, [k, d] => kGet k d (dctOf s (.ref n)) s
  | .lindex, [a] => kLix ((lstOf s (.ref n)).bind (mapO (deep s 60))) (deep s 60 a) s
  | _, _ => .bad
def bmS (m : BM) (fz : Bool) (x : List Nat) (as : List A) (s : Sto) : R A :=
  match m, as with
  | .sindex, [.str [c]] => kOpI ((x.findIdx? (· == c)).map Int.ofNat) s
  | .join, [a] => kJoin x ((lstOf s a).bind strsOf) s
  | .split1, [.str y] => if y.length ≠ 0 ∧ x.length + 2 ≤ big then mkL fz ((PySem.Txt.split (toS x) (toS y)).map fun z => .str (ofS z)) s else .bad
  | .split0, [] => if x.length + 2 ≤ big then mkL fz ((PySem.Txt.words (toS x)).map fun z => .str (ofS z)) s else .bad
  | .partition, [.str y] => if y.length ≠ 0 then
      .ok (.tup [.str (ofS (PySem.Txt.partition (toS x) (toS y)).1), .str (ofS (PySem.Txt.partition (toS x) (toS y)).2.1), .str (ofS (PySem.Txt.partition (toS x) (toS y)).2.2)]) s else .bad
  | .replace, [.str y, .str z] => if y.length ≠ 0 ∧ x.length + (x.length + 1) * z.length ≤ big then .ok (.str (ofS (PySem.Txt.replace (toS x) (toS y) (toS z)))) s else .bad
  | _, _ => .bad
def bmF (m : BM) (o : A) (as : List A) (s : Sto) : R A :=
  match m, as with
  | .get, [k, d] => kGet k d (dctOf s o) s
  | .lindex, [a] => kLix ((lstOf s o).bind (mapO (deep s 60))) (deep s 60 a) s
  | _, _ => .bad
def bmA (m : BM) (fz : Bool) (o : A) (as : List A) (s : Sto) : R A :=
  match o with
  | .ref n => bmR m n as s
  | .str x => bmS m fz x as s
  | o => bmF m o as s

/-! ### what is walked -/
def pairs : List A → Option (List (A × A))
  | [] => some []
  | k :: v :: r => (pairs r).map ((k, v) :: ·)
  | [_] => none
def upFrom (lo c : Int) : Nat → List A
  | 0 => []
  | n + 1 => .int lo :: upFrom (lo + c) c n
/-- turns of range(a, b, c) -/
def turnsOf (a b c : Int) : Nat := if 0 < c then ((b - a + c - 1) / c).toNat else if c < 0 then ((a - b - c - 1) / (-c)).toNat else 0
abbrev inB (i : Int) : Prop := -(2 ^ 62) ≤ i ∧ i < 2 ^ 62
def enumA : Nat → List A → List A
  | _, [] => []
  | n, a :: r => .tup [.int n, a] :: enumA (n + 1) r
def zip2A : List A → List A → List A
  | a :: as, b :: bs => .tup [a, b] :: zip2A as bs
  | _, _ => []
def zip3A : List A → List A → List A → List A
  | a :: as, b :: bs, c :: cs => .tup [a, b, c] :: zip3A as bs cs
  | _, _, _ => []
def kZip2 : Option (List A) → Option (List A) → Option (List A)
  | some xs, some ys => some (zip2A xs ys)
  | _, _ => none
def kZip3 : Option (List A) → Option (List A) → Option (List A) → Option (List A)
  | some xs, some ys, some zs => some (zip3A xs ys zs)
  | _, _, _ => none
def kIt : Option Cell → Option (List A)
  | some (.lst xs) => some xs
  | _ => none
def kItD : Option Cell → Option (List A)
  | some (.dct _ ks) => some (ks.map (·.1))
  | some (.lck _ ks) => some (ks.map (·.1))
  | _ => none
def itS : A → Sto → Option (List A)
  | .lst xs, _ => some xs
  | .tup xs, _ => some xs
  | .ctp xs, _ => some xs
  | .str x, _ => some (x.map fun c => .str [c])
  | .ref n, s => kIt s[n]?
  | _, _ => none
def itD : A → Sto → Option (List A)
  | .dct _ ks, _ => some (ks.map (·.1))
  | .ref n, s => kItD s[n]?
  | _, _ => none
def rlenA : A → Sto → Option (List A)
  | .str x, _ => some (upFrom 0 1 x.length)
  | a, s => (seqOf s a).map fun xs => upFrom 0 1 xs.length
def itA (k : IK) (as : List A) (s : Sto) : Option (List A) :=
  match k, as with
  | .seq, [a] => itS a s
  | .keys, [a] => itD a s
  | .rng, [.int n] => if inB n then some (upFrom 0 1 n.toNat) else none
  | .rng, [.int a, .int b] => if inB a ∧ inB b then some (upFrom a 1 (b - a).toNat) else none
  | .rng, [.int a, .int b, .int c] => if inB a ∧ inB b ∧ 0 < c ∧ c < 2 ^ 30 then some (upFrom a c (turnsOf a b c)) else none
  | .rlen, [a] => rlenA a s
  | .enum, [a] => (lstOf s a).map (enumA 0)
  | .zip, [a, b] => kZip2 (lstOf s a) (lstOf s b)
  | .zip, [a, b, c] => kZip3 (lstOf s a) (lstOf s b) (lstOf s c)
  | .rev, [a] => (lstOf s a).map List.reverse
  | _, _ => none
def kill : List Nat → Loc → Loc
  | [], l => l
  | i :: is, l => kill is (l.set i none)
def setAll : List Nat → List A → Loc → Loc
  | i :: is, a :: as, l => setAll is as (l.set i (some a))
  | _, _, l => l
def kBind (is : List Nat) (l : Loc) : Option (List A) → Option Loc
  | some as => if as.length = is.length then some (setAll is as l) else none
  | none => none
def bindT (t : T) (a : A) (l : Loc) (s : Sto) : Option Loc :=
  match t with
  | .nm i => some (l.set i (some a))
  | .tp is => kBind is l (seqOf s a)

/-- a while's turns, as far as n -/
def whileN (c : Loc → Sto → R A) (b : Loc → Sto → Fl) (ks : List Nat) : Nat → Loc → Sto → Option Fl
  | 0, _, _ => none
  | n + 1, l, s => match c l s with
    | .ok (.bl d) s => if d = true then (match b l s with
      | .nx l s => whileN c b ks n (kill ks l) s
      | .cnt l s => whileN c b ks n (kill ks l) s
      | .brk l s => some (.nx (kill ks l) s)
      | r => some r) else some (.nx (kill ks l) s)
    | .exc e s => some (.exc e l s)
    | _ => some .bad
open Classical in
def whileR (c : Loc → Sto → R A) (b : Loc → Sto → Fl) (ks : List Nat) (l : Loc) (s : Sto) : Fl :=
  if h : ∃ n r, whileN c b ks n l s = some r then Classical.choose (Classical.choose_spec h) else .bad

/-! ### the evaluator: every continuation a named def, so that rewriting does not go ahead of the values -/
/-- the kind of thing whose method it is -/
inductive BK where | list | dict | str | both | mut
def BM.kd : BM → BK
  | .append => .list
  | .clear => .mut
  | .extend => .list
  | .get => .dict
  | .insert => .list
  | .lindex => .list
  | .sindex => .str
  | .join => .str
  | .partition => .str
  | .pop0 => .list
  | .pop1 => .list
  | .dpop => .dict
  | .remove => .list
  | .replace => .str
  | .split0 => .str
  | .split1 => .str
def BK.l : BK → Bool
  | .list => true
  | .both => true
  | _ => false
def BK.d : BK → Bool
  | .dict => true
  | .both => true
  | _ => false
def BK.m : BK → Bool
  | .dict => true
  | .both => true
  | .mut => true
  | _ => false
def BK.s : BK → Bool
  | .str => true
  | _ => false
def isC (k : BK) : Option Cell → Bool
  | some (.lst _) => k.l
  | some (.dct _ _) => k.m
  | some (.lck _ _) => k.d
  | _ => false
def isB (k : BK) : A → Sto → Bool
  | .str _, _ => k.s
  | .lst _, _ => k.l
  | .dct _ _, _ => k.d
  | .ref n, s => isC k s[n]?
  | _, _ => false
section conts
variable (fa fb fc : Loc → Sto → R A) (l : Loc)
def kLoc : Option (Option A) → Sto → R A
  | some (some a), s => .ok a s
  | _, _ => .bad
def kBin2 (op : BOp) (fz : Bool) (x y : A) (s : Sto) : R A := binA op fz x y s
def kBin1 (op : BOp) (fz : Bool) (x : A) (s : Sto) : R A := (fb l s).bind (kBin2 op fz x)
def kNeg : A → Sto → R A
  | .int i, s => .ok (.int (-i)) s
  | _, _ => .bad
def kNot : A → Sto → R A
  | .bl b, s => .ok (.bl (!b)) s
  | _, _ => .bad
def kIsBl : A → Sto → R A
  | .bl b, s => .ok (.bl b) s
  | _, _ => .bad
def kAnd : A → Sto → R A
  | .bl d, s => if d = true then (fb l s).bind kIsBl else .ok (.bl false) s
  | _, _ => .bad
def kOr : A → Sto → R A
  | .bl d, s => if d = true then .ok (.bl true) s else (fb l s).bind kIsBl
  | _, _ => .bad
def kCmp2 (op : COp) (x y : A) (s : Sto) : R A := cmpA op x y s
def kCmp1 (op : COp) (x : A) (s : Sto) : R A := (fb l s).bind (kCmp2 op x)
def kCh3 (o2 : COp) (y : A) : A → Sto → R A
  | .bl d, s => if d = true then (fc l s).bind (kCmp2 o2 y) else .ok (.bl false) s
  | _, _ => .bad
def kCh2 (o1 o2 : COp) (x y : A) (s : Sto) : R A := (cmpA o1 x y s).bind (kCh3 fc l o2 y)
def kCh1 (o1 o2 : COp) (x : A) (s : Sto) : R A := (fb l s).bind (kCh2 fc l o1 o2 x)
def isNonA : A → Bool
  | .non => true
  | _ => false
def kIsN (x : A) (s : Sto) : R A := .ok (.bl (isNonA x)) s
def kNotN (x : A) (s : Sto) : R A := .ok (.bl (!isNonA x)) s
def kIte : A → Sto → R A
  | .bl d, s => if d = true then fa l s else fb l s
  | _, _ => .bad
def kTup (as : List A) (s : Sto) : R A := .ok (.tup as) s
def kLst (fz : Bool) (as : List A) (s : Sto) : R A := mkL fz as s
def kDct2 (fz t : Bool) : Option (List (A × A)) → Sto → R A
  | some ps, s => if ps.all (fun kv => isKey t kv.1) = true then mkD fz t (ps.foldl (fun d kv => dput d kv.1 kv.2) []) s else .bad
  | none, _ => .bad
def kDct (fz t : Bool) (as : List A) (s : Sto) : R A := kDct2 fz t (pairs as) s
def kIdx2 (x y : A) (s : Sto) : R A := idxA x y s
def kIdx1 (x : A) (s : Sto) : R A := (fb l s).bind (kIdx2 x)
def kCut3 (fz : Bool) (x : A) (y z : Option Int) (s : Sto) : R A := cutA fz x y z s
def kCut2 (fhi : Loc → Sto → R (Option Int)) (fz : Bool) (x : A) (y : Option Int) (s : Sto) : R A := (fhi l s).bind (kCut3 fz x y)
def kCut1 (flo fhi : Loc → Sto → R (Option Int)) (fz : Bool) (x : A) (s : Sto) : R A := (flo l s).bind (kCut2 l fhi fz x)
def kRev2 (fz : Bool) : Option (List A) → Sto → R A
  | some as, s => mkL fz as.reverse s
  | none, _ => .bad
def kRev (fz : Bool) (x : A) (s : Sto) : R A := kRev2 fz (lstOf s x) s
def kCall (call : Nat → List A → Sto → R A) (f : Nat) (as : List A) (s : Sto) : R A := call f as s
def kCallv (call : Nat → List A → Sto → R A) : Option (Option A) → List A → Sto → R A
  | some (some (.fn f)), as, s => call f as s
  | _, _, _ => .bad
def kMake2 (n : Nat) : A → Sto → R A
  | .non, s => .ok (.ref n) s
  | _, _ => .bad
def kMake1 (call : Nat → List A → Sto → R A) (c : Nat) : Option Nat → List A → Sto → R A
  | some f, as, s => (call f (.ref s.length :: as) (s ++ [.ins c []])).bind (kMake2 s.length)
  | none, _, _ => .bad
def kMeth3 (call : Nat → List A → Sto → R A) (n f : Nat) (as : List A) (s : Sto) : R A := call f (.ref n :: as) s
def kMeth2 (call : Nat → List A → Sto → R A) (fs : Loc → Sto → R (List A)) (n : Nat) : Option A → Option Nat → Sto → R A
  | none, some f, s => (fs l s).bind (kMeth3 call n f)
  | _, _, _ => .bad
def kMeth1 (V : Env) (fs : Loc → Sto → R (List A)) (m : String) (n : Nat) : Option Cell → Sto → R A
  | some (.ins c f), s => kMeth2 l V.call fs n (fget f m) (V.meth c m) s
  | _, _ => .bad
def kMeth (V : Env) (fs : Loc → Sto → R (List A)) (m : String) : A → Sto → R A
  | .ref n, s => kMeth1 l V fs m n s[n]? s
  | _, _ => .bad
def kBm2 (m : BM) (fz : Bool) (x : A) (as : List A) (s : Sto) : R A := bmA m fz x as s
def kBm1 (fs : Loc → Sto → R (List A)) (m : BM) (fz : Bool) (x : A) (s : Sto) : R A := if isB m.kd x s = true then (fs l s).bind (kBm2 m fz x) else .bad
def kAttr1 (f : String) : Option Cell → Sto → R A
  | some (.ins _ fs), s => kOpt (fget fs f) s
  | _, _ => .bad
def kAttr (f : String) : A → Sto → R A
  | .ref n, s => kAttr1 f s[n]? s
  | _, _ => .bad
def kIsa (t : Ty) (x : A) (s : Sto) : R A := kBl (isaA t x s) s
end conts

/-! a dict that is walked: it is locked -/
def kLock (n : Nat) (s : Sto) : Option Cell → Sto
  | some (.dct t ks) => s.set n (.lck t ks)
  | _ => s
def kUnlock (n : Nat) (s : Sto) : Option Cell → Sto
  | some (.dct t ks) => s.set n (.dct t ks)
  | _ => s
def lockA : A → Sto → Sto
  | .ref n, s => kLock n s s[n]?
  | _, s => s
/-- s0: as it was before -/
def unlockA : A → Sto → Sto → Sto
  | .ref n, s0, s => kUnlock n s s0[n]?
  | _, _, s => s
def lockS : IK → List A → Sto → Sto
  | .keys, [a], s => lockA a s
  | _, _, s => s
def unlockS : IK → List A → Sto → Sto → Sto
  | .keys, [a], s0, s => unlockA a s0 s
  | _, _, _, s => s
/-! comprehensions -/
section comps
variable (fe fk : Loc → Sto → R A) (ft : Loc → Sto → R Bool) (tg : T) (k : IK) (as : List A) (l : Loc)
def kSome (y : A) (s : Sto) : R (Option A) := .ok (some y) s
def kElt (l1 : Loc) (b : Bool) (s : Sto) : R (Option A) := if b = true then (fe l1 s).bind kSome else .ok none s
def kTurn : Option Loc → Sto → R (Option A)
  | some l1, s => (ft l1 s).bind (kElt fe l1)
  | none, _ => .bad
def kPair2 (t : Bool) (y z : A) (s : Sto) : R (Option (A × A)) := if isKey t y = true then .ok (some (y, z)) s else .bad
def kPair1 (l1 : Loc) (t : Bool) (y : A) (s : Sto) : R (Option (A × A)) := (fe l1 s).bind (kPair2 t y)
def kEltD (t : Bool) (l1 : Loc) (b : Bool) (s : Sto) : R (Option (A × A)) := if b = true then (fk l1 s).bind (kPair1 fe l1 t) else .ok none s
def kTurnD (t : Bool) : Option Loc → Sto → R (Option (A × A))
  | some l1, s => (ft l1 s).bind (kEltD fe fk t l1)
  | none, _ => .bad
open Classical in
/-- the turns behind this one: all is what is walked -/
def kMore {α : Type} (all : List A) (o : Option α) (k : IK) (as : List A) (go : Sto → R (List α)) (s : Sto) : R (List α) :=
  if itA k as s = some all then (match go s with
    | .ok ys s => .ok (o.toList ++ ys) s
    | _ => .bad) else .bad
def compL (all : List A) : List A → Sto → R (List A)
  | [], s => .ok [] s
  | x :: xs, s => match kTurn fe ft (bindT tg x l s) s with
    | .ok o s => kMore all o k as (compL all xs) s
    | _ => .bad
def compD (t : Bool) (all : List A) : List A → Sto → R (List (A × A))
  | [], s => .ok [] s
  | x :: xs, s => match kTurnD fe fk ft t (bindT tg x l s) s with
    | .ok o s => kMore all o k as (compD t all xs) s
    | _ => .bad
def kMkL (fz : Bool) (ys : List A) (s : Sto) : R A := mkL fz ys s
def kMkD (fz t : Bool) (ys : List (A × A)) (s : Sto) : R A := mkD fz t (ys.foldl (fun d kv => dput d kv.1 kv.2) []) s
def kUnL (fz : Bool) (k : IK) (as : List A) (s0 : Sto) (ys : List A) (s : Sto) : R A := kMkL fz ys (unlockS k as s0 s)
def kUnD (fz t : Bool) (k : IK) (as : List A) (s0 : Sto) (ys : List (A × A)) (s : Sto) : R A := kMkD fz t ys (unlockS k as s0 s)
def kLc2 (fz : Bool) : Option (List A) → Sto → R A
  | some items, s => if items.length ≤ big then (compL fe ft tg k as l items items (lockS k as s)).bind (kUnL fz k as s) else .bad
  | none, _ => .bad
def kLc (fz : Bool) (as : List A) (s : Sto) : R A := kLc2 fe ft tg k as l fz (itA k as s) s
def kDc2 (fz t : Bool) : Option (List A) → Sto → R A
  | some items, s => if items.length ≤ big then (compD fe fk ft tg k as l t items items (lockS k as s)).bind (kUnD fz t k as s) else .bad
  | none, _ => .bad
def kDc (fz t : Bool) (as : List A) (s : Sto) : R A := kDc2 fe fk ft tg k as l fz t (itA k as s) s
end comps
def kXat (i : Nat) (f : String) (xat : Nat → String → Bool) : Option (Nat × Exn) → Sto → R A
  | some (j, e), s => if i = j ∧ xat e.c f = true then kOpt e.as.head? s else .bad
  | none, _ => .bad
def kXisa (i c : Nat) (sub : Nat → Nat → Bool) : Option (Nat × Exn) → Sto → R A
  | some (j, e), s => if i = j then .ok (.bl (sub e.c c)) s else .bad
  | none, _ => .bad
def kCons2 (a : A) (as : List A) (s : Sto) : R (List A) := .ok (a :: as) s
def kCons1 (fs : Loc → Sto → R (List A)) (l : Loc) (a : A) (s : Sto) : R (List A) := (fs l s).bind (kCons2 a)
def kOSome : A → Sto → R (Option Int)
  | .int i, s => .ok (some i) s
  | _, _ => .bad
def kTest : A → Sto → R Bool
  | .bl b, s => .ok b s
  | _, _ => .bad

mutual
def evE (V : Env) : E → Loc → Sto → R A
  | .loc i, l, s => kLoc l[i]? s
  | .glb g, _, s => kOpt (V.glb g) s
  | .fun_ f, _, s => .ok (.fn f) s
  | .non, _, s => .ok .non s
  | .bl b, _, s => .ok (.bl b) s
  | .int i, _, s => .ok (.int i) s
  | .str x, _, s => .ok (.str x) s
  | .bin op fz a b, l, s => (evE V a l s).bind (kBin1 (evE V b) l op fz)
  | .neg a, l, s => (evE V a l s).bind kNeg
  | .not a, l, s => (evE V a l s).bind kNot
  | .and a b, l, s => (evE V a l s).bind (kAnd (evE V b) l)
  | .or a b, l, s => (evE V a l s).bind (kOr (evE V b) l)
  | .cmp op a b, l, s => (evE V a l s).bind (kCmp1 (evE V b) l op)
  | .chain o1 o2 a b c, l, s => (evE V a l s).bind (kCh1 (evE V b) (evE V c) l o1 o2)
  | .isN a, l, s => (evE V a l s).bind kIsN
  | .notN a, l, s => (evE V a l s).bind kNotN
  | .ite c a b, l, s => (evE V c l s).bind (kIte (evE V a) (evE V b) l)
  | .tup es, l, s => (evEs V es l s).bind kTup
  | .lst fz es, l, s => (evEs V es l s).bind (kLst fz)
  | .dct fz t es, l, s => (evEs V es l s).bind (kDct fz t)
  | .idx a i, l, s => (evE V a l s).bind (kIdx1 (evE V i) l)
  | .cut fz a lo hi, l, s => (evE V a l s).bind (kCut1 l (evO V lo) (evO V hi) fz)
  | .rev fz a, l, s => (evE V a l s).bind (kRev fz)
  | .call f es, l, s => (evEs V es l s).bind (kCall V.call f)
  | .callv i es, l, s => (evEs V es l s).bind (kCallv V.call l[i]?)
  | .make c es, l, s => (evEs V es l s).bind (kMake1 V.call c (V.init c))
  | .meth m o es, l, s => (evE V o l s).bind (kMeth l V (evEs V es) m)
  | .bc f fz es, l, s => (evEs V es l s).bind (bcA f fz)
  | .bm m fz o es, l, s => (evE V o l s).bind (kBm1 l (evEs V es) m fz)
  | .attr o f, l, s => (evE V o l s).bind (kAttr f)
  | .isa a t, l, s => (evE V a l s).bind (kIsa t)
  | .lcomp fz elt tg k es c own, l, s => (evEs V es l s).bind (kLc (evE V elt) (evC V c) tg k (kill own l) fz)
  | .dcomp fz t key elt tg k es c own, l, s => (evEs V es l s).bind (kDc (evE V elt) (evE V key) (evC V c) tg k (kill own l) fz t)
  | .xattr i f, _, s => kXat i f V.xat V.exn s
  | .xisa i c, _, s => kXisa i c V.sub V.exn s
def evEs (V : Env) : List E → Loc → Sto → R (List A)
  | [], _, s => .ok [] s
  | e :: es, l, s => (evE V e l s).bind (kCons1 (evEs V es) l)
def evO (V : Env) : Option E → Loc → Sto → R (Option Int)
  | none, _, s => .ok none s
  | some e, l, s => (evE V e l s).bind kOSome
/-- a comprehension's test -/
def evC (V : Env) : Option E → Loc → Sto → R Bool
  | none, _, s => .ok true s
  | some e, l, s => (evE V e l s).bind kTest
end

/-- an expression's value, then a statement's end -/
def R.fl {α : Type} (l : Loc) : R α → (α → Sto → Fl) → Fl
  | .ok a s, k => k a s
  | .exc e s, _ => .exc e l s
  | .bad, _ => .bad
def Fl.seq : Fl → (Loc → Sto → Fl) → Fl
  | .nx l s, k => k l s
  | r, _ => r
def kSbA (s : Sto) (n : Nat) (v : A) : A → Option Cell → Option Sto
  | i, some (.dct t ks) => if isKey t i = true ∧ ks.length < big then some (s.set n (.dct t (dput ks i v))) else none
  | .int j, some (.lst xs) => (ixN xs.length j).map fun k => s.set n (.lst (xs.set k v))
  | _, _ => none
def subA : A → A → A → Sto → Option Sto
  | .ref n, i, v, s => kSbA s n v i s[n]?
  | _, _, _, _ => none
def Fl.onS : Fl → (Sto → Sto) → Fl
  | .nx l s, f => .nx l (f s)
  | .brk l s, f => .brk l (f s)
  | .cnt l s, f => .cnt l (f s)
  | .ret a s, f => .ret a (f s)
  | .exc _ _ _, _ => .bad
  | .bad, _ => .bad
def unFl : IK → List A → Sto → Fl → Fl
  | .keys, [a], s0, r => r.onS (unlockA a s0)
  | _, _, _, r => r
section sconts
variable (fe fo fi : Loc → Sto → R A) (fs ga gb : Loc → Sto → Fl) (l : Loc)
def kNx : Option Loc → Sto → Fl
  | some l, s => .nx l s
  | none, _ => .bad
def kSto (l : Loc) : Option Sto → Fl
  | some s => .nx l s
  | none => .bad
def kAsg (t : T) (a : A) (s : Sto) : Fl := kNx (bindT t a l s) s
def kSub3 (v x y : A) (s : Sto) : Fl := kSto l (subA x y v s)
def kSub2 (v x : A) (s : Sto) : Fl := (fi l s).fl l (kSub3 l v x)
def kSub1 (v : A) (s : Sto) : Fl := (fo l s).fl l (kSub2 fi l v)
def kFld3 (f : String) (v : A) (n : Nat) : Option Cell → Sto → Fl
  | some (.ins c fs), s => if fs.length < 1000 then .nx l (s.set n (.ins c (fput fs f v))) else .bad
  | _, _ => .bad
def kFld2 (f : String) (v : A) : A → Sto → Fl
  | .ref n, s => kFld3 l f v n s[n]? s
  | _, _ => .bad
def kFld1 (f : String) (v : A) (s : Sto) : Fl := (fo l s).fl l (kFld2 l f v)
def kPar (is : List Nat) (as : List A) (s : Sto) : Fl := if as.length = is.length then .nx (setAll is as l) s else .bad
def kEx (_ : A) (s : Sto) : Fl := .nx l s
def kIf : A → Sto → Fl
  | .bl d, s => if d = true then ga l s else gb l s
  | _, _ => .bad
def kRet (a : A) (s : Sto) : Fl := .ret a s
def kRais (c : Nat) (as : List A) (s : Sto) : Fl := .exc ⟨c, as⟩ l s
open Classical in
/-- the turns of a for behind this one -/
def kAgain (all : List A) (k : IK) (as : List A) (ks : List Nat) (go : Loc → Sto → Fl) (l : Loc) (s : Sto) : Fl :=
  if itA k as s = some all then go (kill ks l) s else .bad
def kTurnF (g : Loc → Sto → Fl) : Option Loc → Sto → Fl
  | some l, s => g l s
  | none, _ => .bad
/-- behind a turn's body -/
def kLoop (ks : List Nat) (again : Loc → Sto → Fl) : Fl → Fl
  | .nx l s => again l s
  | .cnt l s => again l s
  | .brk l s => .nx (kill ks l) s
  | .ret a s => .ret a s
  | .exc e l s => .exc e l s
  | .bad => .bad
def forL (t : T) (k : IK) (as : List A) (ks : List Nat) (g : Loc → Sto → Fl) (all : List A) : List A → Loc → Sto → Fl
  | [], l, s => .nx (kill ks l) s
  | x :: xs, l, s => kLoop ks (kAgain all k as ks (forL t k as ks g all xs)) (kTurnF g (bindT t x l s) s)
def kFor2 (t : T) (k : IK) (as : List A) (ks : List Nat) (g : Loc → Sto → Fl) : Option (List A) → Sto → Fl
  | some items, s => unFl k as s (forL t k as ks g items items l (lockS k as s))
  | none, _ => .bad
def kFor (t : T) (k : IK) (ks : List Nat) (g : Loc → Sto → Fl) (as : List A) (s : Sto) : Fl := kFor2 l t k as ks g (itA k as s) s
def kTry (h : Exn → Loc → Sto → Fl) : Fl → Fl
  | .exc e l s => h e l s
  | .nx l s => .nx l s
  | .cnt l s => .cnt l s
  | .brk l s => .brk l s
  | .ret a s => .ret a s
  | .bad => .bad
def kCalm : Fl → Fl
  | .exc _ _ _ => .bad
  | .nx l s => .nx l s
  | .cnt l s => .cnt l s
  | .brk l s => .brk l s
  | .ret a s => .ret a s
  | .bad => .bad
def kGone (i : Nat) : Fl → Fl
  | .exc _ _ _ => .bad
  | .nx l s => .nx (l.set i none) s
  | .cnt l s => .cnt (l.set i none) s
  | .brk l s => .brk (l.set i none) s
  | .ret a s => .ret a s
  | .bad => .bad
end sconts
abbrev Env.with (V : Env) (x : Option (Nat × Exn)) : Env := { V with exn := x }
mutual
def evS (V : Env) : S → Loc → Sto → Fl
  | .asg t e, l, s => (evE V e l s).fl l (kAsg l t)
  | .sub o i e, l, s => (evE V e l s).fl l (kSub1 (evE V o) (evE V i) l)
  | .fld o f e, l, s => (evE V e l s).fl l (kFld1 (evE V o) l f)
  | .par is es, l, s => (evEs V es l s).fl l (kPar l is)
  | .ex e, l, s => (evE V e l s).fl l (kEx l)
  | .iff c a b, l, s => (evE V c l s).fl l (kIf (evSs V a) (evSs V b) l)
  | .whl c b ks, l, s => whileR (evE V c) (evSs V b) ks l s
  | .forr t k es b ks, l, s => (evEs V es l s).fl l (kFor l t k ks (evSs V b))
  | .ret e, l, s => (evE V e l s).fl l kRet
  | .retN, _, s => .ret .non s
  | .rais c es, l, s => (evEs V es l s).fl l (kRais l c)
  | .tryy b hs, l, s => kTry (evH V hs) (evSs V b l s)
  | .brk, l, s => .brk l s
  | .cnt, l, s => .cnt l s
  | .pass, l, s => .nx l s
  | .kil is, l, s => .nx (kill is l) s
def evSs (V : Env) : List S → Loc → Sto → Fl
  | [], l, s => .nx l s
  | st :: sts, l, s => (evS V st l s).seq (evSs V sts)
def evH (V : Env) : List Hd → Exn → Loc → Sto → Fl
  | [], e, l, s => .exc e l s
  | .mk c none b :: r, e, l, s => if V.sub e.c c = true then kCalm (evSs (V.with none) b l s) else evH V r e l s
  | .mk c (some i) b :: r, e, l, s => if V.sub e.c c = true then (if i < l.length then kGone i (evSs (V.with (some (i, e))) b (l.set i none) s) else .bad) else evH V r e l s
end

/-! ### defs, calls -/
/-- a def: its parameters' and its slots' numbers, its body; pre: what of the store it sees (none: all, and its end is not frozen) -/
structure Fn where
  np : Nat
  nl : Nat
  body : List S
  pre : Option Nat
structure Tb where
  fns : Nat → Option Fn
  glb : Nat → Option A
  meth : Nat → String → Option Nat
  init : Nat → Option Nat
  sub : Nat → Nat → Bool
  xat : Nat → String → Bool
def Tb.env (t : Tb) (c : Nat → List A → Sto → R A) : Env := ⟨c, t.glb, t.meth, t.init, t.sub, t.xat, none⟩
def locs (np nl : Nat) (as : List A) : Loc := as.map some ++ List.replicate (nl - np) none
def Fl.res : Fl → R A
  | .nx _ s => .ok .non s
  | .ret a s => .ok a s
  | .exc e _ s => .exc e s
  | _ => .bad
def runF (V : Env) (f : Fn) (as : List A) (s : Sto) : R A := if as.length = f.np then (evSs V f.body (locs f.np f.nl as) s).res else .bad
/-- behind a def that saw the first p objects alone -/
def back (p : Nat) (kept : Bool) (s : Sto) : R A → R A
  | .ok a s1 => match frz s1 p 60 a with
    | some b => if (s1.take p).all (lowC p) = true ∧ p ≤ s1.length ∧ (kept = true ∨ flat b = true ∧ (s1.take p).all (flatC p) = true) then .ok b (s1.take p ++ s.drop p) else .bad
    | none => .bad
  | .exc e s1 => if (s1.take p).all (lowC p) = true ∧ p ≤ s1.length ∧ e.as.all flat = true ∧ (kept = true ∨ (s1.take p).all (flatC p) = true) then .exc e (s1.take p ++ s.drop p) else .bad
  | .bad => .bad
def callF (t : Tb) : Nat → Nat → List A → Sto → R A
  | 0, _, _, _ => .bad
  | k + 1, f, as, s => match t.fns f with
    | none => .bad
    | some fd => match fd.pre with
      | none => runF (t.env (callF t k)) fd as s
      | some p => match mapO (frz s p 60) as with
        | some bs => if (s.take p).all (lowC p) = true ∧ p ≤ s.length then back p (as.all (lowA p)) s (runF (t.env (callF t k)) fd bs (s.take p)) else .bad
        | none => .bad

/-! ### laws of the evaluator -/
theorem whileN_mono (c : Loc → Sto → R A) (b : Loc → Sto → Fl) (ks : List Nat) : ∀ (n m : Nat) (l : Loc) (s : Sto) (r : Fl), n ≤ m → whileN c b ks n l s = some r → whileN c b ks m l s = some r
  | 0, _, _, _, _, _, h => by cases h
  | n + 1, 0, _, _, _, hn, _ => absurd hn (by omega)
  | n + 1, m + 1, l, s, r, hn, h => by
    have ih := fun l s r h => whileN_mono c b ks n m l s r (by omega) h
    unfold whileN at h ⊢
    split at h
    · rename_i d s1 e1
      split at h
      · rename_i hd
        simp only [hd, if_true] at *
        split at h <;> first | exact ih _ _ _ h | exact h
      · rename_i hd
        rw [if_neg hd]
        exact h
    · exact h
    · exact h
theorem whileR_of {c : Loc → Sto → R A} {b : Loc → Sto → Fl} {ks : List Nat} {l : Loc} {s : Sto} {n : Nat} {r : Fl} (h : whileN c b ks n l s = some r) : whileR c b ks l s = r := by
  have hx : ∃ n r, whileN c b ks n l s = some r := ⟨n, r, h⟩
  unfold whileR
  rw [dif_pos hx]
  have h2 := Classical.choose_spec (Classical.choose_spec hx)
  have e1 := whileN_mono c b ks _ (max n (Classical.choose hx)) _ _ _ (Nat.le_max_left _ _) h
  have e2 := whileN_mono c b ks _ (max n (Classical.choose hx)) _ _ _ (Nat.le_max_right _ _) h2
  rw [e1] at e2
  exact (Option.some.inj e2).symm
/-- one turn -/
theorem whileR_eq (c : Loc → Sto → R A) (b : Loc → Sto → Fl) (ks : List Nat) (l : Loc) (s : Sto) : whileR c b ks l s = (match c l s with
    | .ok (.bl d) s => if d = true then (match b l s with
      | .nx l s => whileR c b ks (kill ks l) s
      | .cnt l s => whileR c b ks (kill ks l) s
      | .brk l s => .nx (kill ks l) s
      | r => r) else .nx (kill ks l) s
    | .exc e s => .exc e l s
    | _ => .bad) := by
  by_cases hx : ∃ n r, whileN c b ks n l s = some r
  · obtain ⟨n, r, h⟩ := hx
    rw [whileR_of h]
    cases n with
    | zero => cases h
    | succ n =>
      unfold whileN at h
      split at h
      · rename_i d s1 e1
        split at h
        · rename_i hd
          simp only [hd, if_true] at *
          split at h
          · exact (whileR_of h).symm
          · exact (whileR_of h).symm
          · exact (Option.some.inj h).symm
          · exact (Option.some.inj h).symm
        · rename_i hd
          rw [if_neg hd]
          exact (Option.some.inj h).symm
      · exact (Option.some.inj h).symm
      · exact (Option.some.inj h).symm
  · have e0 : whileR c b ks l s = .bad := by unfold whileR; rw [dif_neg hx]
    rw [e0]
    have no : ∀ n r, whileN c b ks n l s ≠ some r := fun n r h => hx ⟨n, r, h⟩
    cases e1 : c l s with
    | bad => rfl
    | exc e s1 => exact absurd (show whileN c b ks 1 l s = some (.exc e l s1) by unfold whileN; rw [e1]) (no 1 _)
    | ok a s1 =>
      cases a with
      | bl d =>
        dsimp only
        by_cases hd : d = true
        · rw [if_pos hd]
          have go : ∀ l2 s2, (∀ n, whileN c b ks n (kill ks l2) s2 = none) → Fl.bad = whileR c b ks (kill ks l2) s2 := fun l2 s2 h => by
            unfold whileR
            rw [dif_neg]
            rintro ⟨n, r, q⟩
            rw [h n] at q
            cases q
          have key : ∀ n, whileN c b ks (n + 1) l s = none := fun n => by
            cases q : whileN c b ks (n + 1) l s with
            | none => rfl
            | some r => exact absurd q (no _ _)
          cases e2 : b l s1 with
          | nx l2 s2 => exact go l2 s2 fun n => by have := key n; unfold whileN at this; rw [e1] at this; simpa [hd, e2] using this
          | cnt l2 s2 => exact go l2 s2 fun n => by have := key n; unfold whileN at this; rw [e1] at this; simpa [hd, e2] using this
          | brk l2 s2 => have := key 0; unfold whileN at this; rw [e1] at this; simp [hd, e2] at this
          | ret a s2 => have := key 0; unfold whileN at this; rw [e1] at this; simp [hd, e2] at this
          | exc e l2 s2 => have := key 0; unfold whileN at this; rw [e1] at this; simp [hd, e2] at this
          | bad => rfl
        · have := no 1 (.nx (kill ks l) s1)
          unfold whileN at this
          rw [e1] at this
          simp [hd] at this
      | _ => rfl
set_option autoImplicit true
@[simp] theorem p0 : evE V (.loc i) l s = (kLoc l[i]? s) := by first | rfl | (unfold dat; rfl) | (cases n <;> rfl) | (cases is <;> rfl) | (cases as <;> rfl)
@[simp] theorem p1 : evE V (.glb g) u1 s = (kOpt (V.glb g) s) := by first | rfl | (unfold dat; rfl) | (cases n <;> rfl) | (cases is <;> rfl) | (cases as <;> rfl)
@[simp] theorem p2 : evE V (.fun_ f) u1 s = (.ok (.fn f) s) := by first | rfl | (unfold dat; rfl) | (cases n <;> rfl) | (cases is <;> rfl) | (cases as <;> rfl)
@[simp] theorem p3 : evE V .non u1 s = (.ok .non s) := by first | rfl | (unfold dat; rfl) | (cases n <;> rfl) | (cases is <;> rfl) | (cases as <;> rfl)
@[simp] theorem p4 : evE V (.bl b) u1 s = (.ok (.bl b) s) := by first | rfl | (unfold dat; rfl) | (cases n <;> rfl) | (cases is <;> rfl) | (cases as <;> rfl)
@[simp] theorem p5 : evE V (.int i) u1 s = (.ok (.int i) s) := by first | rfl | (unfold dat; rfl) | (cases n <;> rfl) | (cases is <;> rfl) | (cases as <;> rfl)
@[simp] theorem p6 : evE V (.str x) u1 s = (.ok (.str x) s) := by first | rfl | (unfold dat; rfl) | (cases n <;> rfl) | (cases is <;> rfl) | (cases as <;> rfl)
@[simp] theorem p7 : evE V (.bin op fz a b) l s = ((evE V a l s).bind (kBin1 (evE V b) l op fz)) := by first | rfl | (unfold dat; rfl) | (cases n <;> rfl) | (cases is <;> rfl) | (cases as <;> rfl)
@[simp] theorem p8 : evE V (.neg a) l s = ((evE V a l s).bind kNeg) := by first | rfl | (unfold dat; rfl) | (cases n <;> rfl) | (cases is <;> rfl) | (cases as <;> rfl)
@[simp] theorem p9 : evE V (.not a) l s = ((evE V a l s).bind kNot) := by first | rfl | (unfold dat; rfl) | (cases n <;> rfl) | (cases is <;> rfl) | (cases as <;> rfl)
@[simp] theorem p10 : evE V (.and a b) l s = ((evE V a l s).bind (kAnd (evE V b) l)) := by first | rfl | (unfold dat; rfl) | (cases n <;> rfl) | (cases is <;> rfl) | (cases as <;> rfl)
@[simp] theorem p11 : evE V (.or a b) l s = ((evE V a l s).bind (kOr (evE V b) l)) := by first | rfl | (unfold dat; rfl) | (cases n <;> rfl) | (cases is <;> rfl) | (cases as <;> rfl)
@[simp] theorem p12 : evE V (.cmp op a b) l s = ((evE V a l s).bind (kCmp1 (evE V b) l op)) := by first | rfl | (unfold dat; rfl) | (cases n <;> rfl) | (cases is <;> rfl) | (cases as <;> rfl)
@[simp] theorem p13 : evE V (.chain o1 o2 a b c) l s = ((evE V a l s).bind (kCh1 (evE V b) (evE V c) l o1 o2)) := by first | rfl | (unfold dat; rfl) | (cases n <;> rfl) | (cases is <;> rfl) | (cases as <;> rfl)
@[simp] theorem p14 : evE V (.isN a) l s = ((evE V a l s).bind kIsN) := by first | rfl | (unfold dat; rfl) | (cases n <;> rfl) | (cases is <;> rfl) | (cases as <;> rfl)
@[simp] theorem p15 : evE V (.notN a) l s = ((evE V a l s).bind kNotN) := by first | rfl | (unfold dat; rfl) | (cases n <;> rfl) | (cases is <;> rfl) | (cases as <;> rfl)
@[simp] theorem p16 : evE V (.ite c a b) l s = ((evE V c l s).bind (kIte (evE V a) (evE V b) l)) := by first | rfl | (unfold dat; rfl) | (cases n <;> rfl) | (cases is <;> rfl) | (cases as <;> rfl)
@[simp] theorem p17 : evE V (.tup es) l s = ((evEs V es l s).bind kTup) := by first | rfl | (unfold dat; rfl) | (cases n <;> rfl) | (cases is <;> rfl) | (cases as <;> rfl)
@[simp] theorem p18 : evE V (.lst fz es) l s = ((evEs V es l s).bind (kLst fz)) := by first | rfl | (unfold dat; rfl) | (cases n <;> rfl) | (cases is <;> rfl) | (cases as <;> rfl)
@[simp] theorem p19 : evE V (.dct fz t es) l s = ((evEs V es l s).bind (kDct fz t)) := by first | rfl | (unfold dat; rfl) | (cases n <;> rfl) | (cases is <;> rfl) | (cases as <;> rfl)
@[simp] theorem p20 : evE V (.idx a i) l s = ((evE V a l s).bind (kIdx1 (evE V i) l)) := by first | rfl | (unfold dat; rfl) | (cases n <;> rfl) | (cases is <;> rfl) | (cases as <;> rfl)
@[simp] theorem p21 : evE V (.cut fz a lo hi) l s = ((evE V a l s).bind (kCut1 l (evO V lo) (evO V hi) fz)) := by first | rfl | (unfold dat; rfl) | (cases n <;> rfl) | (cases is <;> rfl) | (cases as <;> rfl)
@[simp] theorem p22 : evE V (.rev fz a) l s = ((evE V a l s).bind (kRev fz)) := by first | rfl | (unfold dat; rfl) | (cases n <;> rfl) | (cases is <;> rfl) | (cases as <;> rfl)
@[simp] theorem p23 : evE V (.call f es) l s = ((evEs V es l s).bind (kCall V.call f)) := by first | rfl | (unfold dat; rfl) | (cases n <;> rfl) | (cases is <;> rfl) | (cases as <;> rfl)
@[simp] theorem p24 : evE V (.callv i es) l s = ((evEs V es l s).bind (kCallv V.call l[i]?)) := by first | rfl | (unfold dat; rfl) | (cases n <;> rfl) | (cases is <;> rfl) | (cases as <;> rfl)
@[simp] theorem p25 : evE V (.make c es) l s = ((evEs V es l s).bind (kMake1 V.call c (V.init c))) := by first | rfl | (unfold dat; rfl) | (cases n <;> rfl) | (cases is <;> rfl) | (cases as <;> rfl)
@[simp] theorem p26 : evE V (.meth m o es) l s = ((evE V o l s).bind (kMeth l V (evEs V es) m)) := by first | rfl | (unfold dat; rfl) | (cases n <;> rfl) | (cases is <;> rfl) | (cases as <;> rfl)
@[simp] theorem p27 : evE V (.bc f fz es) l s = ((evEs V es l s).bind (bcA f fz)) := by first | rfl | (unfold dat; rfl) | (cases n <;> rfl) | (cases is <;> rfl) | (cases as <;> rfl)
@[simp] theorem p28 : evE V (.bm m fz o es) l s = ((evE V o l s).bind (kBm1 l (evEs V es) m fz)) := by first | rfl | (unfold dat; rfl) | (cases n <;> rfl) | (cases is <;> rfl) | (cases as <;> rfl)
@[simp] theorem p29 : evE V (.attr o f) l s = ((evE V o l s).bind (kAttr f)) := by first | rfl | (unfold dat; rfl) | (cases n <;> rfl) | (cases is <;> rfl) | (cases as <;> rfl)
@[simp] theorem p30 : evE V (.isa a t) l s = ((evE V a l s).bind (kIsa t)) := by first | rfl | (unfold dat; rfl) | (cases n <;> rfl) | (cases is <;> rfl) | (cases as <;> rfl)
@[simp] theorem p31 : evE V (.lcomp fz elt tg k es c own) l s = ((evEs V es l s).bind (kLc (evE V elt) (evC V c) tg k (kill own l) fz)) := by first | rfl | (unfold dat; rfl) | (cases n <;> rfl) | (cases is <;> rfl) | (cases as <;> rfl)
@[simp] theorem p32 : evE V (.dcomp fz t key elt tg k es c own) l s = ((evEs V es l s).bind (kDc (evE V elt) (evE V key) (evC V c) tg k (kill own l) fz t)) := by first | rfl | (unfold dat; rfl) | (cases n <;> rfl) | (cases is <;> rfl) | (cases as <;> rfl)
@[simp] theorem p33 : evE V (.xattr i f) u1 s = (kXat i f V.xat V.exn s) := by first | rfl | (unfold dat; rfl) | (cases n <;> rfl) | (cases is <;> rfl) | (cases as <;> rfl)
@[simp] theorem p34 : evE V (.xisa i c) u1 s = (kXisa i c V.sub V.exn s) := by first | rfl | (unfold dat; rfl) | (cases n <;> rfl) | (cases is <;> rfl) | (cases as <;> rfl)
@[simp] theorem p35 : evEs V [] u1 s = (.ok [] s) := by first | rfl | (unfold dat; rfl) | (cases n <;> rfl) | (cases is <;> rfl) | (cases as <;> rfl)
@[simp] theorem p36 : evEs V (e :: es) l s = ((evE V e l s).bind (kCons1 (evEs V es) l)) := by first | rfl | (unfold dat; rfl) | (cases n <;> rfl) | (cases is <;> rfl) | (cases as <;> rfl)
@[simp] theorem p37 : evO V none u1 s = (.ok none s) := by first | rfl | (unfold dat; rfl) | (cases n <;> rfl) | (cases is <;> rfl) | (cases as <;> rfl)
@[simp] theorem p38 : evO V (some e) l s = ((evE V e l s).bind kOSome) := by first | rfl | (unfold dat; rfl) | (cases n <;> rfl) | (cases is <;> rfl) | (cases as <;> rfl)
@[simp] theorem p39 : evC V none u1 s = (.ok true s) := by first | rfl | (unfold dat; rfl) | (cases n <;> rfl) | (cases is <;> rfl) | (cases as <;> rfl)
@[simp] theorem p40 : evC V (some e) l s = ((evE V e l s).bind kTest) := by first | rfl | (unfold dat; rfl) | (cases n <;> rfl) | (cases is <;> rfl) | (cases as <;> rfl)
@[simp] theorem p41 : evS V (.asg t e) l s = ((evE V e l s).fl l (kAsg l t)) := by first | rfl | (unfold dat; rfl) | (cases n <;> rfl) | (cases is <;> rfl) | (cases as <;> rfl)
@[simp] theorem p42 : evS V (.sub o i e) l s = ((evE V e l s).fl l (kSub1 (evE V o) (evE V i) l)) := by first | rfl | (unfold dat; rfl) | (cases n <;> rfl) | (cases is <;> rfl) | (cases as <;> rfl)
@[simp] theorem p43 : evS V (.fld o f e) l s = ((evE V e l s).fl l (kFld1 (evE V o) l f)) := by first | rfl | (unfold dat; rfl) | (cases n <;> rfl) | (cases is <;> rfl) | (cases as <;> rfl)
@[simp] theorem p44 : evS V (.par is es) l s = ((evEs V es l s).fl l (kPar l is)) := by first | rfl | (unfold dat; rfl) | (cases n <;> rfl) | (cases is <;> rfl) | (cases as <;> rfl)
@[simp] theorem p45 : evS V (.ex e) l s = ((evE V e l s).fl l (kEx l)) := by first | rfl | (unfold dat; rfl) | (cases n <;> rfl) | (cases is <;> rfl) | (cases as <;> rfl)
@[simp] theorem p46 : evS V (.iff c a b) l s = ((evE V c l s).fl l (kIf (evSs V a) (evSs V b) l)) := by first | rfl | (unfold dat; rfl) | (cases n <;> rfl) | (cases is <;> rfl) | (cases as <;> rfl)
@[simp] theorem p47 : evS V (.whl c b ks) l s = (whileR (evE V c) (evSs V b) ks l s) := by first | rfl | (unfold dat; rfl) | (cases n <;> rfl) | (cases is <;> rfl) | (cases as <;> rfl)
@[simp] theorem p48 : evS V (.forr t k es b ks) l s = ((evEs V es l s).fl l (kFor l t k ks (evSs V b))) := by first | rfl | (unfold dat; rfl) | (cases n <;> rfl) | (cases is <;> rfl) | (cases as <;> rfl)
@[simp] theorem p49 : evS V (.ret e) l s = ((evE V e l s).fl l kRet) := by first | rfl | (unfold dat; rfl) | (cases n <;> rfl) | (cases is <;> rfl) | (cases as <;> rfl)
@[simp] theorem p50 : evS V .retN u1 s = (.ret .non s) := by first | rfl | (unfold dat; rfl) | (cases n <;> rfl) | (cases is <;> rfl) | (cases as <;> rfl)
@[simp] theorem p51 : evS V (.rais c es) l s = ((evEs V es l s).fl l (kRais l c)) := by first | rfl | (unfold dat; rfl) | (cases n <;> rfl) | (cases is <;> rfl) | (cases as <;> rfl)
@[simp] theorem p52 : evS V (.tryy b hs) l s = (kTry (evH V hs) (evSs V b l s)) := by first | rfl | (unfold dat; rfl) | (cases n <;> rfl) | (cases is <;> rfl) | (cases as <;> rfl)
@[simp] theorem p53 : evS V .brk l s = (.brk l s) := by first | rfl | (unfold dat; rfl) | (cases n <;> rfl) | (cases is <;> rfl) | (cases as <;> rfl)
@[simp] theorem p54 : evS V .cnt l s = (.cnt l s) := by first | rfl | (unfold dat; rfl) | (cases n <;> rfl) | (cases is <;> rfl) | (cases as <;> rfl)
@[simp] theorem p55 : evS V .pass l s = (.nx l s) := by first | rfl | (unfold dat; rfl) | (cases n <;> rfl) | (cases is <;> rfl) | (cases as <;> rfl)
@[simp] theorem p56 : evS V (.kil is) l s = (.nx (kill is l) s) := by first | rfl | (unfold dat; rfl) | (cases n <;> rfl) | (cases is <;> rfl) | (cases as <;> rfl)
@[simp] theorem p57 : evSs V [] l s = (.nx l s) := by first | rfl | (unfold dat; rfl) | (cases n <;> rfl) | (cases is <;> rfl) | (cases as <;> rfl)
@[simp] theorem p58 : evSs V (st :: sts) l s = ((evS V st l s).seq (evSs V sts)) := by first | rfl | (unfold dat; rfl) | (cases n <;> rfl) | (cases is <;> rfl) | (cases as <;> rfl)
@[simp] theorem p59 : evH V [] e l s = (.exc e l s) := by first | rfl | (unfold dat; rfl) | (cases n <;> rfl) | (cases is <;> rfl) | (cases as <;> rfl)
@[simp] theorem p60 : evH V (.mk c none b :: r) e l s = (if V.sub e.c c = true then kCalm (evSs (V.with none) b l s) else evH V r e l s) := by first | rfl | (unfold dat; rfl) | (cases n <;> rfl) | (cases is <;> rfl) | (cases as <;> rfl)
@[simp] theorem p61 : evH V (.mk c (some i) b :: r) e l s = (if V.sub e.c c = true then (if i < l.length then kGone i (evSs (V.with (some (i, e))) b (l.set i none) s) else .bad) else evH V r e l s) := by first | rfl | (unfold dat; rfl) | (cases n <;> rfl) | (cases is <;> rfl) | (cases as <;> rfl)
@[simp] theorem p62 : kill  [] l = (l) := by first | rfl | (unfold dat; rfl) | (cases n <;> rfl) | (cases is <;> rfl) | (cases as <;> rfl)
@[simp] theorem p63 : kill  (i :: is) l = (kill is (l.set i none)) := by first | rfl | (unfold dat; rfl) | (cases n <;> rfl) | (cases is <;> rfl) | (cases as <;> rfl)
@[simp] theorem p64 : intsOf  [] = (some []) := by first | rfl | (unfold dat; rfl) | (cases n <;> rfl) | (cases is <;> rfl) | (cases as <;> rfl)
@[simp] theorem p65 : intsOf  (.int i :: r) = ((intsOf r).map (i :: ·)) := by first | rfl | (unfold dat; rfl) | (cases n <;> rfl) | (cases is <;> rfl) | (cases as <;> rfl)
@[simp] theorem p66 : blsOf  [] = (some []) := by first | rfl | (unfold dat; rfl) | (cases n <;> rfl) | (cases is <;> rfl) | (cases as <;> rfl)
@[simp] theorem p67 : blsOf  (.bl i :: r) = ((blsOf r).map (i :: ·)) := by first | rfl | (unfold dat; rfl) | (cases n <;> rfl) | (cases is <;> rfl) | (cases as <;> rfl)
@[simp] theorem p68 : strsOf  [] = (some []) := by first | rfl | (unfold dat; rfl) | (cases n <;> rfl) | (cases is <;> rfl) | (cases as <;> rfl)
@[simp] theorem p69 : strsOf  (.str i :: r) = ((strsOf r).map (i :: ·)) := by first | rfl | (unfold dat; rfl) | (cases n <;> rfl) | (cases is <;> rfl) | (cases as <;> rfl)
@[simp] theorem p70 : fget  [] u1 = (none) := by first | rfl | (unfold dat; rfl) | (cases n <;> rfl) | (cases is <;> rfl) | (cases as <;> rfl)
@[simp] theorem p71 : fget  ((g, v) :: r) f = (if g = f then some v else fget r f) := by first | rfl | (unfold dat; rfl) | (cases n <;> rfl) | (cases is <;> rfl) | (cases as <;> rfl)
@[simp] theorem p72 : fput  [] f y = ([(f, y)]) := by first | rfl | (unfold dat; rfl) | (cases n <;> rfl) | (cases is <;> rfl) | (cases as <;> rfl)
@[simp] theorem p73 : fput  ((g, v) :: r) f y = (if g = f then (f, y) :: r else (g, v) :: fput r f y) := by first | rfl | (unfold dat; rfl) | (cases n <;> rfl) | (cases is <;> rfl) | (cases as <;> rfl)
@[simp] theorem p74 : eqAs  [] [] = (true) := by first | rfl | (unfold dat; rfl) | (cases n <;> rfl) | (cases is <;> rfl) | (cases as <;> rfl)
@[simp] theorem p75 : eqAs  (x :: xs) (y :: ys) = (eqA x y && eqAs xs ys) := by first | rfl | (unfold dat; rfl) | (cases n <;> rfl) | (cases is <;> rfl) | (cases as <;> rfl)
@[simp] theorem p76 : eqAs  [] (u1 :: u2) = (false) := by first | rfl | (unfold dat; rfl) | (cases n <;> rfl) | (cases is <;> rfl) | (cases as <;> rfl)
@[simp] theorem p77 : eqAs  (u1 :: u2) [] = (false) := by first | rfl | (unfold dat; rfl) | (cases n <;> rfl) | (cases is <;> rfl) | (cases as <;> rfl)
@[simp] theorem p78 : lowA p (.tup as) = (lowAs p as) := by first | rfl | (unfold dat; rfl) | (cases n <;> rfl) | (cases is <;> rfl) | (cases as <;> rfl)
@[simp] theorem p79 : lowA p (.lst as) = (lowAs p as) := by first | rfl | (unfold dat; rfl) | (cases n <;> rfl) | (cases is <;> rfl) | (cases as <;> rfl)
@[simp] theorem p80 : lowA p (.dct u1 ks) = (lowKs p ks) := by first | rfl | (unfold dat; rfl) | (cases n <;> rfl) | (cases is <;> rfl) | (cases as <;> rfl)
@[simp] theorem p81 : lowA p (.ref n) = (decide (n < p)) := by first | rfl | (unfold dat; rfl) | (cases n <;> rfl) | (cases is <;> rfl) | (cases as <;> rfl)
@[simp] theorem p82 : lowA p .non = (true) := by first | rfl | (unfold dat; rfl) | (cases n <;> rfl) | (cases is <;> rfl) | (cases as <;> rfl)
@[simp] theorem p83 : lowA p (.bl u1) = (true) := by first | rfl | (unfold dat; rfl) | (cases n <;> rfl) | (cases is <;> rfl) | (cases as <;> rfl)
@[simp] theorem p84 : lowA p (.int u1) = (true) := by first | rfl | (unfold dat; rfl) | (cases n <;> rfl) | (cases is <;> rfl) | (cases as <;> rfl)
@[simp] theorem p85 : lowA p (.str u1) = (true) := by first | rfl | (unfold dat; rfl) | (cases n <;> rfl) | (cases is <;> rfl) | (cases as <;> rfl)
@[simp] theorem p86 : lowA p (.fn u1) = (true) := by first | rfl | (unfold dat; rfl) | (cases n <;> rfl) | (cases is <;> rfl) | (cases as <;> rfl)
@[simp] theorem p87 : toD  .non = (.none) := by first | rfl | (unfold dat; rfl) | (cases n <;> rfl) | (cases is <;> rfl) | (cases as <;> rfl)
@[simp] theorem p88 : toD  (.bl b) = (.bool b) := by first | rfl | (unfold dat; rfl) | (cases n <;> rfl) | (cases is <;> rfl) | (cases as <;> rfl)
@[simp] theorem p89 : toD  (.int i) = (.int i) := by first | rfl | (unfold dat; rfl) | (cases n <;> rfl) | (cases is <;> rfl) | (cases as <;> rfl)
@[simp] theorem p90 : toD  (.str x) = (.str (toS x)) := by first | rfl | (unfold dat; rfl) | (cases n <;> rfl) | (cases is <;> rfl) | (cases as <;> rfl)
@[simp] theorem p91 : toD  (.tup as) = (.tuple (toDs as)) := by first | rfl | (unfold dat; rfl) | (cases n <;> rfl) | (cases is <;> rfl) | (cases as <;> rfl)
@[simp] theorem p92 : toD  (.lst as) = (.list (toDs as)) := by first | rfl | (unfold dat; rfl) | (cases n <;> rfl) | (cases is <;> rfl) | (cases as <;> rfl)
@[simp] theorem p93 : toD  (.dct u1 ks) = (.dict (toDk ks)) := by first | rfl | (unfold dat; rfl) | (cases n <;> rfl) | (cases is <;> rfl) | (cases as <;> rfl)
@[simp] theorem p94 : toD  (.ref u1) = (.none) := by first | rfl | (unfold dat; rfl) | (cases n <;> rfl) | (cases is <;> rfl) | (cases as <;> rfl)
@[simp] theorem p95 : toD  (.fn u1) = (.none) := by first | rfl | (unfold dat; rfl) | (cases n <;> rfl) | (cases is <;> rfl) | (cases as <;> rfl)
@[simp] theorem p96 : eqA .non .non = true := by first | rfl | (unfold dat; rfl) | (cases n <;> rfl) | (cases is <;> rfl) | (cases as <;> rfl)
@[simp] theorem p97 : eqA (.bl a) (.bl b) = (a == b) := by first | rfl | (unfold dat; rfl) | (cases n <;> rfl) | (cases is <;> rfl) | (cases as <;> rfl)
@[simp] theorem p98 : eqA (.bl a) (.int j) = ((if a then 1 else 0) == j) := by first | rfl | (unfold dat; rfl) | (cases n <;> rfl) | (cases is <;> rfl) | (cases as <;> rfl)
@[simp] theorem p99 : eqA (.int i) (.bl b) = (i == (if b then 1 else 0)) := by first | rfl | (unfold dat; rfl) | (cases n <;> rfl) | (cases is <;> rfl) | (cases as <;> rfl)
@[simp] theorem p100 : eqA (.int i) (.int j) = (i == j) := by first | rfl | (unfold dat; rfl) | (cases n <;> rfl) | (cases is <;> rfl) | (cases as <;> rfl)
@[simp] theorem p101 : eqA (.str x) (.str y) = (x == y) := by first | rfl | (unfold dat; rfl) | (cases n <;> rfl) | (cases is <;> rfl) | (cases as <;> rfl)
@[simp] theorem p102 : eqA (.tup xs) (.tup ys) = eqAs xs ys := by first | rfl | (unfold dat; rfl) | (cases n <;> rfl) | (cases is <;> rfl) | (cases as <;> rfl)
@[simp] theorem p103 : eqA (.lst xs) (.lst ys) = eqAs xs ys := by first | rfl | (unfold dat; rfl) | (cases n <;> rfl) | (cases is <;> rfl) | (cases as <;> rfl)
@[simp] theorem p104 : dat n .non = true := by first | rfl | (unfold dat; rfl) | (cases n <;> rfl) | (cases is <;> rfl) | (cases as <;> rfl)
@[simp] theorem p105 : dat n (.bl b) = true := by first | rfl | (unfold dat; rfl) | (cases n <;> rfl) | (cases is <;> rfl) | (cases as <;> rfl)
@[simp] theorem p106 : dat n (.int i) = true := by first | rfl | (unfold dat; rfl) | (cases n <;> rfl) | (cases is <;> rfl) | (cases as <;> rfl)
@[simp] theorem p107 : dat n (.str x) = true := by first | rfl | (unfold dat; rfl) | (cases n <;> rfl) | (cases is <;> rfl) | (cases as <;> rfl)
@[simp] theorem p108 : dat (n+1) (.tup as) = as.all (dat n) := by first | rfl | (unfold dat; rfl) | (cases n <;> rfl) | (cases is <;> rfl) | (cases as <;> rfl)
@[simp] theorem p109 : dat (n+1) (.lst as) = as.all (dat n) := by first | rfl | (unfold dat; rfl) | (cases n <;> rfl) | (cases is <;> rfl) | (cases as <;> rfl)
@[simp] theorem p110 : setAll (i :: is) (a :: as) l = setAll is as (l.set i (some a)) := by first | rfl | (unfold dat; rfl) | (cases n <;> rfl) | (cases is <;> rfl) | (cases as <;> rfl)
@[simp] theorem p111 : setAll [] as l = l := by first | rfl | (unfold dat; rfl) | (cases n <;> rfl) | (cases is <;> rfl) | (cases as <;> rfl)
@[simp] theorem p112 : kEqs [] [] = true := by first | rfl | (unfold dat; rfl) | (cases n <;> rfl) | (cases is <;> rfl) | (cases as <;> rfl)
@[simp] theorem p113 : kEqs (x :: xs) (y :: ys) = (kEq1 x y && kEqs xs ys) := by first | rfl | (unfold dat; rfl) | (cases n <;> rfl) | (cases is <;> rfl) | (cases as <;> rfl)
@[simp] theorem p114 : kEqs (x :: xs) [] = false := by first | rfl | (unfold dat; rfl) | (cases n <;> rfl) | (cases is <;> rfl) | (cases as <;> rfl)
@[simp] theorem p115 : kEqs [] (y :: ys) = false := by first | rfl | (unfold dat; rfl) | (cases n <;> rfl) | (cases is <;> rfl) | (cases as <;> rfl)
@[simp] theorem p116 : pairs [] = some [] := by first | rfl | (unfold dat; rfl) | (cases n <;> rfl) | (cases is <;> rfl) | (cases as <;> rfl)
@[simp] theorem p117 : pairs (k :: v :: r) = (pairs r).map ((k, v) :: ·) := by first | rfl | (unfold dat; rfl) | (cases n <;> rfl) | (cases is <;> rfl) | (cases as <;> rfl)
@[simp] theorem p118 : frz s p n .non = some .non := by first | rfl | (unfold dat; rfl) | (cases n <;> rfl) | (cases is <;> rfl) | (cases as <;> rfl)
@[simp] theorem p119 : frz s p n (.bl b) = some (.bl b) := by first | rfl | (unfold dat; rfl) | (cases n <;> rfl) | (cases is <;> rfl) | (cases as <;> rfl)
@[simp] theorem p120 : frz s p n (.int b) = some (.int b) := by first | rfl | (unfold dat; rfl) | (cases n <;> rfl) | (cases is <;> rfl) | (cases as <;> rfl)
@[simp] theorem p121 : frz s p n (.str b) = some (.str b) := by first | rfl | (unfold dat; rfl) | (cases n <;> rfl) | (cases is <;> rfl) | (cases as <;> rfl)
@[simp] theorem p122 : frz s p n (.fn b) = some (.fn b) := by first | rfl | (unfold dat; rfl) | (cases n <;> rfl) | (cases is <;> rfl) | (cases as <;> rfl)
@[simp] theorem p123 : frz s p (n+1) (.tup as) = (mapO (frz s p n) as).map .tup := by first | rfl | (unfold dat; rfl) | (cases n <;> rfl) | (cases is <;> rfl) | (cases as <;> rfl)
@[simp] theorem p124 : frz s p (n+1) (.lst as) = (mapO (frz s p n) as).map .lst := by first | rfl | (unfold dat; rfl) | (cases n <;> rfl) | (cases is <;> rfl) | (cases as <;> rfl)
@[simp] theorem p125 : frz s p (n+1) (.dct t ks) = (mapO (fun kv : A × A => (frz s p n kv.2).map fun v => (kv.1, v)) ks).map (.dct t) := by first | rfl | (unfold dat; rfl) | (cases n <;> rfl) | (cases is <;> rfl) | (cases as <;> rfl)
@[simp] theorem p126 : frz s p (n+1) (.ref m) = if m < p then some (.ref m) else kFrz (frz s p n) s[m]? := by first | rfl | (unfold dat; rfl) | (cases n <;> rfl) | (cases is <;> rfl) | (cases as <;> rfl)
@[simp] theorem p127 : kFrz fz (some (.lst as)) = (mapO fz as).map .lst := by first | rfl | (unfold dat; rfl) | (cases n <;> rfl) | (cases is <;> rfl) | (cases as <;> rfl)
@[simp] theorem p128 : kFrz fz (some (.dct t ks)) = (mapO (fun kv : A × A => (fz kv.2).map fun v => (kv.1, v)) ks).map (.dct t) := by first | rfl | (unfold dat; rfl) | (cases n <;> rfl) | (cases is <;> rfl) | (cases as <;> rfl)
@[simp] theorem p129 : deep s n .non = some .non := by first | rfl | (unfold dat; rfl) | (cases n <;> rfl) | (cases is <;> rfl) | (cases as <;> rfl)
@[simp] theorem p130 : deep s n (.bl b) = some (.bl b) := by first | rfl | (unfold dat; rfl) | (cases n <;> rfl) | (cases is <;> rfl) | (cases as <;> rfl)
@[simp] theorem p131 : deep s n (.int b) = some (.int b) := by first | rfl | (unfold dat; rfl) | (cases n <;> rfl) | (cases is <;> rfl) | (cases as <;> rfl)
@[simp] theorem p132 : deep s n (.str b) = some (.str b) := by first | rfl | (unfold dat; rfl) | (cases n <;> rfl) | (cases is <;> rfl) | (cases as <;> rfl)
@[simp] theorem p133 : deep s (n+1) (.tup as) = (mapO (deep s n) as).map .tup := by first | rfl | (unfold dat; rfl) | (cases n <;> rfl) | (cases is <;> rfl) | (cases as <;> rfl)
@[simp] theorem p134 : deep s (n+1) (.lst as) = (mapO (deep s n) as).map .lst := by first | rfl | (unfold dat; rfl) | (cases n <;> rfl) | (cases is <;> rfl) | (cases as <;> rfl)
@[simp] theorem p135 : deep s (n+1) (.ref m) = kDeep (deep s n) s[m]? := by first | rfl | (unfold dat; rfl) | (cases n <;> rfl) | (cases is <;> rfl) | (cases as <;> rfl)
@[simp] theorem p136 : kDeep fz (some (.lst as)) = (mapO fz as).map .lst := by first | rfl | (unfold dat; rfl) | (cases n <;> rfl) | (cases is <;> rfl) | (cases as <;> rfl)
/-! ### equations for rewriting -/
@[simp] theorem q0 : R.bind (.ok a s) k = k a s := by first | rfl | (cases x <;> rfl) | (cases i <;> rfl)
@[simp] theorem q1 : R.bind (.exc e s : R α) k = .exc e s := by first | rfl | (cases x <;> rfl) | (cases i <;> rfl)
@[simp] theorem q2 : R.bind (.bad : R α) k = .bad := by first | rfl | (cases x <;> rfl) | (cases i <;> rfl)
@[simp] theorem q3 : R.fl l (.ok a s) k = k a s := by first | rfl | (cases x <;> rfl) | (cases i <;> rfl)
@[simp] theorem q4 : R.fl l (.exc e s : R α) k = .exc e l s := by first | rfl | (cases x <;> rfl) | (cases i <;> rfl)
@[simp] theorem q5 : R.fl l (.bad : R α) k = .bad := by first | rfl | (cases x <;> rfl) | (cases i <;> rfl)
@[simp] theorem q6 : Fl.seq (.nx l s) k = k l s := by first | rfl | (cases x <;> rfl) | (cases i <;> rfl)
@[simp] theorem q7 : Fl.seq (.brk l s) k = .brk l s := by first | rfl | (cases x <;> rfl) | (cases i <;> rfl)
@[simp] theorem q8 : Fl.seq (.cnt l s) k = .cnt l s := by first | rfl | (cases x <;> rfl) | (cases i <;> rfl)
@[simp] theorem q9 : Fl.seq (.ret a s) k = .ret a s := by first | rfl | (cases x <;> rfl) | (cases i <;> rfl)
@[simp] theorem q10 : Fl.seq (.exc e l s) k = .exc e l s := by first | rfl | (cases x <;> rfl) | (cases i <;> rfl)
@[simp] theorem q11 : Fl.seq .bad k = .bad := by first | rfl | (cases x <;> rfl) | (cases i <;> rfl)
@[simp] theorem q12 : Fl.res (.nx l s) = .ok .non s := by first | rfl | (cases x <;> rfl) | (cases i <;> rfl)
@[simp] theorem q13 : Fl.res (.ret a s) = .ok a s := by first | rfl | (cases x <;> rfl) | (cases i <;> rfl)
@[simp] theorem q14 : Fl.res (.exc e l s) = .exc e s := by first | rfl | (cases x <;> rfl) | (cases i <;> rfl)
@[simp] theorem q15 : Fl.res .bad = .bad := by first | rfl | (cases x <;> rfl) | (cases i <;> rfl)
@[simp] theorem q16 : mkL true as s = .ok (.lst as) s := by first | rfl | (cases x <;> rfl) | (cases i <;> rfl)
@[simp] theorem q17 : mkL false as s = .ok (.ref s.length) (s ++ [.lst as]) := by first | rfl | (cases x <;> rfl) | (cases i <;> rfl)
@[simp] theorem q18 : mkD true t ks s = .ok (.dct t ks) s := by first | rfl | (cases x <;> rfl) | (cases i <;> rfl)
@[simp] theorem q19 : mkD false t ks s = .ok (.ref s.length) (s ++ [.dct t ks]) := by first | rfl | (cases x <;> rfl) | (cases i <;> rfl)
@[simp] theorem q20 : kLoc (some (some a)) s = .ok a s := by first | rfl | (cases x <;> rfl) | (cases i <;> rfl)
@[simp] theorem q21 : kOpt (some a) s = .ok a s := by first | rfl | (cases x <;> rfl) | (cases i <;> rfl)
@[simp] theorem q22 : kBl (some b) s = .ok (.bl b) s := by first | rfl | (cases x <;> rfl) | (cases i <;> rfl)
@[simp] theorem q23 : kBin2 op fz x y s = binA op fz x y s := by first | rfl | (cases x <;> rfl) | (cases i <;> rfl)
@[simp] theorem q24 : kBin1 fb l op fz x s = (fb l s).bind (kBin2 op fz x) := by first | rfl | (cases x <;> rfl) | (cases i <;> rfl)
@[simp] theorem q25 : kNeg (.int i) s = .ok (.int (-i)) s := by first | rfl | (cases x <;> rfl) | (cases i <;> rfl)
@[simp] theorem q26 : kNot (.bl b) s = .ok (.bl (!b)) s := by first | rfl | (cases x <;> rfl) | (cases i <;> rfl)
@[simp] theorem q27 : kIsBl (.bl b) s = .ok (.bl b) s := by first | rfl | (cases x <;> rfl) | (cases i <;> rfl)
@[simp] theorem q28 : kAnd fb l (.bl d) s = if d = true then (fb l s).bind kIsBl else .ok (.bl false) s := by first | rfl | (cases x <;> rfl) | (cases i <;> rfl)
@[simp] theorem q29 : kOr fb l (.bl d) s = if d = true then .ok (.bl true) s else (fb l s).bind kIsBl := by first | rfl | (cases x <;> rfl) | (cases i <;> rfl)
@[simp] theorem q30 : kCmp2 op x y s = cmpA op x y s := by first | rfl | (cases x <;> rfl) | (cases i <;> rfl)
@[simp] theorem q31 : kCmp1 fb l op x s = (fb l s).bind (kCmp2 op x) := by first | rfl | (cases x <;> rfl) | (cases i <;> rfl)
@[simp] theorem q32 : kCh3 fc l o2 y (.bl d) s = if d = true then (fc l s).bind (kCmp2 o2 y) else .ok (.bl false) s := by first | rfl | (cases x <;> rfl) | (cases i <;> rfl)
@[simp] theorem q33 : kCh2 fc l o1 o2 x y s = (cmpA o1 x y s).bind (kCh3 fc l o2 y) := by first | rfl | (cases x <;> rfl) | (cases i <;> rfl)
@[simp] theorem q34 : kCh1 fb fc l o1 o2 x s = (fb l s).bind (kCh2 fc l o1 o2 x) := by first | rfl | (cases x <;> rfl) | (cases i <;> rfl)
@[simp] theorem q35 : isNonA .non = true := by first | rfl | (cases x <;> rfl) | (cases i <;> rfl)
@[simp] theorem q36 : isNonA (.bl b) = false := by first | rfl | (cases x <;> rfl) | (cases i <;> rfl)
@[simp] theorem q37 : isNonA (.int i) = false := by first | rfl | (cases x <;> rfl) | (cases i <;> rfl)
@[simp] theorem q38 : isNonA (.str x) = false := by first | rfl | (cases x <;> rfl) | (cases i <;> rfl)
@[simp] theorem q39 : isNonA (.tup as) = false := by first | rfl | (cases x <;> rfl) | (cases i <;> rfl)
@[simp] theorem q40 : isNonA (.lst as) = false := by first | rfl | (cases x <;> rfl) | (cases i <;> rfl)
@[simp] theorem q41 : isNonA (.dct t ks) = false := by first | rfl | (cases x <;> rfl) | (cases i <;> rfl)
@[simp] theorem q42 : isNonA (.ref n) = false := by first | rfl | (cases x <;> rfl) | (cases i <;> rfl)
@[simp] theorem q43 : isNonA (.fn n) = false := by first | rfl | (cases x <;> rfl) | (cases i <;> rfl)
@[simp] theorem q44 : kIsN x s = .ok (.bl (isNonA x)) s := by first | rfl | (cases x <;> rfl) | (cases i <;> rfl)
@[simp] theorem q45 : kNotN x s = .ok (.bl (!isNonA x)) s := by first | rfl | (cases x <;> rfl) | (cases i <;> rfl)
@[simp] theorem q46 : kIte fa fb l (.bl d) s = if d = true then fa l s else fb l s := by first | rfl | (cases x <;> rfl) | (cases i <;> rfl)
@[simp] theorem q47 : kTup as s = .ok (.tup as) s := by first | rfl | (cases x <;> rfl) | (cases i <;> rfl)
@[simp] theorem q48 : kLst fz as s = mkL fz as s := by first | rfl | (cases x <;> rfl) | (cases i <;> rfl)
@[simp] theorem q49 : kDct2 fz t (some ps) s = if ps.all (fun kv => isKey t kv.1) = true then mkD fz t (ps.foldl (fun d kv => dput d kv.1 kv.2) []) s else .bad := by first | rfl | (cases x <;> rfl) | (cases i <;> rfl)
@[simp] theorem q50 : kDct fz t as s = kDct2 fz t (pairs as) s := by first | rfl | (cases x <;> rfl) | (cases i <;> rfl)
@[simp] theorem q51 : kIdx2 x y s = idxA x y s := by first | rfl | (cases x <;> rfl) | (cases i <;> rfl)
@[simp] theorem q52 : kIdx1 fb l x s = (fb l s).bind (kIdx2 x) := by first | rfl | (cases x <;> rfl) | (cases i <;> rfl)
@[simp] theorem q53 : kCut3 fz x y z s = cutA fz x y z s := by first | rfl | (cases x <;> rfl) | (cases i <;> rfl)
@[simp] theorem q54 : kCut2 l fhi fz x y s = (fhi l s).bind (kCut3 fz x y) := by first | rfl | (cases x <;> rfl) | (cases i <;> rfl)
@[simp] theorem q55 : kCut1 l flo fhi fz x s = (flo l s).bind (kCut2 l fhi fz x) := by first | rfl | (cases x <;> rfl) | (cases i <;> rfl)
@[simp] theorem q56 : kRev2 fz (some as) s = mkL fz as.reverse s := by first | rfl | (cases x <;> rfl) | (cases i <;> rfl)
@[simp] theorem q57 : kRev fz x s = kRev2 fz (lstOf s x) s := by first | rfl | (cases x <;> rfl) | (cases i <;> rfl)
@[simp] theorem q58 : kCall call f as s = call f as s := by first | rfl | (cases x <;> rfl) | (cases i <;> rfl)
@[simp] theorem q59 : kCallv call (some (some (.fn f))) as s = call f as s := by first | rfl | (cases x <;> rfl) | (cases i <;> rfl)
@[simp] theorem q60 : kMake2 n .non s = .ok (.ref n) s := by first | rfl | (cases x <;> rfl) | (cases i <;> rfl)
@[simp] theorem q61 : kMake1 call c (some f) as s = (call f (.ref s.length :: as) (s ++ [.ins c []])).bind (kMake2 s.length) := by first | rfl | (cases x <;> rfl) | (cases i <;> rfl)
@[simp] theorem q62 : kMeth3 call n f as s = call f (.ref n :: as) s := by first | rfl | (cases x <;> rfl) | (cases i <;> rfl)
@[simp] theorem q63 : kMeth2 l call fs n none (some f) s = (fs l s).bind (kMeth3 call n f) := by first | rfl | (cases x <;> rfl) | (cases i <;> rfl)
@[simp] theorem q64 : kMeth1 l V fs m n (some (.ins c f)) s = kMeth2 l V.call fs n (fget f m) (V.meth c m) s := by first | rfl | (cases x <;> rfl) | (cases i <;> rfl)
@[simp] theorem q65 : kMeth l V fs m (.ref n) s = kMeth1 l V fs m n s[n]? s := by first | rfl | (cases x <;> rfl) | (cases i <;> rfl)
@[simp] theorem q66 : kBm2 m fz x as s = bmA m fz x as s := by first | rfl | (cases x <;> rfl) | (cases i <;> rfl)
@[simp] theorem q67 : kBm1 l fs m fz x s = if isB m.kd x s = true then (fs l s).bind (kBm2 m fz x) else .bad := by first | rfl | (cases x <;> rfl) | (cases i <;> rfl)
@[simp] theorem q68 : kAttr1 f (some (.ins c fs)) s = kOpt (fget fs f) s := by first | rfl | (cases x <;> rfl) | (cases i <;> rfl)
@[simp] theorem q69 : kAttr f (.ref n) s = kAttr1 f s[n]? s := by first | rfl | (cases x <;> rfl) | (cases i <;> rfl)
@[simp] theorem q70 : kIsa t x s = kBl (isaA t x s) s := by first | rfl | (cases x <;> rfl) | (cases i <;> rfl)
@[simp] theorem q71 : kSome y s = .ok (some y) s := by first | rfl | (cases x <;> rfl) | (cases i <;> rfl)
@[simp] theorem q72 : kElt fe l1 b s = if b = true then (fe l1 s).bind kSome else .ok none s := by first | rfl | (cases x <;> rfl) | (cases i <;> rfl)
@[simp] theorem q73 : kTurn fe ft (some l1) s = (ft l1 s).bind (kElt fe l1) := by first | rfl | (cases x <;> rfl) | (cases i <;> rfl)
@[simp] theorem q74 : kPair2 t y z s = if isKey t y = true then .ok (some (y, z)) s else .bad := by first | rfl | (cases x <;> rfl) | (cases i <;> rfl)
@[simp] theorem q75 : kPair1 fe l1 t y s = (fe l1 s).bind (kPair2 t y) := by first | rfl | (cases x <;> rfl) | (cases i <;> rfl)
@[simp] theorem q76 : kEltD fe fk t l1 b s = if b = true then (fk l1 s).bind (kPair1 fe l1 t) else .ok none s := by first | rfl | (cases x <;> rfl) | (cases i <;> rfl)
@[simp] theorem q77 : kTurnD fe fk ft t (some l1) s = (ft l1 s).bind (kEltD fe fk t l1) := by first | rfl | (cases x <;> rfl) | (cases i <;> rfl)
@[simp] theorem q78 : kMkL fz ys s = mkL fz ys s := by first | rfl | (cases x <;> rfl) | (cases i <;> rfl)
@[simp] theorem q79 : kMkD fz t ys s = mkD fz t (ys.foldl (fun d kv => dput d kv.1 kv.2) []) s := by first | rfl | (cases x <;> rfl) | (cases i <;> rfl)
@[simp] theorem q80seq : kLc2 fe ft tg .seq as l fz (some items) s = if items.length ≤ big then (compL fe ft tg .seq as l items items s).bind (kMkL fz) else .bad := rfl
@[simp] theorem q80rng : kLc2 fe ft tg .rng as l fz (some items) s = if items.length ≤ big then (compL fe ft tg .rng as l items items s).bind (kMkL fz) else .bad := rfl
@[simp] theorem q80rlen : kLc2 fe ft tg .rlen as l fz (some items) s = if items.length ≤ big then (compL fe ft tg .rlen as l items items s).bind (kMkL fz) else .bad := rfl
@[simp] theorem q80enum : kLc2 fe ft tg .enum as l fz (some items) s = if items.length ≤ big then (compL fe ft tg .enum as l items items s).bind (kMkL fz) else .bad := rfl
@[simp] theorem q80zip : kLc2 fe ft tg .zip as l fz (some items) s = if items.length ≤ big then (compL fe ft tg .zip as l items items s).bind (kMkL fz) else .bad := rfl
@[simp] theorem q80rev : kLc2 fe ft tg .rev as l fz (some items) s = if items.length ≤ big then (compL fe ft tg .rev as l items items s).bind (kMkL fz) else .bad := rfl
@[simp] theorem q80keys : kLc2 fe ft tg .keys [a] l fz (some items) s = if items.length ≤ big then (compL fe ft tg .keys [a] l items items (lockA a s)).bind (kUnL fz .keys [a] s) else .bad := rfl
@[simp] theorem q80u : kUnL fz .keys [a] s0 ys s = mkL fz ys (unlockA a s0 s) := rfl
@[simp] theorem q80v : kUnD fz t .keys [a] s0 yd s = mkD fz t (yd.foldl (fun d kv => dput d kv.1 kv.2) []) (unlockA a s0 s) := rfl
@[simp] theorem q81 : kLc fe ft tg k l fz as s = kLc2 fe ft tg k as l fz (itA k as s) s := by first | rfl | (cases x <;> rfl) | (cases i <;> rfl)
@[simp] theorem q82seq : kDc2 fe fk ft tg .seq as l fz t (some items) s = if items.length ≤ big then (compD fe fk ft tg .seq as l t items items s).bind (kMkD fz t) else .bad := rfl
@[simp] theorem q82rng : kDc2 fe fk ft tg .rng as l fz t (some items) s = if items.length ≤ big then (compD fe fk ft tg .rng as l t items items s).bind (kMkD fz t) else .bad := rfl
@[simp] theorem q82rlen : kDc2 fe fk ft tg .rlen as l fz t (some items) s = if items.length ≤ big then (compD fe fk ft tg .rlen as l t items items s).bind (kMkD fz t) else .bad := rfl
@[simp] theorem q82enum : kDc2 fe fk ft tg .enum as l fz t (some items) s = if items.length ≤ big then (compD fe fk ft tg .enum as l t items items s).bind (kMkD fz t) else .bad := rfl
@[simp] theorem q82zip : kDc2 fe fk ft tg .zip as l fz t (some items) s = if items.length ≤ big then (compD fe fk ft tg .zip as l t items items s).bind (kMkD fz t) else .bad := rfl
@[simp] theorem q82rev : kDc2 fe fk ft tg .rev as l fz t (some items) s = if items.length ≤ big then (compD fe fk ft tg .rev as l t items items s).bind (kMkD fz t) else .bad := rfl
@[simp] theorem q82keys : kDc2 fe fk ft tg .keys [a] l fz t (some items) s = if items.length ≤ big then (compD fe fk ft tg .keys [a] l t items items (lockA a s)).bind (kUnD fz t .keys [a] s) else .bad := rfl
@[simp] theorem q83 : kDc fe fk ft tg k l fz t as s = kDc2 fe fk ft tg k as l fz t (itA k as s) s := by first | rfl | (cases x <;> rfl) | (cases i <;> rfl)
@[simp] theorem q84 : kXat i f xat (some (j, e)) s = if i = j ∧ xat e.c f = true then kOpt e.as.head? s else .bad := by first | rfl | (cases x <;> rfl) | (cases i <;> rfl)
@[simp] theorem q85 : kXisa i c sub (some (j, e)) s = if i = j then .ok (.bl (sub e.c c)) s else .bad := by first | rfl | (cases x <;> rfl) | (cases i <;> rfl)
@[simp] theorem q86 : kCons2 a as s = .ok (a :: as) s := by first | rfl | (cases x <;> rfl) | (cases i <;> rfl)
@[simp] theorem q87 : kCons1 fs l a s = (fs l s).bind (kCons2 a) := by first | rfl | (cases x <;> rfl) | (cases i <;> rfl)
@[simp] theorem q88 : kOSome (.int j) s = .ok (some j) s := rfl
@[simp] theorem q89 : kTest (.bl b) s = .ok b s := by first | rfl | (cases x <;> rfl) | (cases i <;> rfl)
@[simp] theorem q90 : kNx (some l) s = .nx l s := by first | rfl | (cases x <;> rfl) | (cases i <;> rfl)
@[simp] theorem q91 : kSto l (some s) = .nx l s := by first | rfl | (cases x <;> rfl) | (cases i <;> rfl)
@[simp] theorem q92 : kAsg l t a s = kNx (bindT t a l s) s := by first | rfl | (cases x <;> rfl) | (cases i <;> rfl)
@[simp] theorem q93 : kSub3 l v x y s = kSto l (subA x y v s) := by first | rfl | (cases x <;> rfl) | (cases i <;> rfl)
@[simp] theorem q94 : kSub2 fi l v x s = (fi l s).fl l (kSub3 l v x) := by first | rfl | (cases x <;> rfl) | (cases i <;> rfl)
@[simp] theorem q95 : kSub1 fo fi l v s = (fo l s).fl l (kSub2 fi l v) := by first | rfl | (cases x <;> rfl) | (cases i <;> rfl)
@[simp] theorem q96 : kFld3 l f v n (some (.ins c fs)) s = if fs.length < 1000 then .nx l (s.set n (.ins c (fput fs f v))) else .bad := by first | rfl | (cases x <;> rfl) | (cases i <;> rfl)
@[simp] theorem q97 : kFld2 l f v (.ref n) s = kFld3 l f v n s[n]? s := by first | rfl | (cases x <;> rfl) | (cases i <;> rfl)
@[simp] theorem q98 : kFld1 fo l f v s = (fo l s).fl l (kFld2 l f v) := by first | rfl | (cases x <;> rfl) | (cases i <;> rfl)
@[simp] theorem q99 : kPar l is as s = if as.length = is.length then .nx (setAll is as l) s else .bad := by first | rfl | (cases x <;> rfl) | (cases i <;> rfl)
@[simp] theorem q100 : kEx l a s = .nx l s := by first | rfl | (cases x <;> rfl) | (cases i <;> rfl)
@[simp] theorem q101 : kIf ga gb l (.bl d) s = if d = true then ga l s else gb l s := by first | rfl | (cases x <;> rfl) | (cases i <;> rfl)
@[simp] theorem q102 : kRet a s = .ret a s := by first | rfl | (cases x <;> rfl) | (cases i <;> rfl)
@[simp] theorem q103 : kRais l c as s = .exc ⟨c, as⟩ l s := by first | rfl | (cases x <;> rfl) | (cases i <;> rfl)
@[simp] theorem q104 : kTurnF g (some l) s = g l s := by first | rfl | (cases x <;> rfl) | (cases i <;> rfl)
@[simp] theorem q105 : kLoop ks again (.nx l s) = again l s := by first | rfl | (cases x <;> rfl) | (cases i <;> rfl)
@[simp] theorem q106 : kLoop ks again (.cnt l s) = again l s := by first | rfl | (cases x <;> rfl) | (cases i <;> rfl)
@[simp] theorem q107 : kLoop ks again (.brk l s) = .nx (kill ks l) s := by first | rfl | (cases x <;> rfl) | (cases i <;> rfl)
@[simp] theorem q108 : kLoop ks again (.ret a s) = .ret a s := by first | rfl | (cases x <;> rfl) | (cases i <;> rfl)
@[simp] theorem q109 : kLoop ks again (.exc e l s) = .exc e l s := by first | rfl | (cases x <;> rfl) | (cases i <;> rfl)
@[simp] theorem q110 : kLoop ks again .bad = .bad := by first | rfl | (cases x <;> rfl) | (cases i <;> rfl)
@[simp] theorem q111seq : kFor2 l tgt .seq as ks gf (some items) s = forL tgt .seq as ks gf items items l s := rfl
@[simp] theorem q111rng : kFor2 l tgt .rng as ks gf (some items) s = forL tgt .rng as ks gf items items l s := rfl
@[simp] theorem q111rlen : kFor2 l tgt .rlen as ks gf (some items) s = forL tgt .rlen as ks gf items items l s := rfl
@[simp] theorem q111enum : kFor2 l tgt .enum as ks gf (some items) s = forL tgt .enum as ks gf items items l s := rfl
@[simp] theorem q111zip : kFor2 l tgt .zip as ks gf (some items) s = forL tgt .zip as ks gf items items l s := rfl
@[simp] theorem q111rev : kFor2 l tgt .rev as ks gf (some items) s = forL tgt .rev as ks gf items items l s := rfl
@[simp] theorem q111keys : kFor2 l tgt .keys [a] ks gf (some items) s = (forL tgt .keys [a] ks gf items items l (lockA a s)).onS (unlockA a s) := rfl
@[simp] theorem q112 : kFor l t k ks g as s = kFor2 l t k as ks g (itA k as s) s := by first | rfl | (cases x <;> rfl) | (cases i <;> rfl)
@[simp] theorem q113 : kTry h (.exc e l s) = h e l s := by first | rfl | (cases x <;> rfl) | (cases i <;> rfl)
@[simp] theorem q114 : kTry h (.nx l s) = .nx l s := by first | rfl | (cases x <;> rfl) | (cases i <;> rfl)
@[simp] theorem q115 : kTry h (.cnt l s) = .cnt l s := by first | rfl | (cases x <;> rfl) | (cases i <;> rfl)
@[simp] theorem q116 : kTry h (.brk l s) = .brk l s := by first | rfl | (cases x <;> rfl) | (cases i <;> rfl)
@[simp] theorem q117 : kTry h (.ret a s) = .ret a s := by first | rfl | (cases x <;> rfl) | (cases i <;> rfl)
@[simp] theorem q118 : kTry h .bad = .bad := by first | rfl | (cases x <;> rfl) | (cases i <;> rfl)
@[simp] theorem q119a : kCalm (.nx l s) = .nx l s := rfl
@[simp] theorem q119b : kCalm (.cnt l s) = .cnt l s := rfl
@[simp] theorem q119c : kCalm (.brk l s) = .brk l s := rfl
@[simp] theorem q119d : kCalm (.ret a s) = .ret a s := rfl
@[simp] theorem q119e : kCalm (.exc e l s) = .bad := rfl
@[simp] theorem q119f : kCalm .bad = .bad := rfl
@[simp] theorem q119 : kGone i (.exc e l s) = .bad := by first | rfl | (cases x <;> rfl) | (cases i <;> rfl)
@[simp] theorem q120 : kGone i (.nx l s) = .nx (l.set i none) s := by first | rfl | (cases x <;> rfl) | (cases i <;> rfl)
@[simp] theorem q121 : kGone i (.cnt l s) = .cnt (l.set i none) s := by first | rfl | (cases x <;> rfl) | (cases i <;> rfl)
@[simp] theorem q122 : kGone i (.brk l s) = .brk (l.set i none) s := by first | rfl | (cases x <;> rfl) | (cases i <;> rfl)
@[simp] theorem q123 : kGone i (.ret a s) = .ret a s := by first | rfl | (cases x <;> rfl) | (cases i <;> rfl)
@[simp] theorem q124 : kGone i .bad = .bad := by first | rfl | (cases x <;> rfl) | (cases i <;> rfl)
@[simp] theorem q125 : (Tb.env t c).call = c := by first | rfl | (cases x <;> rfl) | (cases i <;> rfl)
@[simp] theorem q126 : (Tb.env t c).glb = t.glb := by first | rfl | (cases x <;> rfl) | (cases i <;> rfl)
@[simp] theorem q127 : (Tb.env t c).meth = t.meth := by first | rfl | (cases x <;> rfl) | (cases i <;> rfl)
@[simp] theorem q128 : (Tb.env t c).init = t.init := by first | rfl | (cases x <;> rfl) | (cases i <;> rfl)
@[simp] theorem q129 : (Tb.env t c).sub = t.sub := by first | rfl | (cases x <;> rfl) | (cases i <;> rfl)
@[simp] theorem q130 : (Tb.env t c).xat = t.xat := by first | rfl | (cases x <;> rfl) | (cases i <;> rfl)
@[simp] theorem q131 : (Tb.env t c).exn = none := by first | rfl | (cases x <;> rfl) | (cases i <;> rfl)
@[simp] theorem q132 : (Env.mk c1 c2 c3 c4 c5 c6 c7).call = c1 := by first | rfl | (cases x <;> rfl) | (cases i <;> rfl)
@[simp] theorem q133 : locs np nl as = as.map some ++ List.replicate (nl - np) none := by first | rfl | (cases x <;> rfl) | (cases i <;> rfl)
@[simp] theorem q134 : seqOf s (.tup as) = some as := by first | rfl | (cases x <;> rfl) | (cases i <;> rfl)
@[simp] theorem q135 : seqOf s (.lst as) = some as := by first | rfl | (cases x <;> rfl) | (cases i <;> rfl)
@[simp] theorem q136 : lstOf s (.lst as) = some as := by first | rfl | (cases x <;> rfl) | (cases i <;> rfl)
@[simp] theorem q137 : lstOf s (.tup as) = none := by first | rfl | (cases x <;> rfl) | (cases i <;> rfl)
@[simp] theorem q138 : lstOf s (.int as) = none := by first | rfl | (cases x <;> rfl) | (cases i <;> rfl)
@[simp] theorem q139 : lstOf s (.str as) = none := by first | rfl | (cases x <;> rfl) | (cases i <;> rfl)
@[simp] theorem q140 : lstOf s (.dct t ks) = none := by first | rfl | (cases x <;> rfl) | (cases i <;> rfl)
@[simp] theorem q141 : dctOf s (.dct t ks) = some (t, ks) := by first | rfl | (cases x <;> rfl) | (cases i <;> rfl)
@[simp] theorem q142 : dctOf s (.tup as) = none := by first | rfl | (cases x <;> rfl) | (cases i <;> rfl)
@[simp] theorem q143 : dctOf s (.lst as) = none := by first | rfl | (cases x <;> rfl) | (cases i <;> rfl)
@[simp] theorem q144 : dctOf s (.str x) = none := by first | rfl | (cases x <;> rfl) | (cases i <;> rfl)
@[simp] theorem q145 : dctOf s (.int x) = none := by first | rfl | (cases x <;> rfl) | (cases i <;> rfl)
@[simp] theorem q146 : flat .non = true := by first | rfl | (cases x <;> rfl) | (cases i <;> rfl)
@[simp] theorem q147 : flat (.bl b) = true := by first | rfl | (cases x <;> rfl) | (cases i <;> rfl)
@[simp] theorem q148 : flat (.int i) = true := by first | rfl | (cases x <;> rfl) | (cases i <;> rfl)
@[simp] theorem q149 : flat (.str x) = true := by first | rfl | (cases x <;> rfl) | (cases i <;> rfl)
@[simp] theorem q150 : flat (.tup x) = false := by first | rfl | (cases x <;> rfl) | (cases i <;> rfl)
@[simp] theorem q151 : flat (.lst x) = false := by first | rfl | (cases x <;> rfl) | (cases i <;> rfl)
@[simp] theorem q152 : flat (.dct t x) = false := by first | rfl | (cases x <;> rfl) | (cases i <;> rfl)
@[simp] theorem q153 : flat (.ref x) = false := by first | rfl | (cases x <;> rfl) | (cases i <;> rfl)
@[simp] theorem q154 : flat (.fn x) = false := by first | rfl | (cases x <;> rfl) | (cases i <;> rfl)
@[simp] theorem q155 : lowC p (.lst as) = as.all (lowA p) := by first | rfl | (cases x <;> rfl) | (cases i <;> rfl)
@[simp] theorem q156 : lowC p (.dct t ks) = ks.all fun kv => lowA p kv.1 && lowA p kv.2 := by first | rfl | (cases x <;> rfl) | (cases i <;> rfl)
@[simp] theorem q157 : lowC p (.ins c fs) = fs.all fun kv => lowA p kv.2 := by first | rfl | (cases x <;> rfl) | (cases i <;> rfl)
@[simp] theorem q158 : isK1 (.int i) = true := by first | rfl | (cases x <;> rfl) | (cases i <;> rfl)
@[simp] theorem q159 : isK1 (.str x) = true := by first | rfl | (cases x <;> rfl) | (cases i <;> rfl)
@[simp] theorem q160 : isKey true (.tup as) = as.all isK1 := by first | rfl | (cases x <;> rfl) | (cases i <;> rfl)
@[simp] theorem q161 : isKey false (.int i) = true := by first | rfl | (cases x <;> rfl) | (cases i <;> rfl)
@[simp] theorem q162 : isKey false (.str x) = true := by first | rfl | (cases x <;> rfl) | (cases i <;> rfl)
@[simp] theorem q163 : kEq1 (.int i) (.int j) = (i == j) := by first | rfl | (cases x <;> rfl) | (cases i <;> rfl)
@[simp] theorem q164 : kEq1 (.str i) (.str j) = (i == j) := by first | rfl | (cases x <;> rfl) | (cases i <;> rfl)
@[simp] theorem q165 : kEq1 (.int i) (.str j) = false := by first | rfl | (cases x <;> rfl) | (cases i <;> rfl)
@[simp] theorem q166 : kEq1 (.str i) (.int j) = false := by first | rfl | (cases x <;> rfl) | (cases i <;> rfl)
@[simp] theorem q167 : kEq (.tup xs) (.tup ys) = kEqs xs ys := by first | rfl | (cases x <;> rfl) | (cases i <;> rfl)
@[simp] theorem q168 : kEq (.int i) (.int j) = (i == j) := by first | rfl | (cases x <;> rfl) | (cases i <;> rfl)
@[simp] theorem q169 : kEq (.str i) (.str j) = (i == j) := by first | rfl | (cases x <;> rfl) | (cases i <;> rfl)
@[simp] theorem q170 : kEq (.int i) (.str j) = false := by first | rfl | (cases x <;> rfl) | (cases i <;> rfl)
@[simp] theorem q171 : kEq (.str i) (.int j) = false := by first | rfl | (cases x <;> rfl) | (cases i <;> rfl)
@[simp] theorem q172 : binA .add fz x y s = addA fz x y s := by first | rfl | (cases x <;> rfl) | (cases i <;> rfl)
@[simp] theorem q173 : addA fz (.int i) (.int j) s = .ok (.int (i + j)) s := by first | rfl | (cases x <;> rfl) | (cases i <;> rfl)
@[simp] theorem q174 : addA fz (.str a) (.str b) s = if a.length + b.length ≤ big then .ok (.str (a ++ b)) s else .bad := by first | rfl | (cases x <;> rfl) | (cases i <;> rfl)
@[simp] theorem q175 : addA fz (.tup a) (.tup b) s = if a.length + b.length ≤ big then .ok (.tup (a ++ b)) s else .bad := by first | rfl | (cases x <;> rfl) | (cases i <;> rfl)
@[simp] theorem q176 : addA fz (.lst a) y s = kAddL fz (some a) (lstOf s y) s := by first | rfl | (cases x <;> rfl) | (cases i <;> rfl)
@[simp] theorem q177 : addA fz (.ref a) y s = kAddL fz (lstOf s (.ref a)) (lstOf s y) s := by first | rfl | (cases x <;> rfl) | (cases i <;> rfl)
@[simp] theorem q178 : kAddL fz (some a) (some b) s = if a.length + b.length ≤ big then mkL fz (a ++ b) s else .bad := by first | rfl | (cases x <;> rfl) | (cases i <;> rfl)
@[simp] theorem q179 : binA .mul fz x y s = mulA fz x y s := by first | rfl | (cases x <;> rfl) | (cases i <;> rfl)
@[simp] theorem q180 : mulA fz (.int i) (.int j) s = if okMul i j then .ok (.int (i * j)) s else .bad := by first | rfl | (cases x <;> rfl) | (cases i <;> rfl)
@[simp] theorem q180a : mulA fz (.str a) (.int j) s = if a.length * j.toNat ≤ big ∧ j < 2 ^ 62 ∧ -(2 ^ 62) < j then .ok (.str (repL j.toNat a)) s else .bad := rfl
@[simp] theorem q180b : mulA fz (.lst a) (.int j) s = kRepL fz j (some a) s := rfl
@[simp] theorem q180c : mulA fz (.ref n) (.int j) s = kRepL fz j (lstOf s (.ref n)) s := rfl
@[simp] theorem q180d : kRepL fz j (some a) s = if a.length * j.toNat ≤ big ∧ j < 2 ^ 62 ∧ -(2 ^ 62) < j then mkL fz (repL j.toNat a) s else .bad := rfl
@[simp] theorem q185 : binA .sub fz (.int i) (.int j) s = .ok (.int (i - j)) s := by first | rfl | (cases x <;> rfl) | (cases i <;> rfl)
@[simp] theorem q186 : binA .fdiv fz (.int i) (.int j) s = if 0 < j ∧ j < 2 ^ 64 then .ok (.int (i / j)) s else .bad := by first | rfl | (cases x <;> rfl) | (cases i <;> rfl)
@[simp] theorem q187 : binA .mod fz (.int i) (.int j) s = if 0 < j then .ok (.int (i % j)) s else .bad := by first | rfl | (cases x <;> rfl) | (cases i <;> rfl)
@[simp] theorem q188 : binA .band fz (.int i) (.int j) s = .ok (.int (PySem.Builtin.bitAnd i j)) s := by first | rfl | (cases x <;> rfl) | (cases i <;> rfl)
@[simp] theorem q189 : binA .bor fz (.int i) (.int j) s = .ok (.int (PySem.Builtin.bitOr i j)) s := by first | rfl | (cases x <;> rfl) | (cases i <;> rfl)
@[simp] theorem q190 : binA .bxor fz (.int i) (.int j) s = .ok (.int (PySem.Builtin.bitXor i j)) s := by first | rfl | (cases x <;> rfl) | (cases i <;> rfl)
@[simp] theorem q191 : binA .shl fz (.int i) (.int j) s = if 0 ≤ j ∧ j ≤ 1000 ∧ i.natAbs < huge then .ok (.int (i * 2 ^ j.toNat)) s else .bad := by first | rfl | (cases x <;> rfl) | (cases i <;> rfl)
@[simp] theorem q192 : binA .shr fz (.int i) (.int j) s = if 0 ≤ j then .ok (.int (i / 2 ^ j.toNat)) s else .bad := by first | rfl | (cases x <;> rfl) | (cases i <;> rfl)
@[simp] theorem q193 : cmpA .lt (.int i) (.int j) s = .ok (.bl (decide (i < j))) s := by first | rfl | (cases x <;> rfl) | (cases i <;> rfl)
@[simp] theorem q194 : cmpA .le (.int i) (.int j) s = .ok (.bl (decide (i ≤ j))) s := by first | rfl | (cases x <;> rfl) | (cases i <;> rfl)
@[simp] theorem q195 : cmpA .le (.str a) (.str b) s = .ok (.bl (!decide (b < a))) s := by first | rfl | (cases x <;> rfl) | (cases i <;> rfl)
@[simp] theorem q196 : cmpA .gt x y s = gtA x y s := by first | rfl | (cases x <;> rfl) | (cases i <;> rfl)
@[simp] theorem q197L : gtA (.lst as) (.lst bs) s = kGtL (intsOf as) (intsOf bs) s := rfl
@[simp] theorem q197a : gtA (.tup as) (.tup bs) s = kGtL (intsOf as) (intsOf bs) s := rfl
@[simp] theorem q197b : kGtL (some is) (some js) s = .ok (.bl (lexGt is js)) s := rfl
@[simp] theorem q197 : gtA (.int i) (.int j) s = .ok (.bl (decide (j < i))) s := by first | rfl | (cases x <;> rfl) | (cases i <;> rfl)
@[simp] theorem q202 : cmpA .ge (.int i) (.int j) s = .ok (.bl (decide (j ≤ i))) s := by first | rfl | (cases x <;> rfl) | (cases i <;> rfl)
@[simp] theorem q203 : cmpA .inn x y s = kBl (inA x y s) s := by first | rfl | (cases x <;> rfl) | (cases i <;> rfl)
@[simp] theorem q204 : cmpA .nin x y s = kBl ((inA x y s).map not) s := by first | rfl | (cases x <;> rfl) | (cases i <;> rfl)
@[simp] theorem q205 : cmpA .eq x y s = kEqD (deep s 60 x) (deep s 60 y) s := by first | rfl | (cases x <;> rfl) | (cases i <;> rfl)
@[simp] theorem q206 : cmpA .ne x y s = kNeD (deep s 60 x) (deep s 60 y) s := by first | rfl | (cases x <;> rfl) | (cases i <;> rfl)
@[simp] theorem q207 : kEqD (some a) (some b) s = .ok (.bl (eqA a b)) s := by first | rfl | (cases x <;> rfl) | (cases i <;> rfl)
@[simp] theorem q208 : kNeD (some a) (some b) s = .ok (.bl (!eqA a b)) s := by first | rfl | (cases x <;> rfl) | (cases i <;> rfl)
@[simp] theorem q211 : cutA fz (.str zs) lo hi s = .ok (.str (cut zs lo hi)) s := rfl
@[simp] theorem q213 : cutA fz (.tup as) lo hi s = .ok (.tup (cut as lo hi)) s := rfl
@[simp] theorem q215 : cutA fz (.lst as) lo hi s = kCutL fz (some as) lo hi s := rfl
@[simp] theorem q216 : cutA fz (.ref n) lo hi s = kCutL fz (lstOf s (.ref n)) lo hi s := rfl
@[simp] theorem q217 : kCutL fz (some as) lo hi s = mkL fz (cut as lo hi) s := rfl
@[simp] theorem q218 : isaA t .non s = some false := by first | rfl | (cases x <;> rfl) | (cases i <;> rfl)
@[simp] theorem q219 : isaA t (.int i) s = some t.isInt := by first | rfl | (cases x <;> rfl) | (cases i <;> rfl)
@[simp] theorem q220 : isaA t (.bl i) s = some t.isBl := by first | rfl | (cases x <;> rfl) | (cases i <;> rfl)
@[simp] theorem q221 : isaA t (.str i) s = some t.isStr := by first | rfl | (cases x <;> rfl) | (cases i <;> rfl)
@[simp] theorem q222 : isaA t (.tup i) s = some t.isTup := by first | rfl | (cases x <;> rfl) | (cases i <;> rfl)
@[simp] theorem q223 : isaA t (.lst i) s = some t.isLst := by first | rfl | (cases x <;> rfl) | (cases i <;> rfl)
@[simp] theorem q224 : isaA t (.dct u i) s = some t.isDct := by first | rfl | (cases x <;> rfl) | (cases i <;> rfl)
@[simp] theorem q225 : isaA t (.ref n) s = kIsaR t s[n]? := by first | rfl | (cases x <;> rfl) | (cases i <;> rfl)
@[simp] theorem q226 : kIsaR t (some (.lst c)) = some t.isLst := by first | rfl | (cases x <;> rfl) | (cases i <;> rfl)
@[simp] theorem q227 : kIsaR t (some (.dct u c)) = some t.isDct := by first | rfl | (cases x <;> rfl) | (cases i <;> rfl)
@[simp] theorem q228 : bcA f fz [a] s = bcA1 f fz a s := by first | rfl | (cases x <;> rfl) | (cases i <;> rfl)
@[simp] theorem q229 : bcA f fz [a, b] s = bcA2 f a b s := by first | rfl | (cases x <;> rfl) | (cases i <;> rfl)
@[simp] theorem q230 : bcA1 .len fz a s = lenA a s := by first | rfl | (cases x <;> rfl) | (cases i <;> rfl)
@[simp] theorem q231 : lenA (.str x) s = .ok (.int x.length) s := by first | rfl | (cases x <;> rfl) | (cases i <;> rfl)
@[simp] theorem q232 : lenA (.lst x) s = .ok (.int x.length) s := by first | rfl | (cases x <;> rfl) | (cases i <;> rfl)
@[simp] theorem q233 : lenA (.tup x) s = .ok (.int x.length) s := by first | rfl | (cases x <;> rfl) | (cases i <;> rfl)
@[simp] theorem q234 : lenA (.dct t x) s = .ok (.int x.length) s := by first | rfl | (cases x <;> rfl) | (cases i <;> rfl)
@[simp] theorem q235 : lenA (.ref n) s = kLen s[n]? s := by first | rfl | (cases x <;> rfl) | (cases i <;> rfl)
@[simp] theorem q236 : kLen (some (.lst xs)) s = .ok (.int xs.length) s := by first | rfl | (cases x <;> rfl) | (cases i <;> rfl)
@[simp] theorem q237 : kLen (some (.dct t xs)) s = .ok (.int xs.length) s := by first | rfl | (cases x <;> rfl) | (cases i <;> rfl)
@[simp] theorem q238 : bcA1 .abs fz (.int i) s = .ok (.int i.natAbs) s := by first | rfl | (cases x <;> rfl) | (cases i <;> rfl)
@[simp] theorem q239 : bcA1 .int fz (.int i) s = .ok (.int i) s := by first | rfl | (cases x <;> rfl) | (cases i <;> rfl)
@[simp] theorem q240 : bcA1 .str fz a s = strA a s := by first | rfl | (cases x <;> rfl) | (cases i <;> rfl)
@[simp] theorem q241 : strA (.int i) s = if i.natAbs < huge then .ok (.str (numT i)) s else .bad := by first | rfl | (cases x <;> rfl) | (cases i <;> rfl)
@[simp] theorem q242 : strA (.str x) s = .ok (.str x) s := by first | rfl | (cases x <;> rfl) | (cases i <;> rfl)
@[simp] theorem q243 : bcA1 .ord fz (.str [c]) s = .ok (.int c) s := by first | rfl | (cases x <;> rfl) | (cases i <;> rfl)
@[simp] theorem q244 : bcA2 .max2 (.int i) (.int j) s = .ok (.int (if j > i then j else i)) s := by first | rfl | (cases x <;> rfl) | (cases i <;> rfl)
@[simp] theorem q245 : bcA2 .min2 (.int i) (.int j) s = .ok (.int (if j < i then j else i)) s := by first | rfl | (cases x <;> rfl) | (cases i <;> rfl)
@[simp] theorem q246 : bcA1 .max1 fz a s = kOpI ((lstOf s a).bind fun as => (intsOf as).bind maxI) s := by first | rfl | (cases x <;> rfl) | (cases i <;> rfl)
@[simp] theorem q247 : bcA1 .min1 fz a s = kOpI ((lstOf s a).bind fun as => (intsOf as).bind minI) s := by first | rfl | (cases x <;> rfl) | (cases i <;> rfl)
@[simp] theorem q248 : bcA1 .sum fz a s = kOpI ((lstOf s a).bind fun as => (intsOf as).map List.sum) s := by first | rfl | (cases x <;> rfl) | (cases i <;> rfl)
@[simp] theorem q249 : kOpI (some i) s = .ok (.int i) s := by first | rfl | (cases x <;> rfl) | (cases i <;> rfl)
@[simp] theorem q250 : bcA1 .all fz a s = kBl ((lstOf s a).bind fun as => (blsOf as).map fun bs => bs.all id) s := by first | rfl | (cases x <;> rfl) | (cases i <;> rfl)
@[simp] theorem q251 : bcA1 .any fz a s = kBl ((lstOf s a).bind fun as => (blsOf as).map fun bs => bs.any id) s := by first | rfl | (cases x <;> rfl) | (cases i <;> rfl)
@[simp] theorem q252 : bcA1 .sorted fz a s = sortedA fz a s := by first | rfl | (cases x <;> rfl) | (cases i <;> rfl)
@[simp] theorem q253 : sortedA fz (.lst xs) s = sortL fz xs s := by first | rfl | (cases x <;> rfl) | (cases i <;> rfl)
@[simp] theorem q254 : sortedA fz (.dct t ks) s = sortL fz (ks.map (·.1)) s := by first | rfl | (cases x <;> rfl) | (cases i <;> rfl)
@[simp] theorem q255 : sortedA fz (.ref n) s = kSort fz s[n]? s := by first | rfl | (cases x <;> rfl) | (cases i <;> rfl)
@[simp] theorem q256 : kSort fz (some (.lst xs)) s = sortL fz xs s := by first | rfl | (cases x <;> rfl) | (cases i <;> rfl)
@[simp] theorem q257 : kSort fz (some (.dct t ks)) s = sortL fz (ks.map (·.1)) s := by first | rfl | (cases x <;> rfl) | (cases i <;> rfl)
@[simp] theorem q258 : bcA1 .list fz a s = listA fz a s := by first | rfl | (cases x <;> rfl) | (cases i <;> rfl)
@[simp] theorem q259 : listA fz (.lst xs) s = mkL fz xs s := by first | rfl | (cases x <;> rfl) | (cases i <;> rfl)
@[simp] theorem q260 : listA fz (.tup xs) s = mkL fz xs s := by first | rfl | (cases x <;> rfl) | (cases i <;> rfl)
@[simp] theorem q263 : listA fz (.ref n) s = kList fz s[n]? s := by first | rfl | (cases x <;> rfl) | (cases i <;> rfl)
@[simp] theorem q264 : kList fz (some (.lst xs)) s = mkL fz xs s := by first | rfl | (cases x <;> rfl) | (cases i <;> rfl)
@[simp] theorem q266 : bcA1 .dict fz a s = dictA fz a s := by first | rfl | (cases x <;> rfl) | (cases i <;> rfl)
@[simp] theorem q267 : dictA fz (.dct t ks) s = mkD fz t ks s := by first | rfl | (cases x <;> rfl) | (cases i <;> rfl)
@[simp] theorem q268 : dictA fz (.ref n) s = kDict fz s[n]? s := by first | rfl | (cases x <;> rfl) | (cases i <;> rfl)
@[simp] theorem q269 : kDict fz (some (.dct t ks)) s = mkD fz t ks s := by first | rfl | (cases x <;> rfl) | (cases i <;> rfl)
@[simp] theorem q270 : bcA1 .repr fz a s = kRepr (deep s 60 a) s := by first | rfl | (cases x <;> rfl) | (cases i <;> rfl)
@[simp] theorem q271 : kRepr (some d) s = if (toD d).shown.length ≤ big then .ok (.str (ofS (toD d).shown)) s else .bad := by first | rfl | (cases x <;> rfl) | (cases i <;> rfl)
@[simp] theorem q272 : bmA m fz (.ref n) as s = bmR m n as s := by first | rfl | (cases x <;> rfl) | (cases i <;> rfl)
@[simp] theorem q273 : bmA m fz (.str n) as s = bmS m fz n as s := by first | rfl | (cases x <;> rfl) | (cases i <;> rfl)
@[simp] theorem q274 : bmA m fz (.lst n) as s = bmF m (.lst n) as s := by first | rfl | (cases x <;> rfl) | (cases i <;> rfl)
@[simp] theorem q275 : bmA m fz (.dct t n) as s = bmF m (.dct t n) as s := by first | rfl | (cases x <;> rfl) | (cases i <;> rfl)
@[simp] theorem q276 : bmR .append n [a] s = kApp n a s[n]? s := by first | rfl | (cases x <;> rfl) | (cases i <;> rfl)
@[simp] theorem q277 : kApp n a (some (.lst xs)) s = if xs.length < big then .ok .non (s.set n (.lst (xs ++ [a]))) else .bad := by first | rfl | (cases x <;> rfl) | (cases i <;> rfl)
@[simp] theorem q278 : bmR .extend n [a] s = kExt n s[n]? (lstOf s a) s := by first | rfl | (cases x <;> rfl) | (cases i <;> rfl)
@[simp] theorem q279 : kExt n (some (.lst xs)) (some ys) s = if xs.length + ys.length ≤ big then .ok .non (s.set n (.lst (xs ++ ys))) else .bad := by first | rfl | (cases x <;> rfl) | (cases i <;> rfl)
@[simp] theorem q280 : bmR .insert n [.int i, a] s = kIns n i a s[n]? s := by first | rfl | (cases x <;> rfl) | (cases i <;> rfl)
@[simp] theorem q281 : kIns n i a (some (.lst xs)) s = if xs.length < big ∧ 0 ≤ i ∧ i < 2 ^ 62 then .ok .non (s.set n (.lst (xs.take i.toNat ++ [a] ++ xs.drop i.toNat))) else .bad := by first | rfl | (cases x <;> rfl) | (cases i <;> rfl)
@[simp] theorem q282 : bmR .clear n [] s = kClr n s[n]? s := by first | rfl | (cases x <;> rfl) | (cases i <;> rfl)
@[simp] theorem q284 : kClr n (some (.dct t xs)) s = .ok .non (s.set n (.dct t [])) := by first | rfl | (cases x <;> rfl) | (cases i <;> rfl)
@[simp] theorem q285 : bmR .pop0 n [] s = kPop0 n s[n]? s := by first | rfl | (cases x <;> rfl) | (cases i <;> rfl)
@[simp] theorem q286 : kPop0 n (some (.lst xs)) s = kPopd n xs.getLast? (.lst xs.dropLast) s := by first | rfl | (cases x <;> rfl) | (cases i <;> rfl)
@[simp] theorem q287 : kPopd n (some v) c s = .ok v (s.set n c) := by first | rfl | (cases x <;> rfl) | (cases i <;> rfl)
@[simp] theorem q288 : bmR .pop1 n [.int i] s = kPop1 n i s[n]? s := by first | rfl | (cases x <;> rfl) | (cases i <;> rfl)
@[simp] theorem q289 : kPop1 n i (some (.lst xs)) s = kPop2 n xs (ixN xs.length i) s := by first | rfl | (cases x <;> rfl) | (cases i <;> rfl)
@[simp] theorem q290 : kPop2 n xs (some j) s = kPopd n xs[j]? (.lst (xs.eraseIdx j)) s := by first | rfl | (cases x <;> rfl) | (cases i <;> rfl)
@[simp] theorem q291 : bmR .dpop n [k, d] s = kDpop n k d s[n]? s := by first | rfl | (cases x <;> rfl) | (cases i <;> rfl)
@[simp] theorem q292 : kDpop n k d (some (.dct t ks)) s = if isKey t k = true then kDpop2 n k d t ks (dget ks k) s else .bad := by first | rfl | (cases x <;> rfl) | (cases i <;> rfl)
@[simp] theorem q293 : kDpop2 n k d t ks (some v) s = .ok v (s.set n (.dct t (ddel ks k))) := by first | rfl | (cases x <;> rfl) | (cases i <;> rfl)
@[simp] theorem q294 : kDpop2 n k d t ks none s = .ok d s := by first | rfl | (cases x <;> rfl) | (cases i <;> rfl)
@[simp] theorem q295 : bmR .remove n [a] s = kRem n a s[n]? s := by first | rfl | (cases x <;> rfl) | (cases i <;> rfl)
@[simp] theorem q296 : kRem n (.str y) (some (.lst xs)) s = kRem3 n xs y (strsOf xs) s := rfl
@[simp] theorem q296a : kRem3 n xs y (some ys) s = kRem2 n xs (ys.findIdx? (fun z => z == y)) s := rfl
@[simp] theorem q297 : kRem2 n xs (some j) s = .ok .non (s.set n (.lst (xs.eraseIdx j))) := by first | rfl | (cases x <;> rfl) | (cases i <;> rfl)
@[simp] theorem q298 : bmR .get n [k, d] s = kGet k d (dctOf s (.ref n)) s := by first | rfl | (cases x <;> rfl) | (cases i <;> rfl)
@[simp] theorem q299 : bmF .get o [k, d] s = kGet k d (dctOf s o) s := by first | rfl | (cases x <;> rfl) | (cases i <;> rfl)
@[simp] theorem q300 : kGet k d (some (t, ks)) s = if isKey t k = true then .ok ((dget ks k).getD d) s else .bad := by first | rfl | (cases x <;> rfl) | (cases i <;> rfl)
@[simp] theorem q301 : bmR .lindex n [a] s = kLix ((lstOf s (.ref n)).bind (mapO (deep s 60))) (deep s 60 a) s := by first | rfl | (cases x <;> rfl) | (cases i <;> rfl)
@[simp] theorem q302 : bmF .lindex o [a] s = kLix ((lstOf s o).bind (mapO (deep s 60))) (deep s 60 a) s := by first | rfl | (cases x <;> rfl) | (cases i <;> rfl)
@[simp] theorem q303 : kLix (some ds) (some d) s = kOpI ((ds.findIdx? (fun z => eqA z d)).map Int.ofNat) s := by first | rfl | (cases x <;> rfl) | (cases i <;> rfl)
@[simp] theorem q304 : bmS .sindex fz x [.str [c]] s = kOpI ((x.findIdx? (· == c)).map Int.ofNat) s := by first | rfl | (cases x <;> rfl) | (cases i <;> rfl)
@[simp] theorem q305 : bmS .join fz x [a] s = kJoin x ((lstOf s a).bind strsOf) s := by first | rfl | (cases x <;> rfl) | (cases i <;> rfl)
@[simp] theorem q306 : kJoin x (some ys) s = if (ys.map (·.length)).sum + ys.length * x.length ≤ big then .ok (.str (ofS (PySem.Txt.join (toS x) (ys.map toS)))) s else .bad := by first | rfl | (cases x <;> rfl) | (cases i <;> rfl)
@[simp] theorem q307 : bmS .split1 fz x [.str y] s = if y.length ≠ 0 ∧ x.length + 2 ≤ big then mkL fz ((PySem.Txt.split (toS x) (toS y)).map fun z => .str (ofS z)) s else .bad := by first | rfl | (cases x <;> rfl) | (cases i <;> rfl)
@[simp] theorem q308 : bmS .split0 fz x [] s = if x.length + 2 ≤ big then mkL fz ((PySem.Txt.words (toS x)).map fun z => .str (ofS z)) s else .bad := by first | rfl | (cases x <;> rfl) | (cases i <;> rfl)
@[simp] theorem q309 : bmS .partition fz x [.str y] s = if y.length ≠ 0 then .ok (.tup [.str (ofS (PySem.Txt.partition (toS x) (toS y)).1), .str (ofS (PySem.Txt.partition (toS x) (toS y)).2.1), .str (ofS (PySem.Txt.partition (toS x) (toS y)).2.2)]) s else .bad := by first | rfl | (cases x <;> rfl) | (cases i <;> rfl)
@[simp] theorem q310 : bmS .replace fz x [.str y, .str z] s = if y.length ≠ 0 ∧ x.length + (x.length + 1) * z.length ≤ big then .ok (.str (ofS (PySem.Txt.replace (toS x) (toS y) (toS z)))) s else .bad := by first | rfl | (cases x <;> rfl) | (cases i <;> rfl)
@[simp] theorem q311 : itA .seq [a] s = itS a s := by first | rfl | (cases x <;> rfl) | (cases i <;> rfl)
@[simp] theorem q312 : itS (.lst xs) s = some xs := by first | rfl | (cases x <;> rfl) | (cases i <;> rfl)
@[simp] theorem q313 : itS (.tup xs) s = some xs := by first | rfl | (cases x <;> rfl) | (cases i <;> rfl)
@[simp] theorem q314 : itS (.str x) s = some (x.map fun c => .str [c]) := by first | rfl | (cases x <;> rfl) | (cases i <;> rfl)
@[simp] theorem q315 : itD (.dct t ks) s = some (ks.map (·.1)) := by first | rfl | (cases x <;> rfl) | (cases i <;> rfl)
@[simp] theorem q316 : itS (.ref n) s = kIt s[n]? := by first | rfl | (cases x <;> rfl) | (cases i <;> rfl)
@[simp] theorem q317 : kIt (some (.lst xs)) = some xs := by first | rfl | (cases x <;> rfl) | (cases i <;> rfl)
@[simp] theorem q318 : kItD (some (.dct t ks)) = some (ks.map (·.1)) := by first | rfl | (cases x <;> rfl) | (cases i <;> rfl)
@[simp] theorem q319 : itA .rng [.int n] s = if inB n then some (upFrom 0 1 n.toNat) else none := by first | rfl | (cases x <;> rfl) | (cases i <;> rfl)
@[simp] theorem q320 : itA .rng [.int a, .int b] s = if inB a ∧ inB b then some (upFrom a 1 (b - a).toNat) else none := by first | rfl | (cases x <;> rfl) | (cases i <;> rfl)
@[simp] theorem q321 : itA .rng [.int a, .int b, .int c] s = if inB a ∧ inB b ∧ 0 < c ∧ c < 2 ^ 30 then some (upFrom a c (turnsOf a b c)) else none := by first | rfl | (cases x <;> rfl) | (cases i <;> rfl)
@[simp] theorem q322 : itA .rlen [a] s = rlenA a s := by first | rfl | (cases x <;> rfl) | (cases i <;> rfl)
@[simp] theorem q323 : rlenA (.str x) s = some (upFrom 0 1 x.length) := by first | rfl | (cases x <;> rfl) | (cases i <;> rfl)
@[simp] theorem q324 : rlenA (.lst x) s = some (upFrom 0 1 x.length) := by first | rfl | (cases x <;> rfl) | (cases i <;> rfl)
@[simp] theorem q325 : rlenA (.tup x) s = some (upFrom 0 1 x.length) := by first | rfl | (cases x <;> rfl) | (cases i <;> rfl)
@[simp] theorem q326 : rlenA (.ref n) s = (kLst1 s[n]?).map fun xs => upFrom 0 1 xs.length := by first | rfl | (cases x <;> rfl) | (cases i <;> rfl)
@[simp] theorem q327 : itA .enum [a] s = (lstOf s a).map (enumA 0) := by first | rfl | (cases x <;> rfl) | (cases i <;> rfl)
@[simp] theorem q328 : itA .zip [a, b] s = kZip2 (lstOf s a) (lstOf s b) := by first | rfl | (cases x <;> rfl) | (cases i <;> rfl)
@[simp] theorem q329 : itA .zip [a, b, c] s = kZip3 (lstOf s a) (lstOf s b) (lstOf s c) := by first | rfl | (cases x <;> rfl) | (cases i <;> rfl)
@[simp] theorem q330 : kZip2 (some xs) (some ys) = some (zip2A xs ys) := by first | rfl | (cases x <;> rfl) | (cases i <;> rfl)
@[simp] theorem q331 : kZip3 (some xs) (some ys) (some zs) = some (zip3A xs ys zs) := by first | rfl | (cases x <;> rfl) | (cases i <;> rfl)
@[simp] theorem q332 : itA .rev [a] s = (lstOf s a).map List.reverse := by first | rfl | (cases x <;> rfl) | (cases i <;> rfl)
@[simp] theorem q333 : bindT (.nm i) a l s = some (l.set i (some a)) := by first | rfl | (cases x <;> rfl) | (cases i <;> rfl)
@[simp] theorem q334 : bindT (.tp is) a l s = kBind is l (seqOf s a) := by first | rfl | (cases x <;> rfl) | (cases i <;> rfl)
@[simp] theorem q335 : kBind is l (some as) = (if as.length = is.length then some (setAll is as l) else none) := by first | rfl | (cases x <;> rfl) | (cases i <;> rfl)
@[simp] theorem q337 : lstOf s (.ref n) = kLst1 s[n]? := by first | rfl | (cases x <;> rfl) | (cases i <;> rfl)
@[simp] theorem q338 : seqOf s (.ref n) = kLst1 s[n]? := by first | rfl | (cases x <;> rfl) | (cases i <;> rfl)
@[simp] theorem q339 : kLst1 (some (.lst as)) = some as := by first | rfl | (cases x <;> rfl) | (cases i <;> rfl)
@[simp] theorem q340 : dctOf s (.ref n) = kDct1 s[n]? := by first | rfl | (cases x <;> rfl) | (cases i <;> rfl)
@[simp] theorem q341 : kDct1 (some (.dct t ks)) = some (t, ks) := by first | rfl | (cases x <;> rfl) | (cases i <;> rfl)
@[simp] theorem q342 : kDct1 (some (.lst t)) = none := by first | rfl | (cases x <;> rfl) | (cases i <;> rfl)
@[simp] theorem q343 : kDct1 (some (.ins t c)) = none := by first | rfl | (cases x <;> rfl) | (cases i <;> rfl)
@[simp] theorem q344 : idxA (.str z) (.int j) s = kIxS (atI z j) s := by first | rfl | (cases x <;> rfl) | (cases i <;> rfl)
@[simp] theorem q345 : kIxS (some c) s = .ok (.str [c]) s := by first | rfl | (cases x <;> rfl) | (cases i <;> rfl)
@[simp] theorem q346 : idxA (.tup z) (.int j) s = kOpt (atI z j) s := by first | rfl | (cases x <;> rfl) | (cases i <;> rfl)
@[simp] theorem q347 : idxA (.lst z) (.int j) s = kOpt (atI z j) s := by first | rfl | (cases x <;> rfl) | (cases i <;> rfl)
@[simp] theorem q348 : idxA (.dct t ks) k s = kIxD t ks k s := by first | rfl | (cases x <;> rfl) | (cases i <;> rfl)
@[simp] theorem q349 : kIxD t ks k s = if isKey t k = true then kOpt (dget ks k) s else .bad := by first | rfl | (cases x <;> rfl) | (cases i <;> rfl)
@[simp] theorem q350 : idxA (.ref n) i s = kIxR i s[n]? s := by first | rfl | (cases x <;> rfl) | (cases i <;> rfl)
@[simp] theorem q351 : kIxR (.int j) (some (.lst as)) s = kOpt (atI as j) s := by first | rfl | (cases x <;> rfl) | (cases i <;> rfl)
@[simp] theorem q352 : kIxR i (some (.dct t ks)) s = kIxD t ks i s := by first | rfl | (cases x <;> rfl) | (cases i <;> rfl)
@[simp] theorem q353 : subA (.ref n) i v s = kSbA s n v i s[n]? := by first | rfl | (cases x <;> rfl) | (cases i <;> rfl)
@[simp] theorem q354 : kSbA s n v (.int j) (some (.lst xs)) = (ixN xs.length j).map fun k => s.set n (.lst (xs.set k v)) := by first | rfl | (cases x <;> rfl) | (cases i <;> rfl)
@[simp] theorem q355 : kSbA s n v i (some (.dct t ks)) = if isKey t i = true ∧ ks.length < big then some (s.set n (.dct t (dput ks i v))) else none := by first | rfl | (cases x <;> rfl) | (cases i <;> rfl)
@[simp] theorem q356 : inA x (.dct t ks) s = kInD x t ks := by first | rfl | (cases x <;> rfl) | (cases i <;> rfl)
@[simp] theorem q357 : inA x (.ref n) s = kInR s x s[n]? := by first | rfl | (cases x <;> rfl) | (cases i <;> rfl)
@[simp] theorem q358 : kInR s x (some (.dct t ks)) = kInD x t ks := by first | rfl | (cases x <;> rfl) | (cases i <;> rfl)
@[simp] theorem q359 : kInR s x (some (.lst as)) = kInL (deep s 60 x) (mapO (deep s 60) as) := by first | rfl | (cases x <;> rfl) | (cases i <;> rfl)
@[simp] theorem q360 : inA x (.lst as) s = kInL (deep s 60 x) (mapO (deep s 60) as) := by first | rfl | (cases x <;> rfl) | (cases i <;> rfl)
@[simp] theorem q361 : inA x (.tup as) s = kInL (deep s 60 x) (mapO (deep s 60) as) := by first | rfl | (cases x <;> rfl) | (cases i <;> rfl)
@[simp] theorem q362 : kInL (some d) (some ds) = some (ds.any fun z => eqA z d) := by first | rfl | (cases x <;> rfl) | (cases i <;> rfl)
@[simp] theorem q363 : inA (.str [c]) (.str z) s = some (decide (c ∈ z)) := by first | rfl | (cases x <;> rfl) | (cases i <;> rfl)
@[simp] theorem q364 : Ty.isInt .int = true := by first | rfl | (cases x <;> rfl) | (cases i <;> rfl)
@[simp] theorem q365 : Ty.isInt .bool = false := by first | rfl | (cases x <;> rfl) | (cases i <;> rfl)
@[simp] theorem q366 : Ty.isInt .str = false := by first | rfl | (cases x <;> rfl) | (cases i <;> rfl)
@[simp] theorem q367 : Ty.isInt .list = false := by first | rfl | (cases x <;> rfl) | (cases i <;> rfl)
@[simp] theorem q368 : Ty.isInt .tuple = false := by first | rfl | (cases x <;> rfl) | (cases i <;> rfl)
@[simp] theorem q369 : Ty.isInt .dict = false := by first | rfl | (cases x <;> rfl) | (cases i <;> rfl)
@[simp] theorem q370 : Ty.isBl .int = true := by first | rfl | (cases x <;> rfl) | (cases i <;> rfl)
@[simp] theorem q371 : Ty.isBl .bool = true := by first | rfl | (cases x <;> rfl) | (cases i <;> rfl)
@[simp] theorem q372 : Ty.isBl .str = false := by first | rfl | (cases x <;> rfl) | (cases i <;> rfl)
@[simp] theorem q373 : Ty.isBl .list = false := by first | rfl | (cases x <;> rfl) | (cases i <;> rfl)
@[simp] theorem q374 : Ty.isBl .tuple = false := by first | rfl | (cases x <;> rfl) | (cases i <;> rfl)
@[simp] theorem q375 : Ty.isBl .dict = false := by first | rfl | (cases x <;> rfl) | (cases i <;> rfl)
@[simp] theorem q376 : Ty.isStr .int = false := by first | rfl | (cases x <;> rfl) | (cases i <;> rfl)
@[simp] theorem q377 : Ty.isStr .bool = false := by first | rfl | (cases x <;> rfl) | (cases i <;> rfl)
@[simp] theorem q378 : Ty.isStr .str = true := by first | rfl | (cases x <;> rfl) | (cases i <;> rfl)
@[simp] theorem q379 : Ty.isStr .list = false := by first | rfl | (cases x <;> rfl) | (cases i <;> rfl)
@[simp] theorem q380 : Ty.isStr .tuple = false := by first | rfl | (cases x <;> rfl) | (cases i <;> rfl)
@[simp] theorem q381 : Ty.isStr .dict = false := by first | rfl | (cases x <;> rfl) | (cases i <;> rfl)
@[simp] theorem q382 : Ty.isTup .int = false := by first | rfl | (cases x <;> rfl) | (cases i <;> rfl)
@[simp] theorem q383 : Ty.isTup .bool = false := by first | rfl | (cases x <;> rfl) | (cases i <;> rfl)
@[simp] theorem q384 : Ty.isTup .str = false := by first | rfl | (cases x <;> rfl) | (cases i <;> rfl)
@[simp] theorem q385 : Ty.isTup .list = false := by first | rfl | (cases x <;> rfl) | (cases i <;> rfl)
@[simp] theorem q386 : Ty.isTup .tuple = true := by first | rfl | (cases x <;> rfl) | (cases i <;> rfl)
@[simp] theorem q387 : Ty.isTup .dict = false := by first | rfl | (cases x <;> rfl) | (cases i <;> rfl)
@[simp] theorem q388 : Ty.isLst .int = false := by first | rfl | (cases x <;> rfl) | (cases i <;> rfl)
@[simp] theorem q389 : Ty.isLst .bool = false := by first | rfl | (cases x <;> rfl) | (cases i <;> rfl)
@[simp] theorem q390 : Ty.isLst .str = false := by first | rfl | (cases x <;> rfl) | (cases i <;> rfl)
@[simp] theorem q391 : Ty.isLst .list = true := by first | rfl | (cases x <;> rfl) | (cases i <;> rfl)
@[simp] theorem q392 : Ty.isLst .tuple = false := by first | rfl | (cases x <;> rfl) | (cases i <;> rfl)
@[simp] theorem q393 : Ty.isLst .dict = false := by first | rfl | (cases x <;> rfl) | (cases i <;> rfl)
@[simp] theorem q394 : Ty.isDct .int = false := by first | rfl | (cases x <;> rfl) | (cases i <;> rfl)
@[simp] theorem q395 : Ty.isDct .bool = false := by first | rfl | (cases x <;> rfl) | (cases i <;> rfl)
@[simp] theorem q396 : Ty.isDct .str = false := by first | rfl | (cases x <;> rfl) | (cases i <;> rfl)
@[simp] theorem q397 : Ty.isDct .list = false := by first | rfl | (cases x <;> rfl) | (cases i <;> rfl)
@[simp] theorem q398 : Ty.isDct .tuple = false := by first | rfl | (cases x <;> rfl) | (cases i <;> rfl)
@[simp] theorem q399 : Ty.isDct .dict = true := by first | rfl | (cases x <;> rfl) | (cases i <;> rfl)
@[simp] theorem r0 : isC k (some (.lst as)) = k.l := rfl
@[simp] theorem r1 : isC k (some (.dct t ks)) = k.m := rfl
@[simp] theorem r2 : isB k (.str x) s = k.s := rfl
@[simp] theorem r3 : isB k (.lst x) s = k.l := rfl
@[simp] theorem r4 : isB k (.dct t x) s = k.d := rfl
@[simp] theorem r5 : isB k (.ref n) s = isC k s[n]? := rfl
@[simp] theorem r6 : BM.kd .append = .list := rfl
@[simp] theorem r7 : BM.kd .clear = .mut := rfl
@[simp] theorem r8 : BM.kd .extend = .list := rfl
@[simp] theorem r9 : BM.kd .get = .dict := rfl
@[simp] theorem r10 : BM.kd .insert = .list := rfl
@[simp] theorem r11 : BM.kd .lindex = .list := rfl
@[simp] theorem r12 : BM.kd .sindex = .str := rfl
@[simp] theorem r13 : BM.kd .join = .str := rfl
@[simp] theorem r14 : BM.kd .partition = .str := rfl
@[simp] theorem r15 : BM.kd .pop0 = .list := rfl
@[simp] theorem r16 : BM.kd .pop1 = .list := rfl
@[simp] theorem r17 : BM.kd .dpop = .dict := rfl
@[simp] theorem r18 : BM.kd .remove = .list := rfl
@[simp] theorem r19 : BM.kd .replace = .str := rfl
@[simp] theorem r20 : BM.kd .split0 = .str := rfl
@[simp] theorem r21 : BM.kd .split1 = .str := rfl
@[simp] theorem r22a : BK.l .mut = false := rfl
@[simp] theorem r22b : BK.d .mut = false := rfl
@[simp] theorem r22c : BK.m .mut = true := rfl
@[simp] theorem r22d : BK.s .mut = false := rfl
@[simp] theorem r22e : BK.m .dict = true := rfl
@[simp] theorem r22f : BK.m .list = false := rfl
@[simp] theorem r22g : BK.m .str = false := rfl
@[simp] theorem r22h : BK.m .both = true := rfl
@[simp] theorem r22 : BK.l .list = true := rfl
@[simp] theorem r23 : BK.d .list = false := rfl
@[simp] theorem r24 : BK.s .list = false := rfl
@[simp] theorem r25 : BK.l .dict = false := rfl
@[simp] theorem r26 : BK.d .dict = true := rfl
@[simp] theorem r27 : BK.s .dict = false := rfl
@[simp] theorem r28 : BK.l .str = false := rfl
@[simp] theorem r29 : BK.d .str = false := rfl
@[simp] theorem r30 : BK.s .str = true := rfl
@[simp] theorem r31 : BK.l .both = true := rfl
@[simp] theorem r32 : BK.d .both = true := rfl
@[simp] theorem r33 : BK.s .both = false := rfl
@[simp] theorem r100 : itA .keys [a] s = itD a s := rfl
@[simp] theorem r101 : itD (.ref n) s = kItD s[n]? := rfl
@[simp] theorem z1 : lockA (.ref n) s = kLock n s s[n]? := rfl
@[simp] theorem z2 : lockA (.dct t ks) s = s := rfl
@[simp] theorem z3 : unlockA (.ref n) s0 s = kUnlock n s s0[n]? := rfl
@[simp] theorem z4 : unlockA (.dct t ks) s0 s = s := rfl
@[simp] theorem z5 : kLock n s (some (.dct t ks)) = s.set n (.lck t ks) := rfl
@[simp] theorem z6 : kLock n s (some (.lck t ks)) = s := rfl
@[simp] theorem z7 : kUnlock n s (some (.dct t ks)) = s.set n (.dct t ks) := rfl
@[simp] theorem z8 : kUnlock n s (some (.lck t ks)) = s := rfl
@[simp] theorem z9 : Fl.onS (.nx l s) h = .nx l (h s) := rfl
@[simp] theorem z10 : Fl.onS (.brk l s) h = .brk l (h s) := rfl
@[simp] theorem z11 : Fl.onS (.cnt l s) h = .cnt l (h s) := rfl
@[simp] theorem z12 : Fl.onS (.ret a s) h = .ret a (h s) := rfl
@[simp] theorem z13 : Fl.onS .bad h = .bad := rfl
@[simp] theorem z14 : isNonA (.ctp as) = false := rfl
@[simp] theorem z15 : lowA p (.ctp as) = true := rfl
@[simp] theorem z16 : flat (.ctp as) = true := rfl
@[simp] theorem z17 : frz s p m (.ctp as) = some (.ctp as) := by cases m <;> rfl
@[simp] theorem z18 : kFrz fA (some (.lck t ks)) = (mapO (fun kv : A × A => (fA kv.2).map fun v => (kv.1, v)) ks).map (.dct t) := rfl
@[simp] theorem z19 : kDct1 (some (.lck t ks)) = some (t, ks) := rfl
@[simp] theorem z20 : seqOf s (.ctp as) = some as := rfl
@[simp] theorem z21 : lstOf s (.ctp as) = none := rfl
@[simp] theorem z22 : dctOf s (.ctp as) = none := rfl
@[simp] theorem z23 : deep s (m+1) (.ctp as) = (mapO (deep s m) as).map .tup := rfl
@[simp] theorem z24 : toD (.ctp as) = .tuple (toDs as) := rfl
@[simp] theorem z25 : kInR s x (some (.lck t ks)) = kInD x t ks := rfl
@[simp] theorem z26 : inA x (.ctp as) s = kInL (deep s 60 x) (mapO (deep s 60) as) := by cases x <;> rfl
@[simp] theorem z27 : kIxR i (some (.lck t ks)) s = kIxD t ks i s := by cases i <;> rfl
@[simp] theorem z28 : idxA (.ctp z) (.int j) s = kOpt (atI z j) s := rfl
@[simp] theorem z29 : kIsaR ty (some (.lck t ks)) = some ty.isDct := rfl
@[simp] theorem z30 : isaA ty (.ctp as) s = some ty.isTup := rfl
@[simp] theorem z31 : kLen (some (.lck t ks)) s = .ok (.int ks.length) s := rfl
@[simp] theorem z32 : lenA (.ctp as) s = .ok (.int as.length) s := rfl
@[simp] theorem z33 : kSort fz (some (.lck t ks)) s = sortL fz (ks.map (·.1)) s := rfl
@[simp] theorem z35 : kDict fz (some (.lck t ks)) s = mkD fz t ks s := rfl
@[simp] theorem z36 : listA fz (.ctp as) s = mkL fz as s := rfl
@[simp] theorem z37 : kItD (some (.lck t ks)) = some (ks.map (·.1)) := rfl
@[simp] theorem z38 : itS (.ctp as) s = some as := rfl
@[simp] theorem z39 : isC bk (some (.lck t ks)) = bk.d := rfl
@[simp] theorem z40 : isB bk (.ctp as) s = false := rfl
@[simp] theorem z41 : bmA m fz (.ctp as) bs s = bmF m (.ctp as) bs s := rfl
@[simp] theorem z42 : lowC p (.lck t ks) = ks.all fun kv => lowA p kv.1 && lowA p kv.2 := rfl
@[simp] theorem z43 : rlenA (.ctp as) s = some (upFrom 0 1 as.length) := rfl
@[simp] theorem z44 : flatC p (.lck t ks) = false := rfl
@[simp] theorem z45 : flatC p (.dct t ks) = false := rfl
set_option autoImplicit false
end
end Py

set_option autoImplicit false
set_option linter.all false
set_option Elab.async false
set_option maxRecDepth 100000
set_option maxHeartbeats 4000000
/-! PyS1: abstract values over the kit's abstract heap. -/
namespace Py
open PySem
open L2 (V Hp HO Rd SqL SqT Cx Inv PE PT PA PS PSs PG PI TE TT TA TS Ends VK XK WX St Room upd upd_same upd_ne ne_of_none Key kV RelV Vals)
section
variable (K : PySem.W.Frag) (fa : Nat → Option Addr) (cv : Nat → Option Value)

/-- a list of the text -/
def KL (p : Addr) (vs : List V) : Prop := ∃ (its : List Value) (n : Nat), K.lookup p = some { cls := .type "list", data := .seq its.toArray n } ∧ its.length ≤ sizeLine ∧ Vals vs its
/-- a list that nobody changes -/
def FL (Z μ : List Addr) (H : Hp) (p : Addr) (vs : List V) : Prop := (Rd H p (.lst vs) ∧ p ∉ μ ∧ p ∉ Z) ∨ KL K p vs
def keyA : A → Option Key
  | .int i => some (.inl i)
  | .str x => some (.inr (toS x))
  | _ => none
def keysA : A → Option (List Key)
  | .tup as => mapO keyA as
  | _ => none
def strOk (x : List Nat) : Prop := x.length ≤ big ∧ ∀ c ∈ x, c < 0x110000
/-- a tuple of the text -/
def KTp (p : Addr) (vs : List V) : Prop := ∃ (o : Obj) (its : Array Value) (n : Nat), K.lookup p = some o ∧ o.cls = .type "tuple" ∧ o.data = .seq its n ∧ its.size ≤ sizeLine ∧ Vals vs its.toList
/-- ints and texts -/
def CVs : List A → List V → Prop
  | [], vs => vs = []
  | .int i :: r, vs => ∃ w, vs = .int i :: w ∧ CVs r w
  | .str x :: r, vs => ∃ w, vs = .str (toS x) :: w ∧ strOk x ∧ CVs r w
  | _ :: _, _ => False
mutual
def VR (Z μ : List Addr) (H : Hp) : A → V → Prop
  | .non, v => v = .non
  | .bl b, v => v = .bl b
  | .int i, v => v = .int i
  | .str x, v => v = .str (toS x) ∧ strOk x
  | .tup as, v => ∃ p vs, v = .ref p ∧ H p = some (.tup vs) ∧ VRs Z μ H as vs
  | .ctp as, v => ∃ p vs, v = .ref p ∧ KTp K p vs ∧ CVs as vs
  | .lst as, v => ∃ p vs, v = .ref p ∧ FL K Z μ H p vs ∧ VRs Z μ H as vs
  | .dct false ks, v => ∃ p kvs, v = .ref p ∧ Rd H p (.dK kvs) ∧ p ∉ μ ∧ p ∉ Z ∧ VRk Z μ H ks kvs
  | .dct true ks, v => ∃ p kvs, v = .ref p ∧ Rd H p (.dT kvs) ∧ p ∉ μ ∧ p ∉ Z ∧ VRt Z μ H ks kvs
  | .ref n, v => ∃ p, v = .ref p ∧ μ[n]? = some p
  | .fn f, v => ∃ p, v = .ref p ∧ fa f = some p
def VRs (Z μ : List Addr) (H : Hp) : List A → List V → Prop
  | [], vs => vs = []
  | a :: as, vs => ∃ v r, vs = v :: r ∧ VR Z μ H a v ∧ VRs Z μ H as r
def VRk (Z μ : List Addr) (H : Hp) : List (A × A) → List (Key × V) → Prop
  | [], vs => vs = []
  | (k, a) :: as, vs => ∃ q v r, vs = (q, v) :: r ∧ keyA k = some q ∧ VR Z μ H a v ∧ VRk Z μ H as r
def VRt (Z μ : List Addr) (H : Hp) : List (A × A) → List (List Key × V) → Prop
  | [], vs => vs = []
  | (k, a) :: as, vs => ∃ q v r, vs = (q, v) :: r ∧ keysA k = some q ∧ VR Z μ H a v ∧ VRt Z μ H as r
end
def VRf (Z μ : List Addr) (H : Hp) : List (String × A) → List (Str × V) → Prop
  | [], vs => vs = []
  | (k, a) :: as, vs => ∃ v r, vs = (Str.ofString k, v) :: r ∧ VR K fa Z μ H a v ∧ VRf Z μ H as r
def CR (Z μ : List Addr) (H : Hp) (p : Addr) : Cell → Prop
  | .lst as => ∃ vs, H p = some (.lst vs) ∧ VRs K fa Z μ H as vs
  | .dct false ks => ∃ kvs, H p = some (.dK kvs) ∧ VRk K fa Z μ H ks kvs
  | .dct true ks => ∃ kvs, H p = some (.dT kvs) ∧ VRt K fa Z μ H ks kvs
  | .lck false ks => ∃ od kvs, H p = some (.frz od (.dK kvs)) ∧ VRk K fa Z μ H ks kvs
  | .lck true ks => ∃ od kvs, H p = some (.frz od (.dT kvs)) ∧ VRt K fa Z μ H ks kvs
  | .ins c fs => ∃ C dx vs, cv c = some (.ref C) ∧ H p = some (.ins C dx vs) ∧ VRf K fa Z μ H fs vs ∧ L2.Cls K C ∧ ∀ f ∈ fs.map (·.1), L2.NoAttr K C (Str.ofString f)
structure SR (Z μ : List Addr) (s : Sto) (H : Hp) : Prop where
  nd : μ.Nodup
  len : μ.length = s.length
  cell : ∀ (n : Nat) (c : Cell), s[n]? = some c → ∃ p, μ[n]? = some p ∧ CR K fa cv Z μ H p c
  res : ∀ p ∈ Z, H p ≠ none
  apart : ∀ p ∈ μ, p ∉ Z
end

/-- a caught exception: its slot, its place, its class, its dict, what it is -/
structure XI where
  i : Option Nat
  a : Addr
  cls : Value
  d : Option Addr
  e : Exn
/-- the text's things by number -/
structure Nm where
  K : PySem.W.Frag
  fa : Nat → Option Addr
  cv : Nat → Option Value
  xa : Nat → Option String
  xk : Nat → Bool
  xs : Option XI
/-- an exception -/
def XR (N : Nm) (Z μ : List Addr) (H : Hp) (e : Exn) (cls : Value) (d : Option Addr) : Prop :=
  (N.cv e.c = some cls ∧ N.xk e.c = true) ∧ match N.xa e.c with
    | none => d = none
    | some f => ∃ a as dd fs v, e.as = a :: as ∧ d = some dd ∧ H dd = some (.xd fs) ∧ dd ∉ μ ∧ dd ∉ Z ∧ fs.lookup (Str.ofString f) = some v ∧ VR N.K N.fa Z μ H a v
/-- the caught exception is there -/
def XF (N : Nm) (Z μ : List Addr) (H : Hp) (l : Loc) (σ : St) : Prop := match N.xs with
  | none => True
  | some x => XR N Z μ H x.e x.cls x.d ∧ ∀ i, x.i = some i → σ[i]? = some (some (.ref x.a)) ∧ l[i]? = some none
structure LR (N : Nm) (Z μ : List Addr) (H : Hp) (l : Loc) (σ : St) : Prop where
  len : l.length = σ.length
  at_ : ∀ (i : Nat) (a : A), l[i]? = some (some a) → ∃ v, σ[i]? = some (some v) ∧ VR N.K N.fa Z μ H a v
  xf : XF N Z μ H l σ
/-- the slot is not the caught exception's -/
def Nm.free (N : Nm) (i : Nat) : Prop := ∀ x, N.xs = some x → x.i ≠ some i

/-- the kind of thing -/
def Kd : HO → Nat
  | .lst _ => 0
  | .tup _ => 1
  | .dK _ => 2
  | .dT _ => 3
  | .ins _ _ _ => 4
  | .frz _ u => Kd u
  | _ => 5
/-- later -/
structure Ext (μ : List Addr) (H : Hp) (μ' : List Addr) (H' : Hp) : Prop where
  pre : ∃ ν, μ' = μ ++ ν ∧ ∀ p ∈ ν, H p = none
  keep : ∀ p o, H p = some o → p ∉ μ → H' p = some o
  fz : ∀ p o u, H p = some (.frz o u) → H' p = some (.frz o u)
  kd : ∀ p o, H p = some o → ∃ o', H' p = some o' ∧ Kd o' = Kd o
theorem Rd.thr {H : Hp} {p : Addr} {u : HO} (r : Rd H p u) : H p ≠ none := by
  rcases r with r | ⟨o, r⟩ <;> (rw [r]; simp)
theorem Ext.thr {μ μ1 : List Addr} {H H1 : Hp} (e : Ext μ H μ1 H1) (p : Addr) (h : H p ≠ none) : H1 p ≠ none := by
  cases q : H p with
  | none => exact absurd q h
  | some o =>
    obtain ⟨o', h1, _⟩ := e.kd p o q
    rw [h1]
    simp
theorem Ext.refl (μ : List Addr) (H : Hp) : Ext μ H μ H := ⟨⟨[], by simp, by simp⟩, fun _ _ h _ => h, fun _ _ _ h => h, fun _ o h => ⟨o, h, rfl⟩⟩
theorem Ext.notin {μ μ' : List Addr} {H H' : Hp} {p : Addr} (e : Ext μ H μ' H') (h : H p ≠ none) (hn : p ∉ μ) : p ∉ μ' := by
  obtain ⟨⟨ν, rfl, f⟩, _⟩ := e
  intro z
  rcases List.mem_append.mp z with z | z
  · exact hn z
  · exact h (f p z)
theorem Ext.trans {μ μ1 μ2 : List Addr} {H H1 H2 : Hp} (a : Ext μ H μ1 H1) (b : Ext μ1 H1 μ2 H2) : Ext μ H μ2 H2 := by
  refine ⟨?_, fun p o h hn => b.keep p o (a.keep p o h hn) (a.notin (by rw [h]; simp) hn), fun p o u h => b.fz p o u (a.fz p o u h), fun p o h => ?_⟩
  · have s1 := a.thr
    obtain ⟨ν1, e1, f1⟩ := a.pre
    obtain ⟨ν2, e2, f2⟩ := b.pre
    refine ⟨ν1 ++ ν2, by rw [e2, e1, List.append_assoc], fun p hp => ?_⟩
    rcases List.mem_append.mp hp with h | h
    · exact f1 p h
    · cases q : H p with
      | none => rfl
      | some o => exact absurd (f2 p h) (s1 p (by rw [q]; simp))
  · obtain ⟨o1, q1, q2⟩ := a.kd p o h
    obtain ⟨o2, q3, q4⟩ := b.kd p o1 q1
    exact ⟨o2, q3, q4.trans q2⟩
theorem Rd.upd {H : Hp} {p q : Addr} {o u : HO} (r : Rd H q u) (h : q ≠ p) : Rd (upd H p o) q u := by
  rcases r with r | ⟨ob, r⟩
  · exact .inl (by rw [upd_ne h]; exact r)
  · exact .inr ⟨ob, by rw [upd_ne h]; exact r⟩
theorem Rd.none_ne {H : Hp} {p q : Addr} {u : HO} (r : Rd H q u) (h : H p = none) : q ≠ p := by
  rintro rfl
  exact Rd.thr r h
/-- only new things -/
theorem Ext.new {μ : List Addr} {H : Hp} {p : Addr} {o : HO} (h : H p = none) : Ext μ H μ (upd H p o) :=
  ⟨⟨[], by simp, by simp⟩, fun q u e _ => by rw [upd_ne (ne_of_none e h)]; exact e, fun q ob u e => by rw [upd_ne (ne_of_none e h)]; exact e,
    fun q u e => ⟨u, by rw [upd_ne (ne_of_none e h)]; exact e, rfl⟩⟩
theorem Ext.push {μ : List Addr} {H : Hp} {p : Addr} {o : HO} (h : H p = none) : Ext μ H (μ ++ [p]) (upd H p o) :=
  let e := Ext.new (μ := μ) (o := o) h
  ⟨⟨[p], rfl, fun q z => by rw [List.mem_singleton.mp z]; exact h⟩, e.keep, e.fz, e.kd⟩
theorem Ext.mut {μ : List Addr} {H : Hp} {p : Addr} {o o0 : HO} (h : p ∈ μ) (h0 : H p = some o0) (hk : Kd o = Kd o0) (nf : ∀ ob u, o0 ≠ .frz ob u) : Ext μ H μ (upd H p o) :=
  ⟨⟨[], by simp, by simp⟩, fun q u e z => by rw [upd_ne (fun w => z (by rw [w]; exact h))]; exact e,
    fun q ob u e => by
      by_cases z : q = p
      · subst z; rw [h0] at e; cases e; exact absurd rfl (nf _ _)
      · rw [upd_ne z]; exact e,
    fun q u e => by
      by_cases z : q = p
      · subst z; rw [h0] at e; cases e; exact ⟨o, upd_same, hk⟩
      · exact ⟨u, by rw [upd_ne z]; exact e, rfl⟩⟩

section
variable {K : PySem.W.Frag} {fa : Nat → Option Addr} {cv : Nat → Option Value} {Z μ μ' : List Addr} {H H' : Hp} {s : Sto}
theorem Ext.at {n : Nat} {p : Addr} (e : Ext μ H μ' H') (h : μ[n]? = some p) : μ'[n]? = some p := by
  obtain ⟨⟨ν, rfl, f⟩, _⟩ := e
  rw [List.getElem?_append_left (List.getElem?_eq_some_iff.mp h).1]
  exact h
/-- what stays so: the readings of values -/
structure Stay (Z μ : List Addr) (H : Hp) (Z' μ' : List Addr) (H' : Hp) : Prop where
  tup : ∀ p vs, H p = some (HO.tup vs) → H' p = some (HO.tup vs)
  lst : ∀ p vs, FL K Z μ H p vs → FL K Z' μ' H' p vs
  dk : ∀ p kvs, Rd H p (HO.dK kvs) → p ∉ μ → p ∉ Z → Rd H' p (.dK kvs) ∧ p ∉ μ' ∧ p ∉ Z'
  dt : ∀ p kvs, Rd H p (HO.dT kvs) → p ∉ μ → p ∉ Z → Rd H' p (.dT kvs) ∧ p ∉ μ' ∧ p ∉ Z'
  at_ : ∀ (n : Nat) (p : Addr), μ[n]? = some p → μ'[n]? = some p
  xd : ∀ p fs, H p = some (HO.xd fs) → p ∉ μ → p ∉ Z → H' p = some (.xd fs) ∧ p ∉ μ' ∧ p ∉ Z'
mutual
theorem VR.stay {Z' : List Addr} (e : Stay (K := K) Z μ H Z' μ' H') : ∀ (a : A) (v : V), VR K fa Z μ H a v → VR K fa Z' μ' H' a v
  | .non, v, h => by simpa [VR] using h
  | .bl b, v, h => by simpa [VR] using h
  | .int i, v, h => by simpa [VR] using h
  | .str x, v, h => by simpa [VR] using h
  | .tup as, v, h => by
    obtain ⟨p, vs, h1, h2, h3⟩ := (show ∃ p vs, v = .ref p ∧ H p = some (HO.tup vs) ∧ VRs K fa Z μ H as vs by simpa [VR] using h)
    simp only [VR]
    exact ⟨p, vs, h1, e.tup p vs h2, VRs.stay e as vs h3⟩
  | .lst as, v, h => by
    obtain ⟨p, vs, h1, h2, h3⟩ := (show ∃ p vs, v = .ref p ∧ FL K Z μ H p vs ∧ VRs K fa Z μ H as vs by simpa [VR] using h)
    simp only [VR]
    exact ⟨p, vs, h1, e.lst p vs h2, VRs.stay e as vs h3⟩
  | .dct false ks, v, h => by
    simp only [VR] at h ⊢
    obtain ⟨p, kvs, h1, h2, h3, h4, h5⟩ := h
    obtain ⟨q1, q2, q3⟩ := e.dk p kvs h2 h3 h4
    exact ⟨p, kvs, h1, q1, q2, q3, VRk.stay e ks kvs h5⟩
  | .dct true ks, v, h => by
    simp only [VR] at h ⊢
    obtain ⟨p, kvs, h1, h2, h3, h4, h5⟩ := h
    obtain ⟨q1, q2, q3⟩ := e.dt p kvs h2 h3 h4
    exact ⟨p, kvs, h1, q1, q2, q3, VRt.stay e ks kvs h5⟩
  | .ref n, v, h => by
    simp only [VR] at h ⊢
    obtain ⟨p, h1, h2⟩ := h
    exact ⟨p, h1, e.at_ n p h2⟩
  | .fn f, v, h => by simpa [VR] using h
  | .ctp as, v, h => by simpa [VR] using h
theorem VRs.stay {Z' : List Addr} (e : Stay (K := K) Z μ H Z' μ' H') : ∀ (as : List A) (vs : List V), VRs K fa Z μ H as vs → VRs K fa Z' μ' H' as vs
  | [], vs, h => by simpa [VRs] using h
  | a :: as, vs, h => by
    simp only [VRs] at h ⊢
    obtain ⟨v, r, h1, h2, h3⟩ := h
    exact ⟨v, r, h1, VR.stay e a v h2, VRs.stay e as r h3⟩
theorem VRk.stay {Z' : List Addr} (e : Stay (K := K) Z μ H Z' μ' H') : ∀ (as : List (A × A)) (vs : List (Key × V)), VRk K fa Z μ H as vs → VRk K fa Z' μ' H' as vs
  | [], vs, h => by simpa [VRk] using h
  | (k, a) :: as, vs, h => by
    simp only [VRk] at h ⊢
    obtain ⟨q, v, r, h1, h0, h2, h3⟩ := h
    exact ⟨q, v, r, h1, h0, VR.stay e a v h2, VRk.stay e as r h3⟩
theorem VRt.stay {Z' : List Addr} (e : Stay (K := K) Z μ H Z' μ' H') : ∀ (as : List (A × A)) (vs : List (List Key × V)), VRt K fa Z μ H as vs → VRt K fa Z' μ' H' as vs
  | [], vs, h => by simpa [VRt] using h
  | (k, a) :: as, vs, h => by
    simp only [VRt] at h ⊢
    obtain ⟨q, v, r, h1, h0, h2, h3⟩ := h
    exact ⟨q, v, r, h1, h0, VR.stay e a v h2, VRt.stay e as r h3⟩
end
theorem VRf.stay {Z' : List Addr} (e : Stay (K := K) Z μ H Z' μ' H') : ∀ (as : List (String × A)) (vs : List (Str × V)), VRf K fa Z μ H as vs → VRf K fa Z' μ' H' as vs
  | [], vs, h => by simpa [VRf] using h
  | (k, a) :: as, vs, h => by
    simp only [VRf] at h ⊢
    obtain ⟨v, r, h1, h2, h3⟩ := h
    exact ⟨v, r, h1, VR.stay e a v h2, VRf.stay e as r h3⟩
theorem mut_not {s : Sto} (S : SR K fa cv Z μ s H) {p : Addr} (hp : p ∈ μ) : ∃ o, H p = some o ∧ ∀ vs, o ≠ .tup vs := by
  obtain ⟨n, hn, e⟩ := List.mem_iff_getElem.mp hp
  have hs : n < s.length := by rw [← S.len]; exact hn
  obtain ⟨q, hq, c⟩ := S.cell n s[n] (List.getElem?_eq_getElem hs)
  have : q = p := by rw [List.getElem?_eq_getElem hn] at hq; rw [← e]; exact (Option.some.inj hq).symm
  subst this
  cases hc : s[n] with
  | lst as => rw [hc] at c; obtain ⟨vs, h, _⟩ := c; exact ⟨_, h, by simp⟩
  | dct t ks =>
    rw [hc] at c
    cases t with
    | false => obtain ⟨vs, h, _⟩ := c; exact ⟨_, h, by simp⟩
    | true => obtain ⟨vs, h, _⟩ := c; exact ⟨_, h, by simp⟩
  | lck t ks =>
    rw [hc] at c
    cases t with
    | false => obtain ⟨od, vs, h, _⟩ := c; exact ⟨_, h, by simp⟩
    | true => obtain ⟨od, vs, h, _⟩ := c; exact ⟨_, h, by simp⟩
  | ins c' fs => rw [hc] at c; obtain ⟨C, dx, vs, _, h, _⟩ := c; exact ⟨_, h, by simp⟩
/-- the store's own objects are no tuples -/
def NoTup (μ : List Addr) (H : Hp) : Prop := ∀ p ∈ μ, ∀ vs, H p ≠ some (.tup vs)
theorem SR.noTup {s : Sto} (S : SR K fa cv Z μ s H) : NoTup μ H := by
  intro p hp vs e
  obtain ⟨o, h, k⟩ := mut_not S hp
  rw [h] at e
  exact k vs (Option.some.inj e)
theorem Ext.stayZ {Z' : List Addr} (nt : NoTup μ H) (e : Ext μ H μ' H') (hz : ∀ p ∈ Z', p ∈ Z ∨ H p = none) : Stay (K := K) Z μ H Z' μ' H' where
  tup := fun p vs h => e.keep p _ h (fun hp => nt p hp _ h)
  lst := fun p vs h => by
    rcases h with ⟨h1, h2, h3⟩ | h
    · refine .inl ⟨?_, e.notin (Rd.thr h1) h2, fun z => by rcases hz p z with q | q; exact h3 q; exact Rd.thr h1 q⟩
      rcases h1 with h1 | ⟨o, h1⟩
      · exact .inl (e.keep p _ h1 h2)
      · exact .inr ⟨o, e.fz p o _ h1⟩
    · exact .inr h
  dk := fun p kvs h1 h2 h3 => ⟨h1.imp (fun h => e.keep p _ h h2) (fun ⟨o, h⟩ => ⟨o, e.fz p o _ h⟩), e.notin (Rd.thr h1) h2, fun z => by rcases hz p z with q | q; exact h3 q; exact Rd.thr h1 q⟩
  dt := fun p kvs h1 h2 h3 => ⟨h1.imp (fun h => e.keep p _ h h2) (fun ⟨o, h⟩ => ⟨o, e.fz p o _ h⟩), e.notin (Rd.thr h1) h2, fun z => by rcases hz p z with q | q; exact h3 q; exact Rd.thr h1 q⟩
  at_ := fun n p h => e.at h
  xd := fun p fs h1 h2 h3 => ⟨e.keep p _ h1 h2, e.notin (by rw [h1]; simp) h2, fun z => by rcases hz p z with q | q; exact h3 q; rw [h1] at q; cases q⟩
theorem Ext.stay (nt : NoTup μ H) (e : Ext μ H μ' H') : Stay (K := K) Z μ H Z μ' H' := e.stayZ nt fun _ h => .inl h
theorem FL.sq {p : Addr} {vs : List V} (h : FL K Z μ H p vs) : SqL K H p vs := by
  rcases h with h | h
  · exact .inl h.1
  · obtain ⟨its, n, h1, h2, h3⟩ := h
    exact .inr ⟨_, its.toArray, n, h1, rfl, rfl, rfl, h2, h3⟩
theorem CR.stay {Z' : List Addr} {p : Addr} {c : Cell} (e : Stay (K := K) Z μ H Z' μ' H') (hp : ∀ o, H p = some o → H' p = some o) (h : CR K fa cv Z μ H p c) : CR K fa cv Z' μ' H' p c := by
  cases c with
  | lst as => obtain ⟨vs, h1, h2⟩ := h; exact ⟨vs, hp _ h1, VRs.stay e _ _ h2⟩
  | dct t ks => cases t with
    | false => obtain ⟨vs, h1, h2⟩ := h; exact ⟨vs, hp _ h1, VRk.stay e _ _ h2⟩
    | true => obtain ⟨vs, h1, h2⟩ := h; exact ⟨vs, hp _ h1, VRt.stay e _ _ h2⟩
  | lck t ks => cases t with
    | false => obtain ⟨od, vs, h1, h2⟩ := h; exact ⟨od, vs, hp _ h1, VRk.stay e _ _ h2⟩
    | true => obtain ⟨od, vs, h1, h2⟩ := h; exact ⟨od, vs, hp _ h1, VRt.stay e _ _ h2⟩
  | ins c fs => obtain ⟨C, dx, vs, h0, h1, h2, h3⟩ := h; exact ⟨C, dx, vs, h0, hp _ h1, VRf.stay e _ _ h2, h3⟩
theorem SR.tracked {s : Sto} (S : SR K fa cv Z μ s H) {p : Addr} (hp : p ∈ μ) : H p ≠ none := by
  obtain ⟨o, h, _⟩ := mut_not S hp
  rw [h]; simp
/-- something new, not of the store -/
theorem SR.new {s : Sto} {p : Addr} {o : HO} (S : SR K fa cv Z μ s H) (h : H p = none) : SR K fa cv Z μ s (upd H p o) := by
  have e : Ext μ H μ (upd H p o) := Ext.new h
  have st : Stay (K := K) Z μ H Z μ (upd H p o) := e.stay S.noTup
  refine ⟨S.nd, S.len, fun n c hc => ?_, fun q hq => e.thr q (S.res q hq), S.apart⟩
  obtain ⟨q, h1, h2⟩ := S.cell n c hc
  exact ⟨q, h1, CR.stay st (fun o hq => by rw [upd_ne (ne_of_none hq h)]; exact hq) h2⟩
/-- something new, of the store -/
theorem SR.push {s : Sto} {p : Addr} {o : HO} {c : Cell} (S : SR K fa cv Z μ s H) (h : H p = none) (hc : CR K fa cv Z (μ ++ [p]) (upd H p o) p c) : SR K fa cv Z (μ ++ [p]) (s ++ [c]) (upd H p o) := by
  have e : Ext μ H (μ ++ [p]) (upd H p o) := Ext.push h
  have st : Stay (K := K) Z μ H Z (μ ++ [p]) (upd H p o) := e.stay S.noTup
  have pm : p ∉ μ := fun z => S.tracked z h
  refine ⟨?_, by simp [S.len], fun n c' hc' => ?_, fun q hq => e.thr q (S.res q hq), fun q hq => ?_⟩
  · rw [List.nodup_append]
    exact ⟨S.nd, by simp, fun a ha b hb => by rw [List.mem_singleton.mp hb]; rintro rfl; exact pm ha⟩
  · by_cases hn : n < s.length
    · rw [List.getElem?_append_left hn] at hc'
      obtain ⟨q, h1, h2⟩ := S.cell n c' hc'
      exact ⟨q, e.at h1, CR.stay st (fun o hq => by rw [upd_ne (ne_of_none hq h)]; exact hq) h2⟩
    · have hn' : n = s.length := by
        have := (List.getElem?_eq_some_iff.mp hc').1
        simp at this; omega
      subst hn'
      simp at hc'
      subst hc'
      exact ⟨p, by rw [← S.len]; simp, hc⟩
  · rcases List.mem_append.mp hq with z | z
    · exact S.apart q z
    · rw [List.mem_singleton.mp z]; exact fun w => S.res p w h
/-- a change in the store -/
theorem SR.mut {s : Sto} {n : Nat} {p : Addr} {o o0 : HO} {c : Cell} (S : SR K fa cv Z μ s H) (hp : μ[n]? = some p) (h0 : H p = some o0) (hk : Kd o = Kd o0) (nf : ∀ ob u, o0 ≠ .frz ob u) (hc : CR K fa cv Z μ (upd H p o) p c) : SR K fa cv Z μ (s.set n c) (upd H p o) := by
  have pm : p ∈ μ := List.mem_of_getElem? hp
  have e : Ext μ H μ (upd H p o) := Ext.mut pm h0 hk nf
  have st : Stay (K := K) Z μ H Z μ (upd H p o) := e.stay S.noTup
  refine ⟨S.nd, by simp [S.len], fun m c' hc' => ?_, fun q hq => e.thr q (S.res q hq), S.apart⟩
  by_cases hm : n = m
  · subst hm
    by_cases hl : n < s.length
    · rw [List.getElem?_set_self hl] at hc'
      cases hc'
      exact ⟨p, hp, hc⟩
    · rw [List.getElem?_eq_none (by simpa using hl)] at hc'; cases hc'
  · rw [List.getElem?_set_ne hm] at hc'
    obtain ⟨q, h1, h2⟩ := S.cell m c' hc'
    refine ⟨q, h1, CR.stay st (fun o hq => ?_) h2⟩
    rw [upd_ne]
    · exact hq
    · rintro rfl
      exact hm ((List.getElem?_inj (List.getElem?_eq_some_iff.mp hp).1 S.nd).mp (hp.trans h1.symm))
end
section
variable {N : Nm} {Z μ μ' : List Addr} {H H' : Hp} {s : Sto}
theorem XR.stay {Z' : List Addr} {e : Exn} {cls : Value} {d : Option Addr} (st : Stay (K := N.K) Z μ H Z' μ' H') (h : XR N Z μ H e cls d) : XR N Z' μ' H' e cls d := by
  refine ⟨h.1, ?_⟩
  have h2 := h.2
  revert h2
  cases N.xa e.c with
  | none => exact id
  | some f =>
    rintro ⟨a, as, dd, fs, v, h2, h3, h4, h5, h6, h7, h8⟩
    obtain ⟨k1, k2, k3⟩ := st.xd dd fs h4 h5 h6
    exact ⟨a, as, dd, fs, v, h2, h3, k1, k2, k3, h7, VR.stay st _ _ h8⟩
theorem LR.stay {Z' : List Addr} {l : Loc} {σ : St} (e : Stay (K := N.K) Z μ H Z' μ' H') (h : LR N Z μ H l σ) : LR N Z' μ' H' l σ :=
  ⟨h.len, fun i a q => let ⟨v, h1, h2⟩ := h.at_ i a q; ⟨v, h1, VR.stay e a v h2⟩, by
    have k := h.xf
    revert k
    unfold XF
    cases N.xs with
    | none => exact id
    | some x => exact fun ⟨k1, k2⟩ => ⟨k1.stay e, k2⟩⟩
theorem LR.set {l : Loc} {σ : St} {i : Nat} {a : A} {v : V} (h : LR N Z μ H l σ) (r : VR N.K N.fa Z μ H a v) (hx : N.free i) : LR N Z μ H (l.set i (some a)) (σ.set i (some v)) :=
  ⟨by simp [h.len], fun j b q => by
    by_cases hj : i = j
    · subst hj
      by_cases hl : i < l.length
      · rw [List.getElem?_set_self hl] at q
        cases q
        exact ⟨v, List.getElem?_set_self (by rw [← h.len]; exact hl), r⟩
      · rw [List.getElem?_eq_none (by simpa using hl)] at q; cases q
    · rw [List.getElem?_set_ne hj] at q ⊢
      exact h.at_ j b q, by
    have k := h.xf
    revert k
    unfold XF Nm.free at *
    cases hn : N.xs with
    | none => exact id
    | some x =>
      refine fun ⟨k1, k2⟩ => ⟨k1, fun j hj => ?_⟩
      have ne : i ≠ j := fun z => hx x hn (by rw [hj, z])
      rw [List.getElem?_set_ne ne, List.getElem?_set_ne ne]
      exact k2 j hj⟩
theorem LR.forget {l : Loc} {σ : St} {i : Nat} (h : LR N Z μ H l σ) : LR N Z μ H (l.set i none) σ :=
  ⟨by simp [h.len], fun j b q => by
    by_cases hj : i = j
    · subst hj
      by_cases hl : i < l.length
      · rw [List.getElem?_set_self hl] at q; cases q
      · rw [List.getElem?_eq_none (by simpa using hl)] at q; cases q
    · rw [List.getElem?_set_ne hj] at q
      exact h.at_ j b q, by
    have k := h.xf
    revert k
    unfold XF
    cases N.xs with
    | none => exact id
    | some x =>
      refine fun ⟨k1, k2⟩ => ⟨k1, fun j hj => ⟨(k2 j hj).1, ?_⟩⟩
      by_cases e : i = j
      · subst e
        exact List.getElem?_set_self (List.getElem?_eq_some_iff.mp (k2 i hj).2).1
      · rw [List.getElem?_set_ne e]; exact (k2 j hj).2⟩
theorem LR.kill {σ : St} : ∀ (is : List Nat) {l : Loc}, LR N Z μ H l σ → LR N Z μ H (kill is l) σ
  | [], _, h => h
  | i :: is, _, h => LR.kill is h.forget
end
end Py

set_option autoImplicit false
set_option linter.all false
set_option Elab.async false
set_option maxRecDepth 100000
set_option maxHeartbeats 4000000
/-! PyS2: what an end of the evaluator promises; operators on values. -/
namespace Py
open PySem
open L2 (V Hp HO Rd SqL SqT Cx Inv PE PT PA PS PSs PG PI TE TT TA TS Ends VK XK WX St Room upd upd_same upd_ne ne_of_none Key kV RelV Vals R2 OpR UnR CallR tOp Dp DpAll rI rI0)
section
variable (N : Nm)
def Good {α β : Type} (rel : List Addr → Hp → α → β → Prop) (W : WX) (Z μ : List Addr) (H : Hp) (σ : St) (r : R α) (Q : β → Hp → Prop) : Prop :=
  match r with
  | .ok a s => ∀ μ' H' b, Ext μ H μ' H' → SR N.K N.fa N.cv Z μ' s H' → rel μ' H' a b → Q b H'
  | .exc e s => ∀ μ' H' cls d, Ext μ H μ' H' → SR N.K N.fa N.cv Z μ' s H' → XR N Z μ' H' e cls d → W cls d σ H'
  | .bad => False
/-- a value -/
abbrev GoodE (W : WX) (Z μ : List Addr) (H : Hp) (σ : St) (r : R A) (Q : VK) : Prop := Good N (VR N.K N.fa Z) W Z μ H σ r Q
end
section
variable {N : Nm} {W : WX} {Z μ μ' : List Addr} {H H' : Hp} {σ : St}
theorem Good.later {α β : Type} {rel : List Addr → Hp → α → β → Prop} {r : R α} {Q : β → Hp → Prop} (e : Ext μ H μ' H') (h : Good N rel W Z μ H σ r Q) : Good N rel W Z μ' H' σ r Q := by
  cases r with
  | ok a s => exact fun μ2 H2 b e2 => h μ2 H2 b (e.trans e2)
  | exc x s => exact fun μ2 H2 c d e2 => h μ2 H2 c d (e.trans e2)
  | bad => exact h
theorem Good.bind {α β γ δ : Type} {rel : List Addr → Hp → α → β → Prop} {rel2 : List Addr → Hp → γ → δ → Prop} {r : R α} {k : α → Sto → R γ} {Q : δ → Hp → Prop} {Q' : β → Hp → Prop} (h : Good N rel2 W Z μ H σ (r.bind k) Q)
    (hq : ∀ a s μ1 H1 b, r = .ok a s → Ext μ H μ1 H1 → SR N.K N.fa N.cv Z μ1 s H1 → rel μ1 H1 a b → Good N rel2 W Z μ1 H1 σ (k a s) Q → Q' b H1) : Good N rel W Z μ H σ r Q' := by
  cases r with
  | ok a s => exact fun μ1 H1 b e1 S1 r1 => hq a s μ1 H1 b rfl e1 S1 r1 (Good.later e1 h)
  | exc x s => exact h
  | bad => exact h
/-- a value that is there -/
theorem Good.here {α β : Type} {rel : List Addr → Hp → α → β → Prop} {a : α} {b : β} {s : Sto} {Q : β → Hp → Prop} (h : Good N rel W Z μ H σ (.ok a s) Q) (S : SR N.K N.fa N.cv Z μ s H) (r : rel μ H a b) : Q b H := h μ H b (Ext.refl μ H) S r

/-! ### readings of pairs of values -/
def rV2 (N : Nm) (f : A → A → Sto → R A) : R2 := fun x y H Q => ∃ a b s Z μ W σ, SR N.K N.fa N.cv Z μ s H ∧ VR N.K N.fa Z μ H a x ∧ VR N.K N.fa Z μ H b y ∧ GoodE N W Z μ H σ (f a b s) Q
def rV1 (N : Nm) (f : A → Sto → R A) : V → Hp → VK → Prop := fun x H Q => ∃ a s Z μ W σ, SR N.K N.fa N.cv Z μ s H ∧ VR N.K N.fa Z μ H a x ∧ GoodE N W Z μ H σ (f a s) Q
def rVs (N : Nm) (f : List A → Sto → R A) : List V → Hp → VK → Prop := fun xs H Q => ∃ as s Z μ W σ, SR N.K N.fa N.cv Z μ s H ∧ VRs N.K N.fa Z μ H as xs ∧ GoodE N W Z μ H σ (f as s) Q
theorem opr_imp {X : Cx} {f : Value → Value → Sem Value} {r r' : R2} (h : OpR X f r) (i : ∀ x y H Q, r' x y H Q → r x y H Q) : OpR X f r' := fun pins s σ H x y v u Q I rx ry q => h pins s σ H x y v u Q I rx ry (i x y H Q q)
theorem clr_imp {X : Cx} {f : Value} {r r' : List V → Hp → VK → Prop} (h : CallR X f r) (i : ∀ xs H Q, r' xs H Q → r xs H Q) : CallR X f r' := fun pins s σ H xs us Q I rx q => h pins s σ H xs us Q I rx (i xs H Q q)
theorem clr_or {X : Cx} {f : Value} {r r' : List V → Hp → VK → Prop} (h : CallR X f r) (h' : CallR X f r') : CallR X f (fun xs H Q => r xs H Q ∨ r' xs H Q) := fun pins s σ H xs us Q I rx q => by
  rcases q with q | q
  · exact h pins s σ H xs us Q I rx q
  · exact h' pins s σ H xs us Q I rx q

/-! ### ints -/
theorem rv_int {g : Int → Int → V} {f : A → A → Sto → R A} {x y : V} {H : Hp} {Q : VK} {h : Int → Int → A} (hb : ∀ a b s, (∃ i j, a = .int i ∧ b = .int j ∧ f a b s = .ok (h i j) s) ∨ f a b s = .bad)
    (hr : ∀ i j Z μ H, VR N.K N.fa Z μ H (h i j) (g i j)) : rV2 N f x y H Q → rI0 g x y H Q := by
  rintro ⟨a, b, s, Z, μ, W, σ, S, ra, rb, G⟩
  rcases hb a b s with ⟨i, j, rfl, rfl, e⟩ | e
  · simp only [VR] at ra rb
    rw [e] at G
    exact ⟨i, j, ra, rb, G.here S (hr i j Z μ H)⟩
  · rw [e] at G
    exact False.elim G
theorem rv_intC {C : Int → Int → Prop} {g : Int → Int → V} {f : A → A → Sto → R A} {x y : V} {H : Hp} {Q : VK} {h : Int → Int → A} (hb : ∀ a b s, (∃ i j, a = .int i ∧ b = .int j ∧ C i j ∧ f a b s = .ok (h i j) s) ∨ f a b s = .bad)
    (hr : ∀ i j Z μ H, VR N.K N.fa Z μ H (h i j) (g i j)) : rV2 N f x y H Q → rI C g x y H Q := by
  rintro ⟨a, b, s, Z, μ, W, σ, S, ra, rb, G⟩
  rcases hb a b s with ⟨i, j, rfl, rfl, c, e⟩ | e
  · simp only [VR] at ra rb
    rw [e] at G
    exact ⟨i, j, ra, rb, c, G.here S (hr i j Z μ H)⟩
  · rw [e] at G
    exact False.elim G
section
variable {X : Cx} {fz : Bool}
theorem o_sub : OpR X (binaryOp .Sub) (rV2 N (binA .sub fz)) := opr_imp L2.op_sub fun x y H Q => rv_int (h := fun i j => .int (i - j)) (by intro a b s; cases a <;> cases b <;> first | (right; rfl) | exact .inl ⟨_, _, rfl, rfl, rfl⟩) (by intros; simp [VR])
theorem o_mod : OpR X (binaryOp .Mod) (rV2 N (binA .mod fz)) := opr_imp L2.op_mod fun x y H Q => rv_intC (h := fun i j => .int (i % j)) (by
  intro a b s
  cases a <;> cases b <;> first
    | (right; rfl)
    | (rename_i i j
       by_cases c : 0 < j
       · exact .inl ⟨i, j, rfl, rfl, c, by simp [c]⟩
       · exact .inr (by simp [c]))) (by intros; simp [VR])
theorem o_band : OpR X (binaryOp .BitAnd) (rV2 N (binA .band fz)) := opr_imp L2.op_and fun x y H Q => rv_int (h := fun i j => .int (Builtin.bitAnd i j)) (by intro a b s; cases a <;> cases b <;> first | (right; rfl) | exact .inl ⟨_, _, rfl, rfl, rfl⟩) (by intros; simp [VR])
theorem o_bor : OpR X (binaryOp .BitOr) (rV2 N (binA .bor fz)) := opr_imp L2.op_or fun x y H Q => rv_int (h := fun i j => .int (Builtin.bitOr i j)) (by intro a b s; cases a <;> cases b <;> first | (right; rfl) | exact .inl ⟨_, _, rfl, rfl, rfl⟩) (by intros; simp [VR])
theorem o_bxor : OpR X (binaryOp .BitXor) (rV2 N (binA .bxor fz)) := opr_imp L2.op_xor fun x y H Q => rv_int (h := fun i j => .int (Builtin.bitXor i j)) (by intro a b s; cases a <;> cases b <;> first | (right; rfl) | exact .inl ⟨_, _, rfl, rfl, rfl⟩) (by intros; simp [VR])
theorem o_shr : OpR X (binaryOp .RShift) (rV2 N (binA .shr fz)) := opr_imp L2.op_shr fun x y H Q => rv_intC (h := fun i j => .int (i / 2 ^ j.toNat)) (by
  intro a b s
  cases a <;> cases b <;> first
    | (right; rfl)
    | (rename_i i j
       by_cases c : 0 ≤ j
       · exact .inl ⟨i, j, rfl, rfl, c, by simp [c]⟩
       · exact .inr (by simp [c]))) (by intros; simp [VR])
theorem o_lt : OpR X (compareOp .Lt) (rV2 N (cmpA .lt)) := opr_imp L2.op_lt fun x y H Q => rv_int (h := fun i j => .bl (decide (i < j))) (by intro a b s; cases a <;> cases b <;> first | (right; rfl) | exact .inl ⟨_, _, rfl, rfl, rfl⟩) (by intros; simp [VR])
theorem o_ge : OpR X (compareOp .GtE) (rV2 N (cmpA .ge)) := opr_imp L2.op_ge fun x y H Q => rv_int (h := fun i j => .bl (decide (j ≤ i))) (by intro a b s; cases a <;> cases b <;> first | (right; rfl) | exact .inl ⟨_, _, rfl, rfl, rfl⟩) (by intros; simp [VR])
end

/-! ### equality -/
theorem strOk_cps {x : List Nat} (h : strOk x) : PyData.canLay0 (.str (toS x)) = true := by
  show (toS x).cps.all (· < 0x110000) = true
  simp only [toS]
  simp
  intro i hi
  exact h.2 i hi
mutual
/-- plain data -/
def pur : A → Bool
  | .non => true
  | .bl _ => true
  | .int _ => true
  | .str _ => true
  | .tup as => purs as
  | .lst as => purs as
  | .dct _ _ => false
  | .ref _ => false
  | .fn _ => false
  | .ctp _ => false
def purs : List A → Bool
  | [] => true
  | a :: as => pur a && purs as
end
mutual
theorem eqA_eqv : ∀ (a b : A), pur a = true → pur b = true → eqA a b = PyData.eqv (toD a) (toD b)
  | .non, b, _, hb => by cases b <;> first | rfl | cases hb
  | .bl x, b, _, hb => by cases b <;> first | rfl | cases hb
  | .int x, b, _, hb => by cases b <;> first | rfl | cases hb
  | .str x, b, _, hb => by
    cases b <;> first | rfl | cases hb | skip
    rename_i y
    show (x == y) = (toS x == toS y)
    by_cases h : x = y
    · subst h; rw [beq_self_eq_true, beq_self_eq_true]
    · have : toS x ≠ toS y := by
        intro e
        injection e with e
        exact h (by simpa using e)
      rw [beq_eq_false_iff_ne.mpr h, beq_eq_false_iff_ne.mpr this]
  | .tup as, b, ha, hb => by
    cases b <;> first | rfl | cases hb | skip
    rename_i bs
    simp only [eqA, toD, PyData.eqv]
    exact eqAs_eqv as bs ha hb
  | .lst as, b, ha, hb => by
    cases b <;> first | rfl | cases hb | skip
    rename_i bs
    simp only [eqA, toD, PyData.eqv]
    exact eqAs_eqv as bs ha hb
  | .dct _ _, _, ha, _ => by cases ha
  | .ref _, _, ha, _ => by cases ha
  | .fn _, _, ha, _ => by cases ha
  | .ctp _, _, ha, _ => by cases ha
theorem eqAs_eqv : ∀ (as bs : List A), purs as = true → purs bs = true → eqAs as bs = PyData.eqvAll (toDs as) (toDs bs)
  | [], [], _, _ => rfl
  | [], _ :: _, _, _ => rfl
  | _ :: _, [], _, _ => rfl
  | a :: as, b :: bs, ha, hb => by
    have ha' : pur a = true ∧ purs as = true := Bool.and_eq_true_iff.mp ha
    have hb' : pur b = true ∧ purs bs = true := Bool.and_eq_true_iff.mp hb
    show (eqA a b && eqAs as bs) = (PyData.eqv (toD a) (toD b) && PyData.eqvAll (toDs as) (toDs bs))
    rw [eqA_eqv a b ha'.1 hb'.1, eqAs_eqv as bs ha'.2 hb'.2]
end
/-- a datum, all the way -/
structure DpOk (H : Hp) (K : PySem.W.Frag) (n : Nat) (v : V) (d : A) : Prop where
  dp : Dp K H v (toD d)
  cl : (toD d).canLay0 = true
  dep : (toD d).depth ≤ n
  pu : pur d = true
theorem mapO_dp {K : PySem.W.Frag} {fa : Nat → Option Addr} {n : Nat} {s : Sto} (ih : ∀ a v d, VR K fa Z μ H a v → deep s n a = some d → DpOk H K n v d) : ∀ (as : List A) (vs : List V) (ds : List A), VRs K fa Z μ H as vs → mapO (deep s n) as = some ds →
    DpAll K H vs (toDs ds) ∧ PyData.canLayAll0 (toDs ds) = true ∧ PyData.depthAll (toDs ds) ≤ n ∧ purs ds = true
  | [], vs, ds, h, e => by
    simp only [VRs] at h
    subst h
    cases e
    exact ⟨.nil, rfl, Nat.zero_le _, rfl⟩
  | a :: as, vs, ds, h, e => by
    simp only [VRs] at h
    obtain ⟨v, r, rfl, h1, h2⟩ := h
    rw [mapO_cons] at e
    split at e
    · rename_i d ds' e1 e2
      cases e
      have q1 := ih a v d h1 e1
      obtain ⟨q2, q3, q4, q5⟩ := mapO_dp ih as r ds' h2 e2
      refine ⟨.cons q1.dp q2, Bool.and_eq_true_iff.mpr ⟨q1.cl, q3⟩, ?_, Bool.and_eq_true_iff.mpr ⟨q1.pu, q5⟩⟩
      show max _ _ ≤ n
      have := q1.dep
      omega
    · cases e
def flt0 : A → Bool
  | .non => true
  | .bl _ => true
  | .int _ => true
  | .str _ => true
  | _ => false
theorem CVs.vrs {K : PySem.W.Frag} {fa : Nat → Option Addr} : ∀ {as : List A} {vs : List V}, CVs as vs → VRs K fa Z μ H as vs
  | [], vs, h => by have h' : vs = [] := h; subst h'; simp [VRs]
  | .int i :: r, vs, h => by
    obtain ⟨w, rfl, h2⟩ := (show ∃ w, vs = .int i :: w ∧ CVs r w from h)
    simp only [VRs, VR]
    exact ⟨_, w, rfl, rfl, CVs.vrs h2⟩
  | .str x :: r, vs, h => by
    obtain ⟨w, rfl, h1, h2⟩ := (show ∃ w, vs = .str (toS x) :: w ∧ strOk x ∧ CVs r w from h)
    simp only [VRs, VR]
    exact ⟨_, w, rfl, ⟨rfl, h1⟩, CVs.vrs h2⟩
  | .non :: _, _, h => h.elim
  | .bl _ :: _, _, h => h.elim
  | .tup _ :: _, _, h => h.elim
  | .ctp _ :: _, _, h => h.elim
  | .lst _ :: _, _, h => h.elim
  | .dct _ _ :: _, _, h => h.elim
  | .ref _ :: _, _, h => h.elim
  | .fn _ :: _, _, h => h.elim
theorem deep_ok {s : Sto} (S : SR N.K N.fa N.cv Z μ s H) : ∀ (n : Nat) (a : A) (v : V) (d : A), VR N.K N.fa Z μ H a v → deep s n a = some d → DpOk H N.K n v d := by
  have flt0C : ∀ (n : Nat) (a : A) (v : V) (d : A), VR N.K N.fa Z μ H a v → deep s n a = some d → flt0 a = true → DpOk H N.K n v d := fun n a v d r e f => by
    cases a <;> first | cases f | skip
    · simp only [VR] at r; subst r; simp at e; subst e; exact ⟨.non, rfl, Nat.zero_le _, rfl⟩
    · simp only [VR] at r; subst r; simp at e; subst e; exact ⟨.bl _, rfl, Nat.zero_le _, rfl⟩
    · simp only [VR] at r; subst r; simp at e; subst e; exact ⟨.int _, rfl, Nat.zero_le _, rfl⟩
    · simp only [VR] at r; obtain ⟨rfl, k⟩ := r; simp at e; subst e; exact ⟨.str _, strOk_cps k, Nat.zero_le _, rfl⟩
  intro n
  induction n with
  | zero =>
    intro a v d r e
    by_cases f : flt0 a = true
    · exact flt0C 0 a v d r e f
    · cases a <;> first | exact absurd rfl f | cases e
  | succ n ih =>
    intro a v d r e
    by_cases f : flt0 a = true
    · exact flt0C _ a v d r e f
    · cases a <;> first | exact absurd rfl f | skip
      · rename_i as
        simp only [VR] at r
        obtain ⟨p, vs, rfl, h1, h2⟩ := r
        have e' : (mapO (deep s n) as).map A.tup = some d := e
        obtain ⟨ds, e1, rfl⟩ := Option.map_eq_some_iff.mp e'
        obtain ⟨q1, q2, q3, q4⟩ := mapO_dp ih as vs ds h2 e1
        exact ⟨.tup (.inl (.inl h1)) q1, q2, Nat.succ_le_succ q3, q4⟩
      · rename_i as
        simp only [VR] at r
        obtain ⟨p, vs, rfl, h1, h2⟩ := r
        have e' : (mapO (deep s n) as).map A.lst = some d := e
        obtain ⟨ds, e1, rfl⟩ := Option.map_eq_some_iff.mp e'
        obtain ⟨q1, q2, q3, q4⟩ := mapO_dp ih as vs ds h2 e1
        exact ⟨.lst h1.sq q1, q2, Nat.succ_le_succ q3, q4⟩
      · cases e
      · rename_i as
        simp only [VR] at r
        obtain ⟨p, vs, rfl, h1, h2⟩ := r
        have e' : (mapO (deep s n) as).map A.tup = some d := e
        obtain ⟨ds, e1, rfl⟩ := Option.map_eq_some_iff.mp e'
        obtain ⟨q1, q2, q3, q4⟩ := mapO_dp ih as vs ds (CVs.vrs h2) e1
        exact ⟨.tup (.inr h1) q1, q2, Nat.succ_le_succ q3, q4⟩
      · rename_i m
        simp only [VR] at r
        obtain ⟨p, rfl, h1⟩ := r
        have e' : kDeep (deep s n) s[m]? = some d := e
        cases hm : s[m]? with
        | none => rw [hm] at e'; cases e'
        | some c =>
          rw [hm] at e'
          obtain ⟨q, h2, hc⟩ := S.cell m c hm
          obtain rfl : p = q := Option.some.inj (h1.symm.trans h2)
          cases c with
          | lst as =>
            obtain ⟨vs, h3, h4⟩ := hc
            have e2 : (mapO (deep s n) as).map A.lst = some d := e'
            obtain ⟨ds, e1, rfl⟩ := Option.map_eq_some_iff.mp e2
            obtain ⟨q1, q2, q3, q4⟩ := mapO_dp ih as vs ds h4 e1
            exact ⟨.lst (.inl (.inl h3)) q1, q2, Nat.succ_le_succ q3, q4⟩
          | dct t ks => cases e'
          | lck t ks => cases e'
          | ins c fs => cases e'
      · cases e
theorem DpOk.shaped {K : PySem.W.Frag} {v : V} {d : A} (h : DpOk H K 60 v d) : SeqAt.shaped (toD d) = true := Bool.and_eq_true_iff.mpr ⟨h.cl, decide_eq_true (Nat.le_trans h.dep (by decide))⟩
section
variable {X : Cx}
theorem o_eq (hK : X.K = N.K) (hu : X.A.units + 64 < cLine) : OpR X (compareOp .Eq) (rV2 N (cmpA .eq)) := opr_imp (L2.op_eqD hu) fun x y H Q => by
  rintro ⟨a, b, s, Z, μ, W, σ, S, ra, rb, G⟩
  have G : GoodE N W Z μ H σ (kEqD (deep s 60 a) (deep s 60 b) s) Q := G
  cases e1 : deep s 60 a with
  | none => rw [e1] at G; exact False.elim G
  | some d1 =>
    cases e2 : deep s 60 b with
    | none => rw [e1, e2] at G; exact False.elim G
    | some d2 =>
      rw [e1, e2] at G
      have k1 := deep_ok S 60 a x d1 ra e1
      have k2 := deep_ok S 60 b y d2 rb e2
      rw [hK]
      exact ⟨_, _, k1.dp, k2.dp, k1.shaped, k2.shaped, G.here S (by simp [VR, eqA_eqv d1 d2 k1.pu k2.pu])⟩
theorem o_ne (hK : X.K = N.K) (hu : X.A.units + 64 < cLine) : OpR X (compareOp .NotEq) (rV2 N (cmpA .ne)) := opr_imp (L2.op_neD hu) fun x y H Q => by
  rintro ⟨a, b, s, Z, μ, W, σ, S, ra, rb, G⟩
  have G : GoodE N W Z μ H σ (kNeD (deep s 60 a) (deep s 60 b) s) Q := G
  cases e1 : deep s 60 a with
  | none => rw [e1] at G; exact False.elim G
  | some d1 =>
    cases e2 : deep s 60 b with
    | none => rw [e1, e2] at G; exact False.elim G
    | some d2 =>
      rw [e1, e2] at G
      have k1 := deep_ok S 60 a x d1 ra e1
      have k2 := deep_ok S 60 b y d2 rb e2
      rw [hK]
      exact ⟨_, _, k1.dp, k2.dp, k1.shaped, k2.shaped, G.here S (by simp [VR, eqA_eqv d1 d2 k1.pu k2.pu])⟩
end
end
end Py

set_option autoImplicit false
set_option linter.all false
set_option Elab.async false
set_option maxRecDepth 100000
set_option maxHeartbeats 4000000
/-! PyD: dicts: keys, reading, writing. -/
namespace Py
open PySem
open L2 (V Hp HO Rd SqL SqT Cx Inv PE PT PA PS PSs PG PI TE TT TA TS Ends VK XK WX St Room upd upd_same upd_ne ne_of_none Key kV RelV Vals R2 OpR UnR CallR tOp Dp DpAll rI rI0 DGet DPut valV putK dropK IsD)
section
variable {N : Nm} {Z μ : List Addr} {H : Hp} {s : Sto}
theorem keyA_some {a : A} {q : Key} (h : keyA a = some q) : (∃ i, a = .int i ∧ q = .inl i) ∨ ∃ x, a = .str x ∧ q = .inr (toS x) := by
  cases a <;> first | cases h | skip
  · exact .inl ⟨_, rfl, rfl⟩
  · exact .inr ⟨_, rfl, rfl⟩
theorem keyA_isK {a : A} (h : isK1 a = true) : ∃ q, keyA a = some q := by
  cases a with
  | int i => exact ⟨.inl i, rfl⟩
  | str x => exact ⟨.inr (toS x), rfl⟩
  | _ => cases h
theorem toS_inj {x y : List Nat} (h : toS x = toS y) : x = y := by
  injection h with e
  simpa using e
theorem kEq1_key {a b : A} {p q : Key} (ha : keyA a = some p) (hb : keyA b = some q) : kEq1 a b = decide (p = q) := by
  rcases keyA_some ha with ⟨i, rfl, rfl⟩ | ⟨x, rfl, rfl⟩ <;> rcases keyA_some hb with ⟨j, rfl, rfl⟩ | ⟨y, rfl, rfl⟩
  · show (i == j) = _
    by_cases h : i = j
    · subst h; simp
    · simp [h]
  · simp [kEq1]
  · simp [kEq1]
  · show (x == y) = _
    by_cases h : x = y
    · subst h; simp
    · have h2 : ¬ (Sum.inr (toS x) : Key) = Sum.inr (toS y) := fun e => h (toS_inj (Sum.inr.inj e))
      rw [decide_eq_false h2, beq_eq_false_iff_ne.mpr h]
theorem kEq_key {a b : A} {p q : Key} (ha : keyA a = some p) (hb : keyA b = some q) : kEq a b = decide (p = q) := by
  rw [← kEq1_key ha hb]
  rcases keyA_some ha with ⟨i, rfl, rfl⟩ | ⟨x, rfl, rfl⟩ <;> rcases keyA_some hb with ⟨j, rfl, rfl⟩ | ⟨y, rfl, rfl⟩ <;> rfl
theorem mapO_keys : ∀ {as : List A}, as.all isK1 = true → ∃ qs, mapO keyA as = some qs
  | [], _ => ⟨[], rfl⟩
  | a :: as, h => by
    rw [List.all_cons, Bool.and_eq_true] at h
    obtain ⟨q, e⟩ := keyA_isK h.1
    obtain ⟨qs, e2⟩ := mapO_keys h.2
    exact ⟨q :: qs, by rw [mapO_cons, e, e2]⟩
theorem mapO_inv {α β : Type} {f : α → Option β} {a : α} {as : List α} {bs : List β} (h : mapO f (a :: as) = some bs) : ∃ b r, f a = some b ∧ mapO f as = some r ∧ bs = b :: r := by
  rw [mapO_cons] at h
  split at h
  · rename_i x xs e1 e2
    cases h
    exact ⟨x, xs, e1, e2, rfl⟩
  · cases h
theorem kEqs_keys : ∀ {as bs : List A} {ps qs : List Key}, mapO keyA as = some ps → mapO keyA bs = some qs → kEqs as bs = decide (ps = qs)
  | [], [], _, _, h, k => by cases h; cases k; rfl
  | [], b :: bs, _, _, h, k => by obtain ⟨x, r, _, _, rfl⟩ := mapO_inv k; cases h; rfl
  | a :: as, [], _, _, h, k => by obtain ⟨x, r, _, _, rfl⟩ := mapO_inv h; cases k; rfl
  | a :: as, b :: bs, _, _, h, k => by
    obtain ⟨x, r, e1, e2, rfl⟩ := mapO_inv h
    obtain ⟨y, r', e3, e4, rfl⟩ := mapO_inv k
    show (kEq1 a b && kEqs as bs) = _
    rw [kEq1_key e1 e3, kEqs_keys e2 e4]
    by_cases h1 : x = y
    · by_cases h2 : r = r'
      · simp [h1, h2]
      · simp [h1, h2]
    · simp [h1]
theorem keysA_some {a : A} {qs : List Key} (h : keysA a = some qs) : ∃ as, a = .tup as ∧ mapO keyA as = some qs := by
  cases a <;> first | cases h | exact ⟨_, rfl, h⟩
theorem kEq_keys {a b : A} {ps qs : List Key} (ha : keysA a = some ps) (hb : keysA b = some qs) : kEq a b = decide (ps = qs) := by
  obtain ⟨as, rfl, h1⟩ := keysA_some ha
  obtain ⟨bs, rfl, h2⟩ := keysA_some hb
  exact kEqs_keys h1 h2
/-- a value that is a key -/
theorem key_val {a : A} {v : V} (h : isKey false a = true) (r : VR N.K N.fa Z μ H a v) : ∃ q, keyA a = some q ∧ v = kV q := by
  obtain ⟨q, e⟩ := keyA_isK (a := a) (by cases a <;> exact h)
  refine ⟨q, e, ?_⟩
  rcases keyA_some e with ⟨i, rfl, rfl⟩ | ⟨x, rfl, rfl⟩
  · simp only [VR] at r; exact r
  · simp only [VR] at r; exact r.1
theorem keys_val : ∀ {as : List A} {vs : List V} {qs : List Key}, mapO keyA as = some qs → VRs N.K N.fa Z μ H as vs → vs = qs.map kV
  | [], vs, qs, h, r => by cases h; simp only [VRs] at r; exact r
  | a :: as, vs, qs, h, r => by
    obtain ⟨q, rs, e1, e2, rfl⟩ := mapO_inv h
    simp only [VRs] at r
    obtain ⟨v, w, rfl, r1, r2⟩ := r
    rw [keys_val e2 r2]
    rcases keyA_some e1 with ⟨i, rfl, rfl⟩ | ⟨x, rfl, rfl⟩
    · simp only [VR] at r1; subst r1; rfl
    · simp only [VR] at r1; obtain ⟨rfl, _⟩ := r1; rfl
theorem key_tup {a : A} {v : V} (h : isKey true a = true) (r : VR N.K N.fa Z μ H a v) : ∃ qs b, keysA a = some qs ∧ v = .ref b ∧ H b = some (.tup (qs.map kV)) := by
  cases a <;> first | cases h | skip
  rename_i as
  obtain ⟨qs, e⟩ := mapO_keys (as := as) h
  simp only [VR] at r
  obtain ⟨p, vs, rfl, h1, h2⟩ := r
  rw [keys_val e h2] at h1
  exact ⟨qs, p, e, rfl, h1⟩
/-! ### what stands at a key -/
theorem dget_nil (k : A) : dget [] k = none := rfl
theorem dget_cons (kv : A × A) (ks : List (A × A)) (k : A) : dget (kv :: ks) k = if kEq kv.1 k = true then some kv.2 else dget ks k := by
  unfold dget
  rw [List.find?_cons]
  cases kEq kv.1 k <;> rfl
theorem VRk.get : ∀ {ks : List (A × A)} {kvs : List (Key × V)} {k : A} {q : Key}, VRk N.K N.fa Z μ H ks kvs → keyA k = some q → (dget ks k = none ∧ valV kvs q = none) ∨ ∃ a v, dget ks k = some a ∧ valV kvs q = some v ∧ VR N.K N.fa Z μ H a v
  | [], kvs, k, q, h, e => by simp only [VRk] at h; subst h; exact .inl ⟨rfl, rfl⟩
  | (k0, a) :: ks, kvs, k, q, h, e => by
    simp only [VRk] at h
    obtain ⟨q0, v, r, rfl, e0, h1, h2⟩ := h
    rw [dget_cons, kEq_key e0 e]
    by_cases hq : q0 = q
    · exact .inr ⟨a, v, by simp [hq], L2.valV_pos hq, h1⟩
    · rw [L2.valV_neg (p := (q0, v)) hq]
      simp only [hq, decide_false, Bool.false_eq_true, if_false]
      exact VRk.get h2 e
theorem VRt.get : ∀ {ks : List (A × A)} {kvs : List (List Key × V)} {k : A} {q : List Key}, VRt N.K N.fa Z μ H ks kvs → keysA k = some q → (dget ks k = none ∧ valV kvs q = none) ∨ ∃ a v, dget ks k = some a ∧ valV kvs q = some v ∧ VR N.K N.fa Z μ H a v
  | [], kvs, k, q, h, e => by simp only [VRt] at h; subst h; exact .inl ⟨rfl, rfl⟩
  | (k0, a) :: ks, kvs, k, q, h, e => by
    simp only [VRt] at h
    obtain ⟨q0, v, r, rfl, e0, h1, h2⟩ := h
    rw [dget_cons, kEq_keys e0 e]
    by_cases hq : q0 = q
    · exact .inr ⟨a, v, by simp [hq], L2.valV_pos hq, h1⟩
    · rw [L2.valV_neg (p := (q0, v)) hq]
      simp only [hq, decide_false, Bool.false_eq_true, if_false]
      exact VRt.get h2 e
theorem VRk.len : ∀ {ks : List (A × A)} {kvs : List (Key × V)}, VRk N.K N.fa Z μ H ks kvs → kvs.length = ks.length
  | [], kvs, h => by simp only [VRk] at h; subst h; rfl
  | (k0, a) :: ks, kvs, h => by
    simp only [VRk] at h
    obtain ⟨q0, v, r, rfl, e0, h1, h2⟩ := h
    simp [VRk.len h2]
theorem VRt.len : ∀ {ks : List (A × A)} {kvs : List (List Key × V)}, VRt N.K N.fa Z μ H ks kvs → kvs.length = ks.length
  | [], kvs, h => by simp only [VRt] at h; subst h; rfl
  | (k0, a) :: ks, kvs, h => by
    simp only [VRt] at h
    obtain ⟨q0, v, r, rfl, e0, h1, h2⟩ := h
    simp [VRt.len h2]
theorem VRk.app : ∀ {ks ls : List (A × A)} {kvs lvs : List (Key × V)}, VRk N.K N.fa Z μ H ks kvs → VRk N.K N.fa Z μ H ls lvs → VRk N.K N.fa Z μ H (ks ++ ls) (kvs ++ lvs)
  | [], ls, kvs, lvs, h, k => by simp only [VRk] at h; subst h; exact k
  | (k0, a) :: ks, ls, kvs, lvs, h, k => by
    simp only [VRk] at h
    obtain ⟨q0, v, r, rfl, e0, h1, h2⟩ := h
    simp only [List.cons_append, VRk]
    exact ⟨q0, v, _, rfl, e0, h1, VRk.app h2 k⟩
theorem VRt.app : ∀ {ks ls : List (A × A)} {kvs lvs : List (List Key × V)}, VRt N.K N.fa Z μ H ks kvs → VRt N.K N.fa Z μ H ls lvs → VRt N.K N.fa Z μ H (ks ++ ls) (kvs ++ lvs)
  | [], ls, kvs, lvs, h, k => by simp only [VRt] at h; subst h; exact k
  | (k0, a) :: ks, ls, kvs, lvs, h, k => by
    simp only [VRt] at h
    obtain ⟨q0, v, r, rfl, e0, h1, h2⟩ := h
    simp only [List.cons_append, VRt]
    exact ⟨q0, v, _, rfl, e0, h1, VRt.app h2 k⟩
theorem VRk.any : ∀ {ks : List (A × A)} {kvs : List (Key × V)} {k : A} {q : Key}, VRk N.K N.fa Z μ H ks kvs → keyA k = some q → (ks.any fun kv => kEq kv.1 k) = kvs.any fun kv => decide (kv.1 = q)
  | [], kvs, k, q, h, e => by simp only [VRk] at h; subst h; rfl
  | (k0, a) :: ks, kvs, k, q, h, e => by
    simp only [VRk] at h
    obtain ⟨q0, v, r, rfl, e0, h1, h2⟩ := h
    simp only [List.any_cons, kEq_key e0 e, VRk.any h2 e]
theorem VRt.any : ∀ {ks : List (A × A)} {kvs : List (List Key × V)} {k : A} {q : List Key}, VRt N.K N.fa Z μ H ks kvs → keysA k = some q → (ks.any fun kv => kEq kv.1 k) = kvs.any fun kv => decide (kv.1 = q)
  | [], kvs, k, q, h, e => by simp only [VRt] at h; subst h; rfl
  | (k0, a) :: ks, kvs, k, q, h, e => by
    simp only [VRt] at h
    obtain ⟨q0, v, r, rfl, e0, h1, h2⟩ := h
    simp only [List.any_cons, kEq_keys e0 e, VRt.any h2 e]
theorem VRk.repl : ∀ {ks : List (A × A)} {kvs : List (Key × V)} {k : A} {q : Key} {b : A} {w : V}, VRk N.K N.fa Z μ H ks kvs → keyA k = some q → VR N.K N.fa Z μ H b w →
    VRk N.K N.fa Z μ H (ks.map fun kv => if kEq kv.1 k = true then (kv.1, b) else kv) (kvs.map fun kv => if kv.1 = q then (kv.1, w) else kv)
  | [], kvs, k, q, b, w, h, e, rb => by simp only [VRk] at h; subst h; simp [VRk]
  | (k0, a) :: ks, kvs, k, q, b, w, h, e, rb => by
    simp only [VRk] at h
    obtain ⟨q0, v, r, rfl, e0, h1, h2⟩ := h
    simp only [List.map_cons, kEq_key e0 e]
    have ih := VRk.repl h2 e rb
    by_cases hq : q0 = q
    · simp only [hq, decide_true, if_true, VRk]
      exact ⟨q, w, _, rfl, by rw [← hq]; exact e0, rb, ih⟩
    · simp only [hq, decide_false, Bool.false_eq_true, if_false, VRk]
      exact ⟨q0, v, _, rfl, e0, h1, ih⟩
theorem VRt.repl : ∀ {ks : List (A × A)} {kvs : List (List Key × V)} {k : A} {q : List Key} {b : A} {w : V}, VRt N.K N.fa Z μ H ks kvs → keysA k = some q → VR N.K N.fa Z μ H b w →
    VRt N.K N.fa Z μ H (ks.map fun kv => if kEq kv.1 k = true then (kv.1, b) else kv) (kvs.map fun kv => if kv.1 = q then (kv.1, w) else kv)
  | [], kvs, k, q, b, w, h, e, rb => by simp only [VRt] at h; subst h; simp [VRt]
  | (k0, a) :: ks, kvs, k, q, b, w, h, e, rb => by
    simp only [VRt] at h
    obtain ⟨q0, v, r, rfl, e0, h1, h2⟩ := h
    simp only [List.map_cons, kEq_keys e0 e]
    have ih := VRt.repl h2 e rb
    by_cases hq : q0 = q
    · simp only [hq, decide_true, if_true, VRt]
      exact ⟨q, w, _, rfl, by rw [← hq]; exact e0, rb, ih⟩
    · simp only [hq, decide_false, Bool.false_eq_true, if_false, VRt]
      exact ⟨q0, v, _, rfl, e0, h1, ih⟩
theorem VRk.put {ks : List (A × A)} {kvs : List (Key × V)} {k : A} {q : Key} {b : A} {w : V} (h : VRk N.K N.fa Z μ H ks kvs) (e : keyA k = some q) (rb : VR N.K N.fa Z μ H b w) : VRk N.K N.fa Z μ H (dput ks k b) (putK kvs q w) := by
  unfold dput putK
  rw [VRk.any h e]
  by_cases c : (kvs.any fun kv => decide (kv.1 = q)) = true
  · rw [if_pos c, if_pos c]; exact VRk.repl h e rb
  · rw [if_neg c, if_neg c]
    exact VRk.app h (by simp only [VRk]; exact ⟨q, w, [], rfl, e, rb, rfl⟩)
theorem VRt.put {ks : List (A × A)} {kvs : List (List Key × V)} {k : A} {q : List Key} {b : A} {w : V} (h : VRt N.K N.fa Z μ H ks kvs) (e : keysA k = some q) (rb : VR N.K N.fa Z μ H b w) : VRt N.K N.fa Z μ H (dput ks k b) (putK kvs q w) := by
  unfold dput putK
  rw [VRt.any h e]
  by_cases c : (kvs.any fun kv => decide (kv.1 = q)) = true
  · rw [if_pos c, if_pos c]; exact VRt.repl h e rb
  · rw [if_neg c, if_neg c]
    exact VRt.app h (by simp only [VRt]; exact ⟨q, w, [], rfl, e, rb, rfl⟩)
theorem VRk.drop : ∀ {ks : List (A × A)} {kvs : List (Key × V)} {k : A} {q : Key}, VRk N.K N.fa Z μ H ks kvs → keyA k = some q → VRk N.K N.fa Z μ H (ddel ks k) (dropK kvs q)
  | [], kvs, k, q, h, e => by simp only [VRk] at h; subst h; simp [ddel, dropK, VRk]
  | (k0, a) :: ks, kvs, k, q, h, e => by
    simp only [VRk] at h
    obtain ⟨q0, v, r, rfl, e0, h1, h2⟩ := h
    have ih := VRk.drop h2 e
    unfold ddel dropK at ih ⊢
    by_cases hq : q0 = q
    · have e1 : (!kEq k0 k) = false := by rw [kEq_key e0 e]; simp [hq]
      simp only [List.filter_cons, e1, Bool.false_eq_true, if_false, hq, ne_eq, not_true_eq_false, decide_false]
      exact ih
    · have e1 : (!kEq k0 k) = true := by rw [kEq_key e0 e]; simp [hq]
      simp only [List.filter_cons, e1, if_true, ne_eq, hq, not_false_eq_true, decide_true, VRk]
      exact ⟨q0, v, _, rfl, e0, h1, ih⟩
theorem VRt.drop : ∀ {ks : List (A × A)} {kvs : List (List Key × V)} {k : A} {q : List Key}, VRt N.K N.fa Z μ H ks kvs → keysA k = some q → VRt N.K N.fa Z μ H (ddel ks k) (dropK kvs q)
  | [], kvs, k, q, h, e => by simp only [VRt] at h; subst h; simp [ddel, dropK, VRt]
  | (k0, a) :: ks, kvs, k, q, h, e => by
    simp only [VRt] at h
    obtain ⟨q0, v, r, rfl, e0, h1, h2⟩ := h
    have ih := VRt.drop h2 e
    unfold ddel dropK at ih ⊢
    by_cases hq : q0 = q
    · have e1 : (!kEq k0 k) = false := by rw [kEq_keys e0 e]; simp [hq]
      simp only [List.filter_cons, e1, Bool.false_eq_true, if_false, hq, ne_eq, not_true_eq_false, decide_false]
      exact ih
    · have e1 : (!kEq k0 k) = true := by rw [kEq_keys e0 e]; simp [hq]
      simp only [List.filter_cons, e1, if_true, ne_eq, hq, not_false_eq_true, decide_true, VRt]
      exact ⟨q0, v, _, rfl, e0, h1, ih⟩
/-- a dict that is read -/
inductive DR (N : Nm) (Z μ : List Addr) (H : Hp) (p : Addr) : Bool → List (A × A) → Prop
  | k {ks : List (A × A)} {kvs : List (Key × V)} (h : Rd H p (.dK kvs)) (r : VRk N.K N.fa Z μ H ks kvs) : DR N Z μ H p false ks
  | t {ks : List (A × A)} {kvs : List (List Key × V)} (h : Rd H p (.dT kvs)) (r : VRt N.K N.fa Z μ H ks kvs) : DR N Z μ H p true ks
theorem DR.isD {p : Addr} {t : Bool} {ks : List (A × A)} (d : DR N Z μ H p t ks) : IsD H p := by
  cases d with
  | k h r => exact .inl ⟨_, h⟩
  | t h r => exact .inr ⟨_, h⟩
theorem dct_read (S : SR N.K N.fa N.cv Z μ s H) {a : A} {v : V} {t : Bool} {ks : List (A × A)} (r : VR N.K N.fa Z μ H a v) (h : dctOf s a = some (t, ks)) : ∃ p, v = .ref p ∧ DR N Z μ H p t ks := by
  cases a <;> first | cases h | skip
  · cases t <;> (simp only [VR] at r; obtain ⟨p, kvs, rfl, h1, _, _, h2⟩ := r)
    · exact ⟨p, rfl, .k h1 h2⟩
    · exact ⟨p, rfl, .t h1 h2⟩
  · rename_i n
    simp only [VR] at r
    obtain ⟨p, rfl, hp⟩ := r
    replace h : kDct1 s[n]? = some (t, ks) := h
    cases e : s[n]? with
    | none => rw [e] at h; cases h
    | some c =>
      rw [e] at h
      obtain ⟨q, h2, hc⟩ := S.cell n c e
      obtain rfl : p = q := Option.some.inj (hp.symm.trans h2)
      cases c with
      | lst xs => cases h
      | ins c fs => cases h
      | dct t' ks' =>
        cases h
        cases t with
        | false => obtain ⟨vs, h3, h4⟩ := hc; exact ⟨p, rfl, .k (.inl h3) h4⟩
        | true => obtain ⟨vs, h3, h4⟩ := hc; exact ⟨p, rfl, .t (.inl h3) h4⟩
      | lck t' ks' =>
        cases h
        cases t with
        | false => obtain ⟨od, vs, h3, h4⟩ := hc; exact ⟨p, rfl, .k (.inr ⟨od, h3⟩) h4⟩
        | true => obtain ⟨od, vs, h3, h4⟩ := hc; exact ⟨p, rfl, .t (.inr ⟨od, h3⟩) h4⟩
/-- at a key -/
theorem DR.get {p : Addr} {t : Bool} {ks : List (A × A)} (d : DR N Z μ H p t ks) {k : A} {y : V} (hk : isKey t k = true) (r : VR N.K N.fa Z μ H k y) :
    ∃ o, DGet H p y o ∧ ((dget ks k = none ∧ o = none) ∨ ∃ a v, dget ks k = some a ∧ o = some v ∧ VR N.K N.fa Z μ H a v) := by
  cases d with
  | @k ks kvs h r1 =>
    obtain ⟨q, e, rfl⟩ := key_val hk r
    exact ⟨valV kvs q, .inl ⟨kvs, q, h, rfl, rfl⟩, VRk.get r1 e⟩
  | @t ks kvs h r1 =>
    obtain ⟨q, b, e, rfl, hb⟩ := key_tup hk r
    exact ⟨valV kvs q, .inr ⟨kvs, q, b, h, rfl, hb, rfl⟩, VRt.get r1 e⟩
end
end Py

set_option autoImplicit false
set_option linter.all false
set_option Elab.async false
set_option maxRecDepth 100000
set_option maxHeartbeats 4000000
/-! PyS3: operators, built-ins and methods on values. -/
namespace Py
open PySem
open L2 (V Hp HO Rd SqL SqT Cx Inv PE PT PA PS PSs PG PI TE TT TA TS Ends VK XK WX St Room upd upd_same upd_ne ne_of_none Key kV RelV Vals R2 OpR UnR CallR tOp Dp DpAll rI rI0 EP MtR IxR PSet DGet DPut valV putK dropK IsD)
section
variable {N : Nm} {W : WX} {Z μ μ' : List Addr} {H H' : Hp} {σ : St} {s : Sto}
/-- a list that may be read -/
def LL (K : PySem.W.Frag) (H : Hp) (p : Addr) (vs : List V) : Prop := Rd H p (.lst vs) ∨ KL K p vs
theorem LL.sq {K : PySem.W.Frag} {p : Addr} {vs : List V} (h : LL K H p vs) : SqL K H p vs := by
  rcases h with h | ⟨its, n, h1, h2, h3⟩
  · exact .inl h
  · exact .inr ⟨_, its.toArray, n, h1, rfl, rfl, rfl, h2, h3⟩
theorem FL.ll {K : PySem.W.Frag} {p : Addr} {vs : List V} (h : FL K Z μ H p vs) : LL K H p vs := by
  rcases h with h | h
  · exact .inl h.1
  · exact .inr h
theorem LL.at_ {X : Cx} {pins : List (Addr × Obj)} {σ : St} {sh : Shared} {p : Addr} {vs : List V} (I : Inv X pins σ H sh) (h : LL X.K H p vs) :
    ∃ (its : List Value) (n : Nat), Vals vs its ∧ vs.length = its.length ∧ sh.heap.get? p = some { cls := .type "list", data := .seq its.toArray n } ∧ vs.length ≤ sizeLine := by
  rcases h with h | ⟨its, n, h1, h2, h3⟩
  · obtain ⟨z, its, n, r, e⟩ := h.ok I.hok
    exact ⟨its, n, r, r.length, e, z⟩
  · exact ⟨its, n, h3, h3.length, I.kIn _ _ h1, by rw [h3.length]; exact h2⟩
theorem kLst1_read (S : SR N.K N.fa N.cv Z μ s H) {n : Nat} {as : List A} (h : kLst1 s[n]? = some as) {p : Addr} (hp : μ[n]? = some p) : ∃ vs, H p = some (.lst vs) ∧ VRs N.K N.fa Z μ H as vs := by
  cases e : s[n]? with
  | none => rw [e] at h; cases h
  | some c =>
    rw [e] at h
    obtain ⟨q, h2, hc⟩ := S.cell n c e
    obtain rfl : p = q := Option.some.inj (hp.symm.trans h2)
    cases c with
    | lst xs => cases h; exact hc
    | dct t ks => cases h
    | lck t ks => cases h
    | ins c fs => cases h
theorem lst_read (S : SR N.K N.fa N.cv Z μ s H) {a : A} {v : V} {as : List A} (r : VR N.K N.fa Z μ H a v) (h : lstOf s a = some as) : ∃ p vs, v = .ref p ∧ LL N.K H p vs ∧ VRs N.K N.fa Z μ H as vs := by
  cases a <;> first | cases h | skip
  · simp only [VR] at r
    obtain ⟨p, vs, rfl, h1, h2⟩ := r
    exact ⟨p, vs, rfl, h1.ll, h2⟩
  · rename_i n
    simp only [VR] at r
    obtain ⟨p, rfl, h1⟩ := r
    obtain ⟨vs, h2, h3⟩ := kLst1_read S h h1
    exact ⟨p, vs, rfl, .inl (.inl h2), h3⟩
theorem seq_read (S : SR N.K N.fa N.cv Z μ s H) {a : A} {v : V} {as : List A} (r : VR N.K N.fa Z μ H a v) (h : seqOf s a = some as) : ∃ p vs, v = .ref p ∧ (SqL N.K H p vs ∨ SqT N.K H p vs) ∧ VRs N.K N.fa Z μ H as vs := by
  cases a with
  | tup xs =>
    cases h
    simp only [VR] at r
    obtain ⟨p, vs, rfl, h1, h2⟩ := r
    exact ⟨p, vs, rfl, .inr (.inl (.inl h1)), h2⟩
  | ctp xs =>
    cases h
    simp only [VR] at r
    obtain ⟨p, vs, rfl, h1, h2⟩ := r
    exact ⟨p, vs, rfl, .inr (.inr h1), CVs.vrs h2⟩
  | lst xs => obtain ⟨p, vs, h1, h2, h3⟩ := lst_read S r (as := as) h; exact ⟨p, vs, h1, .inl h2.sq, h3⟩
  | ref n => obtain ⟨p, vs, h1, h2, h3⟩ := lst_read S r (as := as) h; exact ⟨p, vs, h1, .inl h2.sq, h3⟩
  | _ => cases h
theorem VRs.length : ∀ {as : List A} {vs : List V}, VRs N.K N.fa Z μ H as vs → vs.length = as.length
  | [], vs, h => by simp only [VRs] at h; subst h; rfl
  | a :: as, vs, h => by
    simp only [VRs] at h
    obtain ⟨v, r, rfl, _, h2⟩ := h
    simp [VRs.length h2]
theorem VRs.get : ∀ {as : List A} {vs : List V} {i : Nat} {a : A}, VRs N.K N.fa Z μ H as vs → as[i]? = some a → ∃ v, vs[i]? = some v ∧ VR N.K N.fa Z μ H a v
  | [], vs, i, a, h, e => by simp at e
  | b :: as, vs, i, a, h, e => by
    simp only [VRs] at h
    obtain ⟨v, r, rfl, h1, h2⟩ := h
    cases i with
    | zero => simp at e; subst e; exact ⟨v, rfl, h1⟩
    | succ i =>
      obtain ⟨w, e1, e2⟩ := VRs.get (i := i) h2 (by simpa using e)
      exact ⟨w, by simpa using e1, e2⟩
theorem VRs.append : ∀ {as bs : List A} {vs ws : List V}, VRs N.K N.fa Z μ H as vs → VRs N.K N.fa Z μ H bs ws → VRs N.K N.fa Z μ H (as ++ bs) (vs ++ ws)
  | [], bs, vs, ws, h, k => by simp only [VRs] at h; subst h; exact k
  | a :: as, bs, vs, ws, h, k => by
    simp only [VRs] at h
    obtain ⟨v, r, rfl, h1, h2⟩ := h
    simp only [List.cons_append, VRs]
    exact ⟨v, r ++ ws, rfl, h1, VRs.append h2 k⟩
theorem VRs.one {a : A} {v : V} (h : VR N.K N.fa Z μ H a v) : VRs N.K N.fa Z μ H [a] [v] := by simp [VRs, h]
theorem VRs.set : ∀ {as : List A} {vs : List V} {a : A} {v : V} (i : Nat), VRs N.K N.fa Z μ H as vs → VR N.K N.fa Z μ H a v → VRs N.K N.fa Z μ H (as.set i a) (vs.set i v)
  | [], vs, a, v, i, h, k => by simp only [VRs] at h; subst h; simp [VRs]
  | b :: as, vs, a, v, i, h, k => by
    simp only [VRs] at h
    obtain ⟨w, r, rfl, h1, h2⟩ := h
    cases i with
    | zero => simp only [List.set_cons_zero, VRs]; exact ⟨v, r, rfl, k, h2⟩
    | succ i => simp only [List.set_cons_succ, VRs]; exact ⟨w, _, rfl, h1, VRs.set i h2 k⟩
theorem VRs.erase : ∀ {as : List A} {vs : List V} (i : Nat), VRs N.K N.fa Z μ H as vs → VRs N.K N.fa Z μ H (as.eraseIdx i) (vs.eraseIdx i)
  | [], vs, i, h => by simp only [VRs] at h; subst h; simp [VRs]
  | b :: as, vs, i, h => by
    simp only [VRs] at h
    obtain ⟨w, r, rfl, h1, h2⟩ := h
    cases i with
    | zero => simpa using h2
    | succ i => simp only [List.eraseIdx_cons_succ, VRs]; exact ⟨w, _, rfl, h1, VRs.erase i h2⟩
theorem VRs.one_of {as : List A} {v : V} (h : VRs N.K N.fa Z μ H as [v]) : ∃ a, as = [a] ∧ VR N.K N.fa Z μ H a v := by
  cases as with
  | nil => simp [VRs] at h
  | cons a as =>
    simp only [VRs] at h
    obtain ⟨w, r, e, h1, h2⟩ := h
    cases e
    cases as with
    | nil => exact ⟨a, rfl, h1⟩
    | cons b as => simp only [VRs] at h2; obtain ⟨w, r, e, _⟩ := h2; cases e

/-- a new list -/
theorem Good.mkL {fz : Bool} {as : List A} {vs : List V} {Q : VK} (S : SR N.K N.fa N.cv Z μ s H) (r : VRs N.K N.fa Z μ H as vs) (G : GoodE N W Z μ H σ (mkL fz as s) Q) : ∀ p, H p = none → Q (.ref p) (upd H p (.lst vs)) := by
  intro p hp
  cases fz with
  | true =>
    have e : Ext μ H μ (upd H p (.lst vs)) := Ext.new hp
    refine G μ _ (.ref p) e (S.new hp) ?_
    simp only [VR]
    refine ⟨p, vs, rfl, .inl ⟨.inl upd_same, fun z => S.tracked z hp, fun z => S.res p z hp⟩, VRs.stay (e.stay S.noTup) as vs r⟩
  | false =>
    have e : Ext μ H (μ ++ [p]) (upd H p (.lst vs)) := Ext.push hp
    refine G (μ ++ [p]) _ (.ref p) e (S.push hp ⟨vs, upd_same, VRs.stay (e.stay S.noTup) as vs r⟩) ?_
    simp only [VR]
    exact ⟨p, rfl, by rw [← S.len]; simp⟩
/-- a new tuple -/
theorem Good.mkT {as : List A} {vs : List V} {Q : VK} (S : SR N.K N.fa N.cv Z μ s H) (r : VRs N.K N.fa Z μ H as vs) (G : GoodE N W Z μ H σ (.ok (.tup as) s) Q) : ∀ p, H p = none → Q (.ref p) (upd H p (.tup vs)) := by
  intro p hp
  have e : Ext μ H μ (upd H p (.tup vs)) := Ext.new hp
  refine G μ _ (.ref p) e (S.new hp) ?_
  simp only [VR]
  exact ⟨p, vs, rfl, upd_same, VRs.stay (e.stay S.noTup) as vs r⟩
/-- a list of the store is written -/
theorem Good.setL {α : Type} {rel : List Addr → Hp → A → V → Prop} {a : A} {v : V} {n : Nat} {p : Addr} {as : List A} {vs : List V} {Q : VK} (S : SR N.K N.fa N.cv Z μ s H) (hp : μ[n]? = some p) {us : List V} (h0 : H p = some (.lst us)) (r : VRs N.K N.fa Z μ H as vs)
    (ra : ∀ H', Stay (K := N.K) Z μ H Z μ H' → rel μ H' a v) (G : Good N rel W Z μ H σ (.ok a (s.set n (.lst as))) Q) : Q v (upd H p (.lst vs)) := by
  have e : Ext μ H μ (upd H p (.lst vs)) := Ext.mut (List.mem_of_getElem? hp) h0 rfl (by simp)
  exact G μ _ v e (S.mut hp h0 rfl (by simp) ⟨vs, upd_same, VRs.stay (e.stay S.noTup) as vs r⟩) (ra _ (e.stay S.noTup))
end
section
variable {N : Nm} {X : Cx} {fz : Bool}
theorem iteR {α : Type} {c : Prop} [Decidable c] {N : Nm} {β : Type} {rel : List Addr → Hp → α → β → Prop} {W : WX} {Z μ : List Addr} {H : Hp} {σ : St} {r : R α} {Q : β → Hp → Prop} (h : Good N rel W Z μ H σ (if c then r else .bad) Q) : c ∧ Good N rel W Z μ H σ r Q := by
  by_cases hc : c
  · rw [if_pos hc] at h; exact ⟨hc, h⟩
  · rw [if_neg hc] at h; exact False.elim h
def rCatL (K : PySem.W.Frag) : R2 := fun x y H Q => ∃ l b xs zs, x = .ref l ∧ y = .ref b ∧ LL K H l xs ∧ LL K H b zs ∧ xs.length + zs.length ≤ sizeLine ∧ ∀ p, H p = none → Q (.ref p) (upd H p (.lst (xs ++ zs)))
theorem op_catL : OpR X (binaryOp .Add) (rCatL X.K) := by
  intro pins s σ H x y v u Q I rx ry h
  obtain ⟨l, b, xs, zs, rfl, rfl, hH, hB, hz, q⟩ := h
  cases rx
  cases ry
  obtain ⟨its, n, r, hl, e, z⟩ := hH.at_ I
  obtain ⟨its2, n2, r2, hl2, e2, z2⟩ := hB.at_ I
  refine PySem.P.add_list e e2 ?_ (by rw [List.size_toArray, List.size_toArray]; omega)
  have ea : its.toArray ++ its2.toArray = (its ++ its2).toArray := by simp
  rw [ea]
  exact ⟨.ref _, _, I.lnew (t' := s.toks) (r.append r2) (by rw [List.length_append]; omega), rfl, q _ I.fresh⟩
theorem toS_len (x : List Nat) : (toS x).length = x.length := by simp [toS, Str.length]
theorem toS_app (x y : List Nat) : toS x ++ toS y = toS (x ++ y) := by
  show Str.mk _ = Str.mk _
  simp [toS]
theorem strOk_app {x y : List Nat} (h : strOk x) (k : strOk y) (l : x.length + y.length ≤ big) : strOk (x ++ y) := ⟨by rw [List.length_append]; exact l, fun c hc => by
  rcases List.mem_append.mp hc with z | z
  · exact h.2 c z
  · exact k.2 c z⟩
theorem big_line : big = sizeLine := by rw [sizeLine_eq]
theorem o_add (hK : X.K = N.K) : OpR X (binaryOp .Add) (rV2 N (binA .add fz)) := by
  refine opr_imp (L2.OpR.or L2.op_add (L2.OpR.or L2.op_add_str (L2.OpR.or L2.op_catA op_catL))) fun x y H Q => ?_
  rw [hK]
  rintro ⟨a, b, s, Z, μ, W, σ, S, ra, rb, G0⟩
  have G : GoodE N W Z μ H σ (addA fz a b s) Q := G0
  clear G0
  have lists : (h : ∃ as bs, lstOf s a = some as ∧ lstOf s b = some bs ∧ GoodE N W Z μ H σ (kAddL fz (some as) (some bs) s) Q) → rCatL N.K x y H Q := by
    rintro ⟨as, bs, e1, e2, G⟩
    obtain ⟨p, vs, rfl, h1, h2⟩ := lst_read S ra e1
    obtain ⟨q, ws, rfl, h3, h4⟩ := lst_read S rb e2
    obtain ⟨hz, G⟩ := iteR G
    exact ⟨p, q, vs, ws, rfl, rfl, h1, h3, by rw [h2.length, h4.length, ← big_line]; exact hz, Good.mkL S (h2.append h4) G⟩
  cases a with
  | int i =>
    cases b with
    | int j =>
      simp only [VR] at ra rb
      exact .inl ⟨_, _, ra, rb, G.here S (by simp [VR])⟩
    | _ => exact False.elim G
  | str xs =>
    cases b with
    | str ys =>
      simp only [VR] at ra rb
      obtain ⟨hz, G⟩ := iteR G
      refine .inr (.inl ⟨_, _, ra.1, rb.1, by rw [toS_len, toS_len, ← big_line]; exact hz, G.here S ?_⟩)
      simp only [VR, toS_app]
      exact ⟨trivial, strOk_app ra.2 rb.2 hz⟩
    | _ => exact False.elim G
  | tup as =>
    cases b with
    | tup bs =>
      obtain ⟨hz, G⟩ := iteR G
      simp only [VR] at ra rb
      obtain ⟨p, vs, rfl, h1, h2⟩ := ra
      obtain ⟨q, ws, rfl, h3, h4⟩ := rb
      refine .inr (.inr (.inl ⟨p, q, vs, ws, rfl, rfl, .inl (.inl h1), .inl (.inl h3), by rw [h2.length, h4.length, ← big_line]; exact hz, fun e => ?_, fun _ e => ?_, fun _ _ => Good.mkT S (h2.append h4) G⟩))
      · subst e
        refine G.here S ?_
        simp only [VR]
        have : as = [] := List.length_eq_zero_iff.mp h2.length.symm
        subst this
        exact ⟨q, ws, rfl, h3, h4⟩
      · subst e
        refine G.here S ?_
        simp only [VR]
        have : bs = [] := List.length_eq_zero_iff.mp h4.length.symm
        subst this
        rw [List.append_nil]
        exact ⟨p, vs, rfl, h1, h2⟩
    | _ => exact False.elim G
  | lst as =>
    refine .inr (.inr (.inr (lists ?_)))
    replace G : GoodE N W Z μ H σ (kAddL fz (some as) (lstOf s b) s) Q := G
    cases e : lstOf s b with
    | none => rw [e] at G; exact False.elim G
    | some bs => rw [e] at G; exact ⟨as, bs, rfl, rfl, G⟩
  | ref n =>
    refine .inr (.inr (.inr (lists ?_)))
    replace G : GoodE N W Z μ H σ (kAddL fz (lstOf s (.ref n)) (lstOf s b) s) Q := G
    cases e0 : lstOf s (.ref n) with
    | none => rw [e0] at G; exact False.elim G
    | some as =>
      cases e : lstOf s b with
      | none => rw [e0, e] at G; exact False.elim G
      | some bs => rw [e0, e] at G; exact ⟨as, bs, rfl, rfl, G⟩
  | _ => exact False.elim G
/-! ### repetition -/
theorem repL_len {α : Type} (n : Nat) (xs : List α) : (repL n xs).length = xs.length * n := by
  unfold repL
  induction n with
  | zero => rfl
  | succ n ih => rw [List.replicate_succ, List.flatten_cons, List.length_append, ih, Nat.mul_succ, Nat.add_comm]
theorem repL_mem {α : Type} {n : Nat} {xs : List α} {c : α} (h : c ∈ repL n xs) : c ∈ xs := by
  unfold repL at h
  induction n with
  | zero => simp at h
  | succ n ih =>
    rw [List.replicate_succ, List.flatten_cons, List.mem_append] at h
    exact h.elim id ih
theorem fold_app (cs : Array Nat) : ∀ (n : Nat) (acc : Array Nat), (List.replicate n cs).foldl (· ++ ·) acc = acc ++ (repL n cs.toList).toArray
  | 0, acc => by simp [repL]
  | n + 1, acc => by
    rw [List.replicate_succ, List.foldl_cons, fold_app cs n]
    unfold repL
    rw [List.replicate_succ, List.flatten_cons]
    apply Array.ext'
    simp
def rMulS : R2 := fun x y H Q => ∃ (z : List Nat) (j : Int), x = .str (toS z) ∧ y = .int j ∧ -(2 ^ 62) < j ∧ j < 2 ^ 62 ∧ z.length * j.toNat ≤ big ∧ Q (.str (toS (repL j.toNat z))) H
theorem op_mulS : OpR X (binaryOp .Mult) rMulS := by
  intro pins s σ H x y v u Q I rx ry h
  obtain ⟨z, j, rfl, rfl, h1, h2, h3, q⟩ := h
  obtain ⟨t, rfl⟩ := rx
  obtain ⟨t', rfl⟩ := ry
  have hlen : (toS z).length = z.length := toS_len z
  refine PySem.P.mul_str ?_ (fun g1 g2 => ?_) (fun g1 g2 => ?_) ?_
  · rw [decide_eq_false (by omega), decide_eq_false (by omega)]; rfl
  · rw [hlen]
    have hj : (1 : Int) ≤ j := by omega
    have e : ((z.length * j.toNat : Nat) : Int) = (z.length : Int) * j := by rw [Int.natCast_mul]; congr 1; omega
    have hb : (z.length : Int) * j ≤ 16777216 := by rw [← e]; exact Int.ofNat_le.mpr h3
    intro g
    have : (z.length : Int) ≤ (2 ^ 63 - 1) / j := Int.le_ediv_of_mul_le (by omega) (by omega)
    omega
  · rw [hlen]
    unfold Builtin.Str.tooLong
    have : ¬ (z.length * j.toNat > sizeLine) := by rw [← big_line]; omega
    simpa using this
  · split
    · rename_i g
      have e0 : j.toNat = 0 := by omega
      rw [e0] at q
      exact ⟨by decide, .str (toS []), H, I.tok _, ⟨_, rfl⟩, q⟩
    · rename_i g
      split
      · rename_i g2
        refine ⟨.str (toS z), H, I, ⟨t, rfl⟩, ?_⟩
        have e1 : repL j.toNat z = z := by
          rw [hlen] at g2
          simp only [Bool.or_eq_true, beq_iff_eq] at g2
          rcases g2 with g2 | g2
          · subst g2; simp [repL]
          · have : z = [] := List.length_eq_zero_iff.mp g2
            subst this
            simp [repL]
        rw [e1] at q
        exact q
      · have e2 : (⟨(List.replicate j.toNat (toS z).cps).foldl (· ++ ·) #[]⟩ : Str) = toS (repL j.toNat z) := by
          rw [fold_app]
          simp [toS]
        rw [e2]
        refine ⟨?_, .str (toS (repL j.toNat z)), H, I.tok _, ⟨_, rfl⟩, q⟩
        rw [toS_len, repL_len, ← big_line]
        exact h3
def rMulL (K : PySem.W.Frag) : R2 := fun x y H Q => ∃ l k xs, x = .ref l ∧ y = .int k ∧ LL K H l xs ∧ -(2 ^ 62) < k ∧ k < 2 ^ 62 ∧ xs.length * k.toNat ≤ sizeLine ∧ ∀ p, H p = none → Q (.ref p) (upd H p (.lst (repL k.toNat xs)))
theorem op_mulL : OpR X (binaryOp .Mult) (rMulL X.K) := by
  intro pins s σ H x y v u Q I rx ry h
  obtain ⟨l, k, xs, rfl, rfl, hH, h1, h2, hz, q⟩ := h
  cases rx
  obtain ⟨t, rfl⟩ := ry
  obtain ⟨its, n, r, hl, e, hb⟩ := hH.at_ I
  have hs : its.toArray.size * k.toNat ≤ sizeLine := by rw [List.size_toArray, ← hl]; exact hz
  have f0 : ∀ (m : Nat) (acc : List Value), List.foldl (fun x1 x2 => x1 ++ x2) acc.toArray (List.replicate m its.toArray) = (acc ++ (List.replicate m its).flatten).toArray := by
    intro m
    induction m with
    | zero => intro acc; simp
    | succ m ih => intro acc; rw [List.replicate_succ, List.foldl_cons, List.append_toArray, ih]; simp [List.replicate_succ]
  have hnew : List.foldl (fun x1 x2 => x1 ++ x2) #[] (List.replicate (if its.toArray.isEmpty = true then 0 else k.toNat) its.toArray) = (List.replicate k.toNat its).flatten.toArray := by
    have g := fun m => f0 m []
    simp only [List.nil_append] at g
    rw [g]
    cases its with
    | nil => simp
    | cons a r' => rw [if_neg (by simp)]
  have hlong : ¬ Builtin.List.listTooLong (its.toArray.size * k.toNat) = true := by rw [L2.notLongL hs]; exact Bool.false_ne_true
  have hfit : ¬ (!Builtin.List.listFitsIndex k) = true := by rw [PySem.fitsIndex_both (by omega) (by omega)]; exact Bool.false_ne_true
  have hcap : ¬ its.toArray.size * k.toNat > (2 ^ 63 - 1) / 8 := by have : (sizeLine : Nat) ≤ (2 ^ 63 - 1) / 8 := by decide
                                                                    omega
  refine wpAny_binaryOp_repeat_ref (T := "list") (U := "int") (by decide) ⟨_, e, rfl⟩ (fun s' => typeIs_int s' k t) noFill_list_mul F.fills_int_mul F.slot_int_rmul repeat_list F.slot_int_index.lookup ?_
  refine call_meets F.slot_int_rmul (typeIs_int s k t) F.entry_int_rmul (F.args_int_rmul_2 _ _) (int___rmul___int_list k t l its.toArray n) ⟨e, rfl, ⟨_, e, rfl⟩, ?_⟩
  refine call_meets F.slot_list_mul ⟨_, e, rfl⟩ F.entry_list_mul (F.args_list_mul_2 _ _) (AutoListH.list___mul___list_int_3 l its.toArray n k t hfit hcap hlong) ⟨e, ?_⟩
  rw [hnew]
  refine ⟨.ref _, _, I.lnew (t' := s.toks) (r.rep k.toNat) ?_, rfl, q _ I.fresh⟩
  have := repL_len k.toNat xs
  unfold repL at this
  rw [this]
  exact hz
theorem VRs.rep {Z μ : List Addr} {H : Hp} {as : List A} {vs : List V} (r : VRs N.K N.fa Z μ H as vs) : ∀ n : Nat, VRs N.K N.fa Z μ H (repL n as) (repL n vs)
  | 0 => by simp [repL, VRs]
  | n + 1 => by
    have := VRs.rep r n
    unfold repL at this ⊢
    rw [List.replicate_succ, List.replicate_succ, List.flatten_cons, List.flatten_cons]
    exact r.append this
theorem o_mul (hK : X.K = N.K) : OpR X (binaryOp .Mult) (rV2 N (binA .mul fz)) := opr_imp (L2.OpR.or L2.op_mul (L2.OpR.or op_mulS op_mulL)) fun x y H Q => by
  rw [hK]
  rintro ⟨a, b, s, Z, μ, W, σ, S, ra, rb, G⟩
  have lists : ∀ as j, lstOf s a = some as → b = .int j → GoodE N W Z μ H σ (kRepL fz j (some as) s) Q → rMulL N.K x y H Q := by
    intro as j e eb G'
    subst eb
    obtain ⟨p, vs, rfl, h1, h2⟩ := lst_read S ra e
    replace G' : GoodE N W Z μ H σ (if as.length * j.toNat ≤ big ∧ j < 2 ^ 62 ∧ -(2 ^ 62) < j then mkL fz (repL j.toNat as) s else .bad) Q := G'
    obtain ⟨hz, G'⟩ := iteR G'
    simp only [VR] at rb
    exact ⟨p, j, vs, rfl, rb, h1, hz.2.2, hz.2.1, by rw [h2.length, ← big_line]; exact hz.1, Good.mkL S (h2.rep j.toNat) G'⟩
  cases b with
  | int j =>
    cases a with
    | int i =>
      replace G : GoodE N W Z μ H σ (if okMul i j then .ok (.int (i * j)) s else .bad) Q := G
      obtain ⟨hz, G⟩ := iteR G
      simp only [VR] at ra rb
      exact .inl ⟨_, _, ra, rb, hz, G.here S (by simp [VR])⟩
    | str z =>
      replace G : GoodE N W Z μ H σ (if z.length * j.toNat ≤ big ∧ j < 2 ^ 62 ∧ -(2 ^ 62) < j then .ok (.str (repL j.toNat z)) s else .bad) Q := G
      obtain ⟨hz, G⟩ := iteR G
      simp only [VR] at ra rb
      refine .inr (.inl ⟨z, j, ra.1, rb, hz.2.2, hz.2.1, hz.1, G.here S ?_⟩)
      simp only [VR]
      exact ⟨trivial, by rw [repL_len]; exact hz.1, fun c hc => ra.2.2 c (repL_mem hc)⟩
    | lst as => exact .inr (.inr (lists as j rfl rfl G))
    | ref n =>
      replace G : GoodE N W Z μ H σ (kRepL fz j (lstOf s (.ref n)) s) Q := G
      cases e : lstOf s (.ref n) with
      | none => rw [e] at G; exact False.elim G
      | some as => rw [e] at G; exact .inr (.inr (lists as j e rfl G))
    | _ => exact False.elim G
  | _ => cases a <;> exact False.elim G
theorem o_fdiv : OpR X (binaryOp .FloorDiv) (rV2 N (binA .fdiv fz)) := opr_imp L2.op_fdivW fun x y H Q => by
  rintro ⟨a, b, s, Z, μ, W, σ, S, ra, rb, G⟩
  cases a with
  | int i =>
    cases b with
    | int j =>
      obtain ⟨hz, G⟩ := iteR G
      simp only [VR] at ra rb
      exact ⟨_, _, ra, rb, L2.wide_div hz.1 (b := 64) (by omega) (by decide) (by decide), G.here S (by simp [VR])⟩
    | _ => exact False.elim G
  | _ => exact False.elim G
theorem o_le : OpR X (compareOp .LtE) (rV2 N (cmpA .le)) := by
  refine opr_imp (L2.OpR.or L2.op_le L2.op_le_str) fun x y H Q => ?_
  rintro ⟨a, b, s, Z, μ, W, σ, S, ra, rb, G⟩
  cases a with
  | int i =>
    cases b with
    | int j =>
      simp only [VR] at ra rb
      replace G : GoodE N W Z μ H σ (.ok (.bl (decide (i ≤ j))) s) Q := G
      exact .inl ⟨_, _, ra, rb, G.here S (by simp [VR])⟩
    | _ => exact False.elim G
  | str i =>
    cases b with
    | str j =>
      simp only [VR] at ra rb
      replace G : GoodE N W Z μ H σ (.ok (.bl (!decide (j < i))) s) Q := G
      exact .inr ⟨_, _, ra.1, rb.1, G.here S (by simp [VR])⟩
    | _ => exact False.elim G
  | _ => exact False.elim G
def rGtT (K : PySem.W.Frag) : R2 := fun x y H Q => ∃ (a b : Addr) (ns ms : List Int), x = .ref a ∧ y = .ref b ∧ SqT K H a (ns.map V.int) ∧ SqT K H b (ms.map V.int) ∧ Q (.bl (lexGt ns ms)) H
theorem lexAt_gt : ∀ (ns ms : List Int) (i : Nat) (as bs : List Int), as.drop i = ns → bs.drop i = ms → i ≤ as.length → i ≤ bs.length →
    Ob.lexAt (fun j => decide (as.getD j 0 = bs.getD j 0)) (fun j => decide (bs.getD j 0 < as.getD j 0)) (decide (as.length > bs.length)) i (min ns.length ms.length) = lexGt ns ms
  | [], ms, i, as, bs, ha, hb, h1, h2 => by
    have : as.length = i := by have := List.drop_eq_nil_iff.mp ha; omega
    simp only [List.length_nil, Nat.zero_min, Ob.lexAt_zero, lexGt]
    exact decide_eq_false (by omega)
  | x :: ns, [], i, as, bs, ha, hb, h1, h2 => by
    have e1 : bs.length = i := by have := List.drop_eq_nil_iff.mp hb; omega
    have e2 : i < as.length := by
      have := congrArg List.length ha
      simp at this
      omega
    simp only [List.length_nil, Nat.min_zero, Ob.lexAt_zero, lexGt]
    exact decide_eq_true (by omega)
  | x :: ns, y :: ms, i, as, bs, ha, hb, h1, h2 => by
    have e1 : i < as.length := by
      have := congrArg List.length ha
      simp at this
      omega
    have e2 : i < bs.length := by
      have := congrArg List.length hb
      simp at this
      omega
    have x1 : as.getD i 0 = x := by
      have := congrArg (fun z => z[0]?) ha
      simp at this
      simp [List.getD, this]
    have y1 : bs.getD i 0 = y := by
      have := congrArg (fun z => z[0]?) hb
      simp at this
      simp [List.getD, this]
    have ha2 : as.drop (i + 1) = ns := by have := congrArg List.tail ha; simpa using this
    have hb2 : bs.drop (i + 1) = ms := by have := congrArg List.tail hb; simpa using this
    have ih := lexAt_gt ns ms (i + 1) as bs ha2 hb2 e1 e2
    have hm : min (x :: ns).length (y :: ms).length = min ns.length ms.length + 1 := by simp only [List.length_cons]; omega
    rw [hm, Ob.lexAt_succ, ih, x1, y1]
    show _ = if x = y then lexGt ns ms else decide (y < x)
    by_cases h : x = y <;> simp [h]
theorem op_gtT (hu : X.A.units < cLine) : OpR X (compareOp .Gt) (rGtT X.K) := by
  intro pins s σ H x y v u Q I rx ry h
  obtain ⟨a, b, ns, ms, rfl, rfl, ha, hb, q⟩ := h
  cases rx
  cases ry
  obtain ⟨us, r1, p1, _⟩ := I.tuple ha
  obtain ⟨ws, r2, p2, _⟩ := I.tuple hb
  have i1 : PyProof.Rows.IntsAre us ns := L2.Vals.ints r1
  have i2 : PyProof.Rows.IntsAre ws ms := L2.Vals.ints r2
  have n1 : us.toArray.size = ns.length := List.size_toArray.trans i1.length
  have n2 : ws.toArray.size = ms.length := List.size_toArray.trans i2.length
  have w1 : ∀ j (h : j < us.toArray.size), ∃ t, us.toArray[j] = .int (ns.getD j 0) t := fun j h => PyProof.Rows.IntsAre.int_at i1 _ _ (by simp at h; simp [h])
  have w2 : ∀ j (h : j < ws.toArray.size), ∃ t, ws.toArray[j] = .int (ms.getD j 0) t := fun j h => PyProof.Rows.IntsAre.int_at i2 _ _ (by simp at h; simp [h])
  have eqb : ∀ m k : Int, (m == k) = decide (m = k) := fun m k => by by_cases z : m = k <;> simp [z]
  have R := Ob.RcOp.tuples_gt (A := X.A) (s := s) (e := fun j => decide (ns.getD j 0 = ms.getD j 0)) (r := fun j => decide (ms.getD j 0 < ns.getD j 0)) p1 p2 hu
    (fun j g1 g2 => by
      obtain ⟨t, et⟩ := w1 j g1
      obtain ⟨t', et'⟩ := w2 j g2
      rw [et, et', ← eqb]
      exact SeqAt.EqAt.int_int _ _ _ _)
    (fun j g1 g2 _ => by
      obtain ⟨t, et⟩ := w1 j g1
      obtain ⟨t', et'⟩ := w2 j g2
      rw [et, et']
      exact Ob.RcOp.gt_int _ _ _ _)
  rw [n1, n2] at R
  have e := lexAt_gt ns ms 0 ns ms rfl rfl (Nat.zero_le _) (Nat.zero_le _)
  rw [e] at R
  have z : wpAny (model X.prog X.w) X.A (compareOp .Gt (.ref a) (.ref b)) (EP X pins σ Q) X.xe s := R X.prog X.w X.xe (EP X pins σ Q) ⟨.bl _, H, I, rfl, q⟩
  exact z
def rGtL (K : PySem.W.Frag) : R2 := fun x y H Q => ∃ (a b : Addr) (ns ms : List Int), x = .ref a ∧ y = .ref b ∧ SqL K H a (ns.map V.int) ∧ SqL K H b (ms.map V.int) ∧ Q (.bl (lexGt ns ms)) H
theorem firstLt_gt : ∀ (ns ms : List Int) (i : Nat) (as bs : List Int), as.drop i = ns → bs.drop i = ms → i ≤ as.length → i ≤ bs.length →
    PySem.SeqAt.firstLt (fun j => decide (as.getD j 0 = bs.getD j 0)) (fun j => decide (bs.getD j 0 < as.getD j 0)) (decide (as.length > bs.length)) (List.range' i (min ns.length ms.length)) = lexGt ns ms
  | [], ms, i, as, bs, ha, hb, h1, h2 => by
    have : as.length = i := by have := List.drop_eq_nil_iff.mp ha; omega
    simp only [List.length_nil, Nat.zero_min, List.range'_zero, PySem.SeqAt.firstLt, lexGt]
    exact decide_eq_false (by omega)
  | x :: ns, [], i, as, bs, ha, hb, h1, h2 => by
    have e1 : bs.length = i := by have := List.drop_eq_nil_iff.mp hb; omega
    have e2 : i < as.length := by
      have := congrArg List.length ha
      simp at this
      omega
    simp only [List.length_nil, Nat.min_zero, List.range'_zero, PySem.SeqAt.firstLt, lexGt]
    exact decide_eq_true (by omega)
  | x :: ns, y :: ms, i, as, bs, ha, hb, h1, h2 => by
    have e1 : i < as.length := by
      have := congrArg List.length ha
      simp at this
      omega
    have e2 : i < bs.length := by
      have := congrArg List.length hb
      simp at this
      omega
    have x1 : as.getD i 0 = x := by
      have := congrArg (fun z => z[0]?) ha
      simp at this
      simp [List.getD, this]
    have y1 : bs.getD i 0 = y := by
      have := congrArg (fun z => z[0]?) hb
      simp at this
      simp [List.getD, this]
    have ha2 : as.drop (i + 1) = ns := by have := congrArg List.tail ha; simpa using this
    have hb2 : bs.drop (i + 1) = ms := by have := congrArg List.tail hb; simpa using this
    have ih := firstLt_gt ns ms (i + 1) as bs ha2 hb2 e1 e2
    have hm : min (x :: ns).length (y :: ms).length = min ns.length ms.length + 1 := by simp only [List.length_cons]; omega
    rw [hm, List.range'_succ]
    show (if decide (as.getD i 0 = bs.getD i 0) = true then PySem.SeqAt.firstLt _ _ _ (List.range' (i + 1) _) else decide (bs.getD i 0 < as.getD i 0)) = if x = y then lexGt ns ms else decide (y < x)
    rw [x1, y1, ih]
    by_cases h : x = y <;> simp [h]
theorem op_gtL (hu : X.A.units < cLine) : OpR X (compareOp .Gt) (rGtL X.K) := by
  intro pins s σ H x y v u Q I rx ry h
  obtain ⟨a, b, ns, ms, rfl, rfl, ha, hb, q⟩ := h
  cases rx
  cases ry
  obtain ⟨us, r1, p1, _⟩ := I.list ha
  obtain ⟨ws, r2, p2, _⟩ := I.list hb
  have i1 : PyProof.Rows.IntsAre us ns := L2.Vals.ints r1
  have i2 : PyProof.Rows.IntsAre ws ms := L2.Vals.ints r2
  have n1 : us.toArray.size = ns.length := List.size_toArray.trans i1.length
  have n2 : ws.toArray.size = ms.length := List.size_toArray.trans i2.length
  have w1 : ∀ j (h : j < us.toArray.size), ∃ t, us.toArray[j] = .int (ns.getD j 0) t := fun j h => PyProof.Rows.IntsAre.int_at i1 _ _ (by simp at h; simp [h])
  have w2 : ∀ j (h : j < ws.toArray.size), ∃ t, ws.toArray[j] = .int (ms.getD j 0) t := fun j h => PyProof.Rows.IntsAre.int_at i2 _ _ (by simp at h; simp [h])
  have eqb : ∀ m k : Int, (m == k) = decide (m = k) := fun m k => by by_cases z : m = k <;> simp [z]
  have R := PySem.SeqAt.RcOp.lists_gt (A := X.A) (s := s) (e := fun j => decide (ns.getD j 0 = ms.getD j 0)) (r := fun j => decide (ms.getD j 0 < ns.getD j 0)) p1.isList p2.isList hu
    (fun j g1 g2 => by
      obtain ⟨t, et⟩ := w1 j g1
      obtain ⟨t', et'⟩ := w2 j g2
      rw [et, et', ← eqb]
      exact SeqAt.EqAt.int_int _ _ _ _)
    (fun j g1 g2 _ => by
      obtain ⟨t, et⟩ := w1 j g1
      obtain ⟨t', et'⟩ := w2 j g2
      rw [et, et']
      exact fun _ _ _ _ h => PyProof.Rows.gt_int h)
  rw [n1, n2, List.range_eq_range'] at R
  have e := firstLt_gt ns ms 0 ns ms rfl rfl (Nat.zero_le _) (Nat.zero_le _)
  rw [e] at R
  have z : wpAny (model X.prog X.w) X.A (compareOp .Gt (.ref a) (.ref b)) (EP X pins σ Q) X.xe s := R X.prog X.w X.xe (EP X pins σ Q) ⟨.bl _, H, I, rfl, q⟩
  exact z
theorem ints_vals3 {Z μ : List Addr} {H : Hp} : ∀ {as : List A} {vs : List V} {is : List Int}, VRs N.K N.fa Z μ H as vs → intsOf as = some is → vs = is.map V.int
  | [], vs, is, r, h => by cases h; simpa [VRs] using r
  | a :: as, vs, is, r, h => by
    cases a <;> first | cases h | skip
    rename_i i
    obtain ⟨js, e, rfl⟩ := Option.map_eq_some_iff.mp (show (intsOf as).map (i :: ·) = some is from h)
    simp only [VRs, VR] at r
    obtain ⟨v, w, rfl, rfl, r2⟩ := r
    rw [ints_vals3 r2 e]
    rfl
theorem o_gt (hK : X.K = N.K) (hu : X.A.units < cLine) : OpR X (compareOp .Gt) (rV2 N (cmpA .gt)) := opr_imp (L2.OpR.or L2.op_gt (L2.OpR.or (op_gtT hu) (op_gtL hu))) fun x y H Q => by
  rw [hK]
  rintro ⟨a, b, s, Z, μ, W, σ, S, ra, rb, G⟩
  cases a with
  | int i =>
    cases b with
    | int j =>
      simp only [VR] at ra rb
      replace G : GoodE N W Z μ H σ (.ok (.bl (decide (j < i))) s) Q := G
      exact .inl ⟨_, _, ra, rb, G.here S (by simp [VR])⟩
    | _ => exact False.elim G
  | tup as =>
    cases b with
    | tup bs =>
      replace G : GoodE N W Z μ H σ (kGtL (intsOf as) (intsOf bs) s) Q := G
      cases e1 : intsOf as with
      | none => rw [e1] at G; exact False.elim G
      | some is =>
      cases e2 : intsOf bs with
      | none => rw [e1, e2] at G; exact False.elim G
      | some js =>
      rw [e1, e2] at G
      simp only [VR] at ra rb
      obtain ⟨p, vs, rfl, h1, h2⟩ := ra
      obtain ⟨q, ws, rfl, h3, h4⟩ := rb
      have k1 := ints_vals3 h2 e1
      have k2 := ints_vals3 h4 e2
      subst k1 k2
      replace G : GoodE N W Z μ H σ (.ok (.bl (lexGt is js)) s) Q := G
      exact .inr (.inl ⟨p, q, is, js, rfl, rfl, .inl (.inl h1), .inl (.inl h3), G.here S (by simp [VR])⟩)
    | _ => exact False.elim G
  | lst as =>
    cases b with
    | lst bs =>
      replace G : GoodE N W Z μ H σ (kGtL (intsOf as) (intsOf bs) s) Q := G
      cases e1 : intsOf as with
      | none => rw [e1] at G; exact False.elim G
      | some is =>
      cases e2 : intsOf bs with
      | none => rw [e1, e2] at G; exact False.elim G
      | some js =>
      rw [e1, e2] at G
      simp only [VR] at ra rb
      obtain ⟨p, vs, rfl, h1, h2⟩ := ra
      obtain ⟨q, ws, rfl, h3, h4⟩ := rb
      have k1 := ints_vals3 h2 e1
      have k2 := ints_vals3 h4 e2
      subst k1 k2
      replace G : GoodE N W Z μ H σ (.ok (.bl (lexGt is js)) s) Q := G
      exact .inr (.inr ⟨p, q, is, js, rfl, rfl, h1.ll.sq, h3.ll.sq, G.here S (by simp [VR])⟩)
    | _ => exact False.elim G
  | _ => exact False.elim G
theorem ixr_imp {r r' : R2} (h : IxR X r) (i : ∀ x y H Q, r' x y H Q → r x y H Q) : IxR X r' := fun value slice pins s σ H x y v u Q I rx ry q => h value slice pins s σ H x y v u Q I rx ry (i x y H Q q)
theorem atI_eq {α : Type} (xs : List α) (i : Int) : L2.atI xs i = atI xs i := rfl
theorem ix_dict (hu : X.A.units + 1 < cLine) : IxR X (fun x y H Q => ∃ a v, x = .ref a ∧ DGet H a y (some v) ∧ Q v H) := by
  intro value slice pins s σ H x y v u Q I rx ry h hs
  obtain ⟨a, z, rfl, g, q⟩ := h
  obtain rfl : v = Value.ref a := rx
  exact PyProof.Rows.tail_any (L2.dict_typeIs I g) PySem.F.slot_dict_getitem.lookup (L2.d_getItem hu I g ry fun w' s3 I3 rw' => ⟨z, H, I3, rw', q⟩) hs
theorem x_idx (hK : X.K = N.K) (hu : X.A.units + 1 < cLine) : IxR X (rV2 N idxA) := by
  refine ixr_imp (L2.IxR.or (L2.ix_seq (X := X)) (ix_dict hu)) fun x y H Q => ?_
  rw [hK]
  rintro ⟨a, b, s, Z, μ, W, σ', S, ra, rb, G⟩
  have dct : ∀ t ks, dctOf s a = some (t, ks) → GoodE N W Z μ H σ' (kIxD t ks b s) Q → ∃ p v, x = .ref p ∧ DGet H p y (some v) ∧ Q v H := by
    clear G
    intro t ks e G
    obtain ⟨p, rfl, d⟩ := dct_read S ra e
    obtain ⟨hk, G⟩ := iteR G
    obtain ⟨o, g, ⟨e1, _⟩ | ⟨a', v, e1, rfl, r1⟩⟩ := d.get hk rb
    · rw [e1] at G; exact False.elim G
    · rw [e1] at G
      exact ⟨p, v, rfl, g, Good.here (a := a') G S r1⟩
  have seq : ∀ as : List A, seqOf s a = some as → (∀ j : Int, b = .int j → GoodE N W Z μ H σ' (kOpt (atI as j) s) Q → L2.rIx N.K x y H Q) := by
    clear G
    intro as e j hb G
    subst hb
    obtain ⟨p, vs, rfl, h1, h2⟩ := seq_read S ra e
    simp only [VR] at rb
    subst rb
    cases e2 : atI as j with
    | none => rw [e2] at G; exact False.elim G
    | some z =>
      rw [e2] at G
      replace G : GoodE N W Z μ H σ' (.ok z s) Q := G
      unfold atI at e2
      obtain ⟨k, e3, e4⟩ := Option.bind_eq_some_iff.mp e2
      obtain ⟨w, e5, e6⟩ := h2.get e4
      have e7 : L2.atI vs j = some w := by
        unfold L2.atI
        have : L2.ixN vs.length j = some k := by rw [h2.length]; exact e3
        rw [this]
        exact e5
      rcases h1 with h1 | h1
      · exact .inl ⟨p, vs, j, w, rfl, rfl, h1, e7, G.here S e6⟩
      · exact .inr (.inl ⟨p, vs, j, w, rfl, rfl, h1, e7, G.here S e6⟩)
  cases a with
  | str z =>
    cases b with
    | int j =>
      simp only [VR] at ra rb
      obtain ⟨rfl, hz⟩ := ra
      subst rb
      replace G : GoodE N W Z μ H σ' (kIxS (atI z j) s) Q := G
      cases e2 : atI z j with
      | none => rw [e2] at G; exact False.elim G
      | some c =>
        rw [e2] at G
        replace G : GoodE N W Z μ H σ' (.ok (.str [c]) s) Q := G
        refine .inl (.inr (.inr ⟨toS z, j, c, rfl, rfl, by rw [toS_len, ← big_line]; exact hz.1, e2, G.here S ?_⟩))
        have hc : ∀ d ∈ [c], d < 0x110000 := fun d hd => by
          rw [List.mem_singleton.mp hd]
          unfold atI at e2
          obtain ⟨k, _, e4⟩ := Option.bind_eq_some_iff.mp e2
          exact hz.2 c (List.mem_of_getElem? e4)
        simp only [VR]
        exact ⟨trivial, by simp [big], hc⟩
    | _ => exact False.elim G
  | tup as =>
    cases b with
    | int j => exact .inl (seq as rfl j rfl G)
    | _ => exact False.elim G
  | lst as =>
    cases b with
    | int j => exact .inl (seq as rfl j rfl G)
    | _ => exact False.elim G
  | ref n =>
    replace G : GoodE N W Z μ H σ' (kIxR b s[n]? s) Q := G
    cases e : s[n]? with
    | none => rw [e] at G; cases b <;> exact False.elim G
    | some c =>
      rw [e] at G
      cases c with
      | lst as =>
        cases b with
        | int j => exact .inl (seq as (by show kLst1 s[n]? = _; rw [e]; rfl) j rfl G)
        | _ => exact False.elim G
      | dct t ks => exact .inr (dct t ks (by show kDct1 s[n]? = _; rw [e]; rfl) (by cases b <;> exact G))
      | lck t ks => exact .inr (dct t ks (by show kDct1 s[n]? = _; rw [e]; rfl) (by cases b <;> exact G))
      | ins c fs => cases b <;> exact False.elim G
  | ctp as =>
    cases b with
    | int j => exact .inl (seq as rfl j rfl G)
    | _ => exact False.elim G
  | dct t ks => exact .inr (dct t ks rfl (by cases b <;> exact G))
  | _ => exact False.elim G
theorem s_sub (hK : X.K = N.K) (hu : X.A.units + 1 < cLine) : PSet X (fun o i v H Q => ∃ a b c s Z μ W σ, SR N.K N.fa N.cv Z μ s H ∧ VR N.K N.fa Z μ H a o ∧ VR N.K N.fa Z μ H b i ∧ VR N.K N.fa Z μ H c v ∧
    match subA a b c s with | some s' => Good N (fun (_ : List Addr) (_ : Hp) (_ : Unit) (_ : Unit) => True) W Z μ H σ (.ok () s') (fun _ => Q) | none => False) := by
  intro pins sh σ H o i v ov iv u Q I ro ri rv h
  have set_dict : (∃ a H', o = .ref a ∧ DPut H a i v H' ∧ Q H') → wpAny (model X.prog X.w) X.A (setItem ov iv u) (fun _ s' => ∃ H', Inv X pins σ H' s' ∧ Q H') X.xe sh := by
    rintro ⟨a, H', rfl, g, q⟩
    obtain rfl : ov = Value.ref a := ro
    exact L2.d_setItem hu I g ri rv fun s4 I4 => ⟨H', I4, q⟩
  suffices hh : L2.rSetL o i v H Q ∨ ∃ a H', o = .ref a ∧ DPut H a i v H' ∧ Q H' by
    rcases hh with h | h
    · exact L2.set_list pins sh σ H o i v ov iv u Q I ro ri rv h
    · exact set_dict h
  obtain ⟨a, b, c, s, Z, μ, W, σ', S, ra, rb, rc, G⟩ := h
  cases a with
  | ref n =>
    simp only [VR] at ra
    obtain ⟨p, rfl, hp⟩ := ra
    replace G : match kSbA s n c b s[n]? with | some s' => Good N (fun (_ : List Addr) (_ : Hp) (_ : Unit) (_ : Unit) => True) W Z μ H σ' (.ok () s') (fun _ => Q) | none => False := G
    cases e : s[n]? with
    | none => rw [e] at G; cases b <;> exact False.elim G
    | some cc =>
      obtain ⟨q, h2, hc⟩ := S.cell n cc e
      obtain rfl : p = q := Option.some.inj (hp.symm.trans h2)
      rw [e] at G
      cases cc with
      | lst as =>
        obtain ⟨vs, h3, h4⟩ := hc
        cases b with
        | int j =>
          simp only [VR] at rb
          subst rb
          cases e2 : ixN as.length j with
          | none => simp [kSbA, e2] at G
          | some k =>
            simp only [kSbA, e2, Option.map_some] at G
            refine .inl ⟨p, vs, j, k, rfl, rfl, h3, by rw [h4.length]; exact e2, ?_⟩
            have ex : Ext μ H μ (upd H p (.lst (vs.set k v))) := Ext.mut (List.mem_of_getElem? hp) h3 rfl (by simp)
            exact G μ _ () ex (S.mut hp h3 rfl (by simp) ⟨_, upd_same, VRs.stay (ex.stay S.noTup) _ _ (h4.set k rc)⟩) trivial
        | _ => exact False.elim G
      | lck t ks => cases b <;> exact False.elim G
      | dct t ks =>
        refine .inr ?_
        have eq : kSbA s n c b (some (.dct t ks)) = if isKey t b = true ∧ ks.length < big then some (s.set n (.dct t (dput ks b c))) else none := by cases b <;> rfl
        rw [eq] at G
        by_cases hc2 : isKey t b = true ∧ ks.length < big
        · rw [if_pos hc2] at G
          cases t with
          | false =>
            obtain ⟨kvs, h3, h4⟩ := hc
            obtain ⟨q, e1, rfl⟩ := key_val hc2.1 rb
            have ex : Ext μ H μ (upd H p (.dK (putK kvs q v))) := Ext.mut (List.mem_of_getElem? hp) h3 rfl (by simp)
            refine ⟨p, _, rfl, .inl ⟨kvs, q, h3, rfl, by rw [h4.len, ← big_line]; exact hc2.2, rfl⟩, ?_⟩
            exact G μ _ () ex (S.mut hp h3 rfl (by simp) ⟨_, upd_same, VRk.stay (ex.stay S.noTup) _ _ (h4.put e1 rc)⟩) trivial
          | true =>
            obtain ⟨kvs, h3, h4⟩ := hc
            obtain ⟨q, b', e1, rfl, hb⟩ := key_tup hc2.1 rb
            have ex : Ext μ H μ (upd H p (.dT (putK kvs q v))) := Ext.mut (List.mem_of_getElem? hp) h3 rfl (by simp)
            refine ⟨p, _, rfl, .inr ⟨kvs, q, b', h3, rfl, hb, by rw [h4.len, ← big_line]; exact hc2.2, rfl⟩, ?_⟩
            exact G μ _ () ex (S.mut hp h3 rfl (by simp) ⟨_, upd_same, VRt.stay (ex.stay S.noTup) _ _ (h4.put e1 rc)⟩) trivial
        · rw [if_neg hc2] at G; exact False.elim G
      | ins c fs => cases b <;> exact False.elim G
  | _ => exact False.elim G

/-! ### built-ins -/
theorem call_lenD2 : CallR X (.builtin "len") (fun xs H Q => ∃ p n, xs = [.ref p] ∧ ((∃ kvs, Rd H p (.dK kvs) ∧ kvs.length = n) ∨ ∃ kvs, Rd H p (.dT kvs) ∧ kvs.length = n) ∧ Q (.int n) H) := by
  intro pins s σ H xs us Q I r h
  obtain ⟨p, n, rfl, h, q⟩ := h
  cases r with
  | cons r1 r2 =>
    cases r2
    cases r1
    rcases h with ⟨kvs, h, rfl⟩ | ⟨kvs, h, rfl⟩
    · exact L2.d_len I h fun t s' I' => ⟨.int ((kvs.length : Nat) : Int), H, I', ⟨_, rfl⟩, q⟩
    · obtain ⟨z, hd, xs', rel, dd⟩ := L2.dt_rd I.hok h
      have hl : kvs.length = xs'.length := Paired.length rel
      refine PySem.call_len_dictH hd dd (by rw [← hl]; rw [sizeLine_eq] at z; omega) ?_
      rw [← hl]
      exact ⟨.int ((kvs.length : Nat) : Int), H, I.tok _, ⟨_, rfl⟩, q⟩
theorem c_len (hK : X.K = N.K) : CallR X (.builtin "len") (rVs N (bcA .len fz)) := by
  refine clr_imp (clr_or L2.call_len call_lenD2) fun xs H Q => ?_
  rw [hK]
  rintro ⟨as, s, Z, μ, W, σ, S, ra, G⟩
  match as, ra, G with
  | [], _, G => exact False.elim G
  | a :: b :: c :: r, _, G => exact False.elim G
  | [a, b], _, G => cases a <;> cases b <;> exact False.elim G
  | [a], ra, G =>
    simp only [VRs] at ra
    obtain ⟨v, r, rfl, rv, rfl⟩ := ra
    replace G : GoodE N W Z μ H σ (lenA a s) Q := G
    have seq : ∀ xs, seqOf s a = some xs → GoodE N W Z μ H σ (.ok (.int xs.length) s) Q → ∃ x n, [v] = [x] ∧ L2.LenV N.K x H n ∧ Q (.int n) H := by
      intro xs e G
      obtain ⟨p, vs, rfl, h1, h2⟩ := seq_read S rv e
      refine ⟨_, vs.length, rfl, ?_, G.here S (by simp [VR, h2.length])⟩
      rcases h1 with h1 | h1
      · exact .inl ⟨vs, h1, rfl⟩
      · exact .inr ⟨vs, h1, rfl⟩
    have dct : ∀ t ks, dctOf s a = some (t, ks) → GoodE N W Z μ H σ (.ok (.int ks.length) s) Q → ∃ p n, [v] = [V.ref p] ∧ ((∃ kvs, Rd H p (.dK kvs) ∧ kvs.length = n) ∨ ∃ kvs, Rd H p (.dT kvs) ∧ kvs.length = n) ∧ Q (.int n) H := by
      intro t ks e G
      obtain ⟨p, rfl, d⟩ := dct_read S rv e
      refine ⟨p, ks.length, rfl, ?_, G.here S (by simp [VR])⟩
      cases d with
      | k h r => exact .inl ⟨_, h, r.len⟩
      | t h r => exact .inr ⟨_, h, r.len⟩
    cases a with
    | str x =>
      simp only [VR] at rv
      obtain ⟨rfl, hx⟩ := rv
      exact .inl ⟨_, x.length, rfl, ⟨by rw [toS_len, ← big_line]; exact hx.1, (toS_len x).symm⟩, Good.here (a := A.int x.length) G S (by simp [VR])⟩
    | tup xs => exact .inl (seq xs rfl G)
    | ctp xs => exact .inl (seq xs rfl G)
    | lst xs => exact .inl (seq xs rfl G)
    | dct t ks => exact .inr (dct t ks rfl G)
    | ref n =>
      replace G : GoodE N W Z μ H σ (kLen s[n]? s) Q := G
      cases e : s[n]? with
      | none => rw [e] at G; exact False.elim G
      | some c =>
        rw [e] at G
        cases c with
        | lst xs => exact .inl (seq xs (by show kLst1 s[n]? = _; rw [e]; rfl) G)
        | dct t ks => exact .inr (dct t ks (by show kDct1 s[n]? = _; rw [e]; rfl) G)
        | lck t ks => exact .inr (dct t ks (by show kDct1 s[n]? = _; rw [e]; rfl) G)
        | ins c fs => exact False.elim G
    | _ => exact False.elim G
theorem one_arg {f : BF} {as : List A} {xs : List V} {s : Sto} {Z μ : List Addr} {H : Hp} {W : WX} {σ : St} {Q : VK} (h2 : ∀ a b s, bcA2 f a b s = .bad) (ra : VRs N.K N.fa Z μ H as xs) (G : GoodE N W Z μ H σ (bcA f fz as s) Q) :
    ∃ a v, as = [a] ∧ xs = [v] ∧ VR N.K N.fa Z μ H a v ∧ GoodE N W Z μ H σ (bcA1 f fz a s) Q := by
  match as, ra, G with
  | [], _, G => exact False.elim G
  | a :: b :: c :: r, _, G => exact False.elim G
  | [a, b], _, G =>
    replace G : GoodE N W Z μ H σ (bcA2 f a b s) Q := G
    rw [h2] at G
    exact False.elim G
  | [a], ra, G =>
    simp only [VRs] at ra
    obtain ⟨v, r, rfl, rv, rfl⟩ := ra
    exact ⟨a, v, rfl, rfl, rv, G⟩
theorem c_abs : CallR X (.builtin "abs") (rVs N (bcA .abs fz)) := by
  refine clr_imp L2.call_abs fun xs H Q => ?_
  rintro ⟨as, s, Z, μ, W, σ, S, ra, G⟩
  obtain ⟨a, v, rfl, rfl, rv, G⟩ := one_arg (by intro a b s; cases a <;> cases b <;> rfl) ra G
  cases a with
  | int i =>
    simp only [VR] at rv
    subst rv
    replace G : GoodE N W Z μ H σ (.ok (.int i.natAbs) s) Q := G
    refine ⟨i, rfl, ?_⟩
    have e : (if i < 0 then -i else i) = (i.natAbs : Int) := by split <;> omega
    rw [e]
    exact G.here S (by simp [VR])
  | _ => exact False.elim G
theorem c_int : CallR X (.type "int") (rVs N (bcA .int fz)) := by
  refine clr_imp L2.call_int1 fun xs H Q => ?_
  rintro ⟨as, s, Z, μ, W, σ, S, ra, G⟩
  obtain ⟨a, v, rfl, rfl, rv, G⟩ := one_arg (by intro a b s; cases a <;> cases b <;> rfl) ra G
  cases a with
  | int i =>
    simp only [VR] at rv
    subst rv
    replace G : GoodE N W Z μ H σ (.ok (.int i) s) Q := G
    exact .inl ⟨i, rfl, G.here S (by simp [VR])⟩
  | _ => exact False.elim G
theorem c_list (hK : X.K = N.K) : CallR X (.type "list") (rVs N (bcA .list fz)) := by
  refine clr_imp L2.call_list_of fun xs H Q => ?_
  rw [hK]
  rintro ⟨as, s, Z, μ, W, σ, S, ra, G⟩
  obtain ⟨a, v, rfl, rfl, rv, G⟩ := one_arg (by intro a b s; cases a <;> cases b <;> rfl) ra G
  replace G : GoodE N W Z μ H σ (listA fz a s) Q := G
  have seq : ∀ xs, seqOf s a = some xs → GoodE N W Z μ H σ (mkL fz xs s) Q → ∃ p ys, [v] = [V.ref p] ∧ (SqL N.K H p ys ∨ SqT N.K H p ys) ∧ ∀ l, H l = none → Q (.ref l) (upd H l (.lst ys)) := by
    intro xs e G
    obtain ⟨p, vs, rfl, h1, h2⟩ := seq_read S rv e
    exact ⟨p, vs, rfl, h1, Good.mkL S h2 G⟩
  cases a with
  | lst xs => exact seq xs rfl G
  | tup xs => exact seq xs rfl G
  | ctp xs => exact seq xs rfl G
  | str x => exact False.elim G
  | dct t ks => exact False.elim G
  | ref n =>
    replace G : GoodE N W Z μ H σ (kList fz s[n]? s) Q := G
    cases e : s[n]? with
    | none => rw [e] at G; exact False.elim G
    | some c =>
      rw [e] at G
      cases c with
      | lst xs => exact seq xs (by show kLst1 s[n]? = _; rw [e]; rfl) G
      | dct t ks => exact False.elim G
      | lck t ks => exact False.elim G
      | ins c fs => exact False.elim G
  | _ => exact False.elim G

/-! ### methods of built-in types -/
def rMt (N : Nm) (m : BM) (fz : Bool) : V → List V → Hp → VK → Prop := fun x xs H Q => ∃ a as s Z μ W σ, SR N.K N.fa N.cv Z μ s H ∧ VR N.K N.fa Z μ H a x ∧ VRs N.K N.fa Z μ H as xs ∧ GoodE N W Z μ H σ (bmA m fz a as s) Q
theorem m_append : MtR X "list.append" (fun x xs H Q => ∃ n as s Z μ W σ, SR N.K N.fa N.cv Z μ s H ∧ VR N.K N.fa Z μ H (.ref n) x ∧ VRs N.K N.fa Z μ H as xs ∧ GoodE N W Z μ H σ (bmR .append n as s) Q) := by
  intro pins sh σ' H x xs v us Q I rx rxs h
  refine L2.mt_append pins sh σ' H x xs v us Q I rx rxs ?_
  obtain ⟨n, as, s, Z, μ, W, σ, S, ra, rs, G⟩ := h
  match as, rs, G with
  | [a], rs, G =>
    simp only [VRs] at rs
    obtain ⟨y, r, rfl, ry, rfl⟩ := rs
    simp only [VR] at ra
    obtain ⟨p, rfl, hp⟩ := ra
    replace G : GoodE N W Z μ H σ (kApp n a s[n]? s) Q := G
    cases e : s[n]? with
    | none => rw [e] at G; exact False.elim G
    | some c =>
      obtain ⟨q, h2, hc⟩ := S.cell n c e
      obtain rfl : p = q := Option.some.inj (hp.symm.trans h2)
      rw [e] at G
      cases c with
      | lst bs =>
        obtain ⟨vs, h3, h4⟩ := hc
        obtain ⟨hz, G⟩ := iteR G
        exact ⟨p, vs, y, rfl, rfl, h3, by rw [h4.length, ← big_line]; exact hz, Good.setL (α := A) S hp h3 (h4.append (VRs.one ry)) (fun _ _ => by simp [VR]) G⟩
      | dct t ks => exact False.elim G
      | lck t ks => exact False.elim G
      | ins c fs => exact False.elim G
  | [], _, G => exact False.elim G
  | a :: b :: r, _, G => exact False.elim G
theorem m_pop1 : MtR X "list.pop" (fun x xs H Q => ∃ n as s Z μ W σ, SR N.K N.fa N.cv Z μ s H ∧ VR N.K N.fa Z μ H (.ref n) x ∧ VRs N.K N.fa Z μ H as xs ∧ GoodE N W Z μ H σ (bmR .pop1 n as s) Q) := by
  intro pins sh σ' H x xs v us Q I rx rxs h
  refine L2.mt_popAt pins sh σ' H x xs v us Q I rx rxs ?_
  obtain ⟨n, as, s, Z, μ, W, σ, S, ra, rs, G⟩ := h
  match as, rs, G with
  | [.int i], rs, G =>
    simp only [VRs, VR] at rs
    obtain ⟨y, r, rfl, rfl, rfl⟩ := rs
    simp only [VR] at ra
    obtain ⟨p, rfl, hp⟩ := ra
    replace G : GoodE N W Z μ H σ (kPop1 n i s[n]? s) Q := G
    cases e : s[n]? with
    | none => rw [e] at G; exact False.elim G
    | some c =>
      obtain ⟨q, h2, hc⟩ := S.cell n c e
      obtain rfl : p = q := Option.some.inj (hp.symm.trans h2)
      rw [e] at G
      cases c with
      | lst bs =>
        obtain ⟨vs, h3, h4⟩ := hc
        replace G : GoodE N W Z μ H σ (kPop2 n bs (ixN bs.length i) s) Q := G
        cases e2 : ixN bs.length i with
        | none => rw [e2] at G; exact False.elim G
        | some j =>
          rw [e2] at G
          replace G : GoodE N W Z μ H σ (kPopd n bs[j]? (.lst (bs.eraseIdx j)) s) Q := G
          cases e3 : bs[j]? with
          | none => rw [e3] at G; exact False.elim G
          | some a =>
            rw [e3] at G
            replace G : GoodE N W Z μ H σ (.ok a (s.set n (.lst (bs.eraseIdx j)))) Q := G
            obtain ⟨w, h5, h6⟩ := h4.get e3
            have e4 : L2.ixN vs.length i = some j := by rw [h4.length]; exact e2
            obtain ⟨q1, q2, q3, q4⟩ := L2.ixN_seq e4
            have hzz : vs.length ≤ sizeLine := (I.lst h3).choose_spec.choose_spec.2.2
            have := L2.line63
            exact ⟨p, vs, i, j, w, rfl, rfl, h3, by omega, by omega, by first | exact q1 | exact q2 | exact q3, h5, Good.setL (α := A) S hp h3 (h4.erase j) (fun H' st => VR.stay st a w h6) G⟩
      | dct t ks => exact False.elim G
      | lck t ks => exact False.elim G
      | ins c fs => exact False.elim G
  | [], _, G => exact False.elim G
  | [.non], _, G => exact False.elim G
  | [.bl _], _, G => exact False.elim G
  | [.str _], _, G => exact False.elim G
  | [.tup _], _, G => exact False.elim G
  | [.lst _], _, G => exact False.elim G
  | [.dct _ _], _, G => exact False.elim G
  | [.ref _], _, G => exact False.elim G
  | [.fn _], _, G => exact False.elim G
  | [.ctp _], _, G => exact False.elim G
  | a :: b :: r, _, G => cases a <;> exact False.elim G
end
end Py

set_option autoImplicit false
set_option linter.all false
set_option Elab.async false
set_option maxRecDepth 100000
set_option maxHeartbeats 4000000
/-! PyV: more operators, built-ins and methods on values. -/
namespace Py
open PySem
open L2 (V Hp HO Rd SqL SqT Cx Inv PE PT PA PS PSs PG PI TE TT TA TS Ends VK XK WX St Room upd upd_same upd_ne ne_of_none Key kV RelV Vals R2 OpR UnR CallR tOp Dp DpAll rI rI0 EP MtR IxR PSet DGet DPut valV putK dropK IsD)
section
variable {N : Nm} {X : Cx} {fz : Bool}
theorem o_shl : OpR X (binaryOp .LShift) (rV2 N (binA .shl fz)) := opr_imp L2.op_shlW fun x y H Q => by
  rintro ⟨a, b, s, Z, μ, W, σ, S, ra, rb, G⟩
  cases a with
  | int i =>
    cases b with
    | int j =>
      obtain ⟨hz, G⟩ := iteR G
      simp only [VR] at ra rb
      obtain ⟨n, rfl⟩ := Int.eq_ofNat_of_zero_le hz.1
      refine ⟨_, _, ra, rb, L2.shl_ok (n := 1000) hz.2.2 (by have := hz.2.1; omega), G.here S (by simp [VR])⟩
    | _ => exact False.elim G
  | _ => exact False.elim G
/-! ### in -/
def rInDc : R2 := fun x y H Q => ∃ a o, y = .ref a ∧ DGet H a x o ∧ Q (.bl o.isSome) H
def rNinDc : R2 := fun x y H Q => ∃ a o, y = .ref a ∧ DGet H a x o ∧ Q (.bl (!o.isSome)) H
theorem op_inDc (hu : X.A.units + 1 < cLine) : OpR X (compareOp .In) rInDc := by
  intro pins s σ H x y v u Q I rx ry h
  obtain ⟨a, o, rfl, g, q⟩ := h
  obtain rfl : u = Value.ref a := ry
  exact L2.d_in hu I g rx fun s' I' => ⟨.bl o.isSome, H, I', rfl, q⟩
theorem op_ninDc (hu : X.A.units + 1 < cLine) : OpR X (compareOp .NotIn) rNinDc := by
  intro pins s σ H x y v u Q I rx ry h
  obtain ⟨a, o, rfl, g, q⟩ := h
  obtain rfl : u = Value.ref a := ry
  exact L2.d_notIn hu I g rx fun s' I' => ⟨.bl (!o.isSome), H, I', rfl, q⟩
def rInTd (K : PySem.W.Frag) : R2 := fun x y H Q => ∃ d ds, Dp K H x d ∧ Dp K H y (.tuple ds) ∧ SeqAt.shaped d = true ∧ SeqAt.shaped (.tuple ds) = true ∧ Q (.bl (ds.any fun z => PyData.eqv z d)) H
def rNinTd (K : PySem.W.Frag) : R2 := fun x y H Q => ∃ d ds, Dp K H x d ∧ Dp K H y (.tuple ds) ∧ SeqAt.shaped d = true ∧ SeqAt.shaped (.tuple ds) = true ∧ Q (.bl (!ds.any fun z => PyData.eqv z d)) H
theorem op_inTd (hu : X.A.units + 65 < cLine) : OpR X (compareOp .In) (rInTd X.K) := by
  intro pins s σ H x y v u Q I rx ry h
  obtain ⟨d, ds, hd, he, sd, se, q⟩ := h
  obtain ⟨as, r1⟩ := Dp.reads I d x v hd rx
  obtain ⟨bs, r2⟩ := Dp.reads I (.tuple ds) y u he ry
  exact SeqAt.in_tuple_reads r2 r1 (SeqAt.canLay_of_shaped se) (SeqAt.canLay_of_shaped sd) (PyProof.Rows.room_in_shaped sd hu) ⟨.bl _, H, I, rfl, q⟩
theorem op_ninTd (hu : X.A.units + 65 < cLine) : OpR X (compareOp .NotIn) (rNinTd X.K) := by
  intro pins s σ H x y v u Q I rx ry h
  obtain ⟨d, ds, hd, he, sd, se, q⟩ := h
  obtain ⟨as, r1⟩ := Dp.reads I d x v hd rx
  obtain ⟨bs, r2⟩ := Dp.reads I (.tuple ds) y u he ry
  exact SeqAt.notIn_tuple_reads r2 r1 (SeqAt.canLay_of_shaped se) (SeqAt.canLay_of_shaped sd) (PyProof.Rows.room_in_shaped sd hu) ⟨.bl _, H, I, rfl, q⟩
theorem any_eqv : ∀ (ds : List A) (d : A), purs ds = true → pur d = true → (ds.any fun z => eqA z d) = ((toDs ds).any fun z => PyData.eqv z (toD d))
  | [], d, _, _ => rfl
  | a :: ds, d, h, k => by
    have h' : pur a = true ∧ purs ds = true := Bool.and_eq_true_iff.mp h
    rw [toDs, List.any_cons, List.any_cons, eqA_eqv a d h'.1 k, any_eqv ds d h'.2 k]
/-- what x in y asks -/
theorem in_read {N : Nm} {s : Sto} {Z μ : List Addr} {H : Hp} {a b : A} {x y : V} {r : Bool} (S : SR N.K N.fa N.cv Z μ s H) (ra : VR N.K N.fa Z μ H a x) (rb : VR N.K N.fa Z μ H b y) (h : inA a b s = some r) :
    (∃ p o, y = .ref p ∧ DGet H p x o ∧ o.isSome = r) ∨ (∃ d ds, Dp N.K H x d ∧ Dp N.K H y (.list ds) ∧ SeqAt.shaped d = true ∧ SeqAt.shaped (.list ds) = true ∧ (ds.any fun z => PyData.eqv z d) = r) ∨
    (∃ d ds, Dp N.K H x d ∧ Dp N.K H y (.tuple ds) ∧ SeqAt.shaped d = true ∧ SeqAt.shaped (.tuple ds) = true ∧ (ds.any fun z => PyData.eqv z d) = r) ∨ ∃ (c : Nat) (z : Str), x = .str ⟨#[c]⟩ ∧ y = .str z ∧ decide (c ∈ z.cps.toList) = r := by
  have dct : ∀ t ks, dctOf s b = some (t, ks) → kInD a t ks = some r → ∃ p o, y = .ref p ∧ DGet H p x o ∧ o.isSome = r := by
    intro t ks e k
    obtain ⟨p, rfl, d⟩ := dct_read S rb e
    unfold kInD at k
    by_cases hk : isKey t a = true
    · rw [if_pos hk] at k
      obtain ⟨o, g, ⟨e1, rfl⟩ | ⟨a', v, e1, rfl, r1⟩⟩ := d.get hk ra
      · rw [e1] at k; cases k; exact ⟨p, _, rfl, g, rfl⟩
      · rw [e1] at k; cases k; exact ⟨p, _, rfl, g, rfl⟩
    · rw [if_neg hk] at k; cases k
  have lst : ∀ as, lstOf s b = some as → kInL (deep s 60 a) (mapO (deep s 60) as) = some r → ∃ d ds, Dp N.K H x d ∧ Dp N.K H y (.list ds) ∧ SeqAt.shaped d = true ∧ SeqAt.shaped (.list ds) = true ∧ (ds.any fun z => PyData.eqv z d) = r := by
    intro as e k
    obtain ⟨p, vs, rfl, h1, h2⟩ := lst_read S rb e
    cases e1 : deep s 60 a with
    | none => rw [e1] at k; cases k
    | some d =>
      cases e2 : mapO (deep s 60) as with
      | none => rw [e1, e2] at k; cases k
      | some ds =>
        rw [e1, e2] at k
        cases k
        have k1 := deep_ok S 60 a x d ra e1
        obtain ⟨q1, q2, q3, q4⟩ := mapO_dp (deep_ok S 60) as vs ds h2 e2
        refine ⟨toD d, toDs ds, k1.dp, .lst h1.sq q1, k1.shaped, Bool.and_eq_true_iff.mpr ⟨q2, decide_eq_true ?_⟩, (any_eqv ds d q4 k1.pu).symm⟩
        show PyData.depthAll (toDs ds) + 1 ≤ 64
        omega
  have tup : ∀ as, (∃ p vs, y = .ref p ∧ SqT N.K H p vs ∧ VRs N.K N.fa Z μ H as vs) → kInL (deep s 60 a) (mapO (deep s 60) as) = some r → ∃ d ds, Dp N.K H x d ∧ Dp N.K H y (.tuple ds) ∧ SeqAt.shaped d = true ∧ SeqAt.shaped (.tuple ds) = true ∧ (ds.any fun z => PyData.eqv z d) = r := by
    rintro as ⟨p, vs, rfl, h1, h2⟩ k
    cases e1 : deep s 60 a with
    | none => rw [e1] at k; cases k
    | some d =>
      cases e2 : mapO (deep s 60) as with
      | none => rw [e1, e2] at k; cases k
      | some ds =>
        rw [e1, e2] at k
        cases k
        have k1 := deep_ok S 60 a x d ra e1
        obtain ⟨q1, q2, q3, q4⟩ := mapO_dp (deep_ok S 60) as vs ds h2 e2
        refine ⟨toD d, toDs ds, k1.dp, .tup h1 q1, k1.shaped, Bool.and_eq_true_iff.mpr ⟨q2, decide_eq_true ?_⟩, (any_eqv ds d q4 k1.pu).symm⟩
        show PyData.depthAll (toDs ds) + 1 ≤ 64
        omega
  cases b with
  | dct t ks => exact .inl (dct t ks rfl (by cases a <;> exact h))
  | lst as => exact .inr (.inl (lst as rfl (by cases a <;> exact h)))
  | tup as =>
    simp only [VR] at rb
    obtain ⟨p, vs, e, h1, h2⟩ := rb
    exact .inr (.inr (.inl (tup as ⟨p, vs, e, .inl (.inl h1), h2⟩ (by cases a <;> exact h))))
  | ctp as =>
    simp only [VR] at rb
    obtain ⟨p, vs, e, h1, h2⟩ := rb
    exact .inr (.inr (.inl (tup as ⟨p, vs, e, .inr h1, CVs.vrs h2⟩ (by cases a <;> exact h))))
  | ref n =>
    have h' : kInR s a s[n]? = some r := by cases a <;> exact h
    cases e : s[n]? with
    | none => rw [e] at h'; cases h'
    | some c =>
      rw [e] at h'
      cases c with
      | lst as => exact .inr (.inl (lst as (by show kLst1 s[n]? = _; rw [e]; rfl) h'))
      | dct t ks => exact .inl (dct t ks (by show kDct1 s[n]? = _; rw [e]; rfl) h')
      | lck t ks => exact .inl (dct t ks (by show kDct1 s[n]? = _; rw [e]; rfl) h')
      | ins c fs => cases h'
  | str z =>
    cases a with
    | str w =>
      cases w with
      | nil => cases h
      | cons c w =>
        cases w with
        | nil =>
          have h' : some (decide (c ∈ z)) = some r := h
          cases h'
          simp only [VR] at ra rb
          exact .inr (.inr (.inr ⟨c, toS z, ra.1, rb.1, by simp [toS]⟩))
        | cons d w => cases h
    | _ => cases h
  | non => cases a <;> cases h
  | bl _ => cases a <;> cases h
  | int _ => cases a <;> cases h
  | fn _ => cases a <;> cases h
theorem o_in (hK : X.K = N.K) (hu : X.A.units + 65 < cLine) : OpR X (compareOp .In) (rV2 N (cmpA .inn)) := by
  refine opr_imp (L2.OpR.or (op_inDc (by omega)) (L2.OpR.or (L2.op_inD hu) (L2.OpR.or (op_inTd hu) L2.op_in_sign))) fun x y H Q => ?_
  rintro ⟨a, b, s, Z, μ, W, σ, S, ra, rb, G⟩
  replace G : GoodE N W Z μ H σ (kBl (inA a b s) s) Q := G
  rw [hK]
  cases e : inA a b s with
  | none => rw [e] at G; exact False.elim G
  | some r =>
    rw [e] at G
    have q : Q (.bl r) H := Good.here (a := A.bl r) G S (by simp [VR])
    rcases in_read S ra rb e with ⟨p, o, e1, g, rfl⟩ | ⟨d, ds, h1, h2, h3, h4, rfl⟩ | ⟨d, ds, h1, h2, h3, h4, rfl⟩ | ⟨c, z, e1, e2, rfl⟩
    · exact .inl ⟨p, o, e1, g, q⟩
    · exact .inr (.inl ⟨d, ds, h1, h2, h3, h4, q⟩)
    · exact .inr (.inr (.inl ⟨d, ds, h1, h2, h3, h4, q⟩))
    · exact .inr (.inr (.inr ⟨c, z, e1, e2, q⟩))
theorem o_nin (hK : X.K = N.K) (hu : X.A.units + 65 < cLine) : OpR X (compareOp .NotIn) (rV2 N (cmpA .nin)) := by
  refine opr_imp (L2.OpR.or (op_ninDc (by omega)) (L2.OpR.or (L2.op_notInD hu) (L2.OpR.or (op_ninTd hu) L2.op_notIn_sign))) fun x y H Q => ?_
  rintro ⟨a, b, s, Z, μ, W, σ, S, ra, rb, G⟩
  replace G : GoodE N W Z μ H σ (kBl ((inA a b s).map not) s) Q := G
  rw [hK]
  cases e : inA a b s with
  | none => rw [e] at G; exact False.elim G
  | some r =>
    rw [e] at G
    have q : Q (.bl (!r)) H := Good.here (a := A.bl !r) G S (by simp [VR])
    rcases in_read S ra rb e with ⟨p, o, e1, g, rfl⟩ | ⟨d, ds, h1, h2, h3, h4, rfl⟩ | ⟨d, ds, h1, h2, h3, h4, rfl⟩ | ⟨c, z, e1, e2, rfl⟩
    · exact .inl ⟨p, o, e1, g, q⟩
    · exact .inr (.inl ⟨d, ds, h1, h2, h3, h4, q⟩)
    · exact .inr (.inr (.inl ⟨d, ds, h1, h2, h3, h4, q⟩))
    · exact .inr (.inr (.inr ⟨c, z, e1, e2, q⟩))
end
end Py

set_option autoImplicit false
set_option linter.all false
set_option Elab.async false
set_option maxRecDepth 100000
set_option maxHeartbeats 4000000
/-! PyW: more built-ins, methods of lists and texts. -/
namespace Py
open PySem
open L2 (V Hp HO Rd SqL SqT Cx Inv PE PT PA PS PSs PG PI TE TT TA TS Ends VK XK WX St Room upd upd_same upd_ne ne_of_none Key kV RelV Vals R2 OpR UnR CallR tOp Dp DpAll rI rI0 EP MtR IxR PSet DGet DPut valV putK dropK IsD)
theorem ofString_toS (x : String) : Str.ofString x = toS (x.toList.map Char.toNat) := by
  unfold Str.ofString
  rw [cpsOfBytes_string]
theorem char_ok (c : Char) : c.toNat < 0x110000 := by
  have := c.valid
  simp only [Char.toNat]
  rcases this with h | h
  · have h' : c.val.toNat < 0xd800 := h
    omega
  · exact h.2
theorem numT_ok {i : Int} (h : i.natAbs < huge) : strOk (numT i) := by
  refine ⟨?_, fun c hc => ?_⟩
  · have e : ∀ n : Nat, n < huge → (TL.numL n).length ≤ 1000 := fun n hn => TL.numL_len (by decide) (Nat.lt_trans hn (by unfold huge; exact Nat.pow_lt_pow_left (by decide) (by decide)))
    have e2 : ∀ n : Nat, (toString (n : Int)).toList.map Char.toNat = TL.numL n := fun n => by
      show (Nat.repr n).toList.map Char.toNat = _
      simp [TL.numL, Nat.repr]
    unfold numT
    cases i with
    | ofNat n =>
      have := e n (by simpa using h)
      rw [← e2] at this
      exact Nat.le_trans this (by decide)
    | negSucc n =>
      have := e (n + 1) (by simpa using h)
      rw [← e2] at this
      have q : (toString (Int.negSucc n)).toList = '-' :: (toString ((n + 1 : Nat) : Int)).toList := by
        show ("-" ++ Nat.repr (n + 1)).toList = _
        rw [String.toList_append]
        rfl
      rw [q]
      simp only [List.map_cons, List.length_cons]
      simp only [big]
      omega
  · unfold numT at hc
    obtain ⟨d, _, rfl⟩ := List.mem_map.mp hc
    exact char_ok d
theorem log_lt {i : Int} (h : i.natAbs < huge) : i.natAbs.log2 < 1920 := by
  by_cases z : i.natAbs = 0
  · rw [z]; decide
  · exact Nat.lt_of_lt_of_le ((Nat.log2_lt z).mpr (show i.natAbs < 2 ^ 1000 from h)) (by decide)
section
variable {N : Nm} {X : Cx} {fz : Bool}
theorem c_str : CallR X (.type "str") (rVs N (bcA .str fz)) := by
  refine clr_imp (clr_or L2.call_str_int SkE.call_str_str) fun xs H Q => ?_
  rintro ⟨as, s, Z, μ, W, σ, S, ra, G⟩
  obtain ⟨a, v, rfl, rfl, rv, G⟩ := one_arg (by intro a b s; cases a <;> cases b <;> rfl) ra G
  cases a with
  | int i =>
    simp only [VR] at rv
    subst rv
    obtain ⟨hz, G⟩ := iteR (show GoodE N W Z μ H σ (if i.natAbs < huge then .ok (.str (numT i)) s else .bad) Q from G)
    refine .inl ⟨i, rfl, log_lt hz, ?_⟩
    refine G.here S ?_
    simp only [VR]
    exact ⟨congrArg V.str (ofString_toS _), numT_ok hz⟩
  | str x =>
    have rv' := rv
    simp only [VR] at rv
    obtain ⟨rfl, _⟩ := rv
    exact .inr ⟨_, rfl, Good.here (a := A.str x) G S rv'⟩
  | _ => exact False.elim G
theorem c_ord : CallR X (.builtin "ord") (rVs N (bcA .ord fz)) := by
  refine clr_imp L2.call_ord fun xs H Q => ?_
  rintro ⟨as, s, Z, μ, W, σ, S, ra, G⟩
  obtain ⟨a, v, rfl, rfl, rv, G⟩ := one_arg (by intro a b s; cases a <;> cases b <;> rfl) ra G
  replace G : GoodE N W Z μ H σ (ordA a s) Q := G
  cases a with
  | str x =>
    simp only [VR] at rv
    obtain ⟨rfl, _⟩ := rv
    cases x with
    | nil => exact False.elim G
    | cons c x =>
      cases x with
      | nil => exact ⟨_, rfl, by simp [toS_len], by have := Good.here (a := A.int c) (b := V.int c) G S (by simp [VR]); simpa [toS] using this⟩
      | cons d x => exact False.elim G
  | _ => exact False.elim G
theorem two_arg {f : BF} {as : List A} {xs : List V} {s : Sto} {Z μ : List Addr} {H : Hp} {W : WX} {σ : St} {Q : VK} (h1 : ∀ a s, bcA1 f fz a s = .bad) (ra : VRs N.K N.fa Z μ H as xs) (G : GoodE N W Z μ H σ (bcA f fz as s) Q) :
    ∃ a b v w, as = [a, b] ∧ xs = [v, w] ∧ VR N.K N.fa Z μ H a v ∧ VR N.K N.fa Z μ H b w ∧ GoodE N W Z μ H σ (bcA2 f a b s) Q := by
  match as, ra, G with
  | [], _, G => exact False.elim G
  | a :: b :: c :: r, _, G => exact False.elim G
  | [a], _, G =>
    replace G : GoodE N W Z μ H σ (bcA1 f fz a s) Q := G
    rw [h1] at G
    exact False.elim G
  | [a, b], ra, G =>
    simp only [VRs] at ra
    obtain ⟨v, r, rfl, rv, w, r', rfl, rw', rfl⟩ := ra
    exact ⟨a, b, v, w, rfl, rfl, rv, rw', G⟩
theorem c_max2 (hc : X.calm = true) : CallR X (.builtin "max") (rVs N (bcA .max2 fz)) := by
  refine clr_imp (L2.call_max2 hc) fun xs H Q => ?_
  rintro ⟨as, s, Z, μ, W, σ, S, ra, G⟩
  obtain ⟨a, b, v, w, rfl, rfl, rv, rw', G⟩ := two_arg (fun _ _ => rfl) ra G
  cases a with
  | int i =>
    cases b with
    | int j =>
      simp only [VR] at rv rw'
      subst rv; subst rw'
      exact ⟨i, j, rfl, Good.here (a := A.int (if j > i then j else i)) G S (by simp [VR])⟩
    | _ => exact False.elim G
  | _ => exact False.elim G
theorem c_min2 (hc : X.calm = true) : CallR X (.builtin "min") (rVs N (bcA .min2 fz)) := by
  refine clr_imp (L2.call_min2 hc) fun xs H Q => ?_
  rintro ⟨as, s, Z, μ, W, σ, S, ra, G⟩
  obtain ⟨a, b, v, w, rfl, rfl, rv, rw', G⟩ := two_arg (fun _ _ => rfl) ra G
  cases a with
  | int i =>
    cases b with
    | int j =>
      simp only [VR] at rv rw'
      subst rv; subst rw'
      exact ⟨i, j, rfl, Good.here (a := A.int (if j < i then j else i)) G S (by simp [VR])⟩
    | _ => exact False.elim G
  | _ => exact False.elim G
theorem ints_vals : ∀ {as : List A} {vs : List V} {ns : List Int} {Z μ : List Addr} {H : Hp}, intsOf as = some ns → VRs N.K N.fa Z μ H as vs → vs = ns.map V.int
  | [], vs, ns, _, _, _, h, r => by cases h; simp only [VRs] at r; exact r
  | a :: as, vs, ns, _, _, _, h, r => by
    cases a <;> first | cases h | skip
    obtain ⟨ms, e, rfl⟩ := Option.map_eq_some_iff.mp (show (intsOf as).map _ = some ns from h)
    simp only [VRs, VR] at r
    obtain ⟨v, w, rfl, rfl, r2⟩ := r
    rw [ints_vals e r2]
    rfl
theorem bls_vals : ∀ {as : List A} {vs : List V} {ns : List Bool} {Z μ : List Addr} {H : Hp}, blsOf as = some ns → VRs N.K N.fa Z μ H as vs → vs = ns.map V.bl
  | [], vs, ns, _, _, _, h, r => by cases h; simp only [VRs] at r; exact r
  | a :: as, vs, ns, _, _, _, h, r => by
    cases a <;> first | cases h | skip
    obtain ⟨ms, e, rfl⟩ := Option.map_eq_some_iff.mp (show (blsOf as).map _ = some ns from h)
    simp only [VRs, VR] at r
    obtain ⟨v, w, rfl, rfl, r2⟩ := r
    rw [bls_vals e r2]
    rfl
theorem strs_vals : ∀ {as : List A} {vs : List V} {ns : List (List Nat)} {Z μ : List Addr} {H : Hp}, strsOf as = some ns → VRs N.K N.fa Z μ H as vs → vs = (ns.map toS).map V.str ∧ ∀ x ∈ ns, strOk x
  | [], vs, ns, _, _, _, h, r => by cases h; simp only [VRs] at r; exact ⟨r, by simp⟩
  | a :: as, vs, ns, _, _, _, h, r => by
    cases a <;> first | cases h | skip
    obtain ⟨ms, e, rfl⟩ := Option.map_eq_some_iff.mp (show (strsOf as).map _ = some ns from h)
    simp only [VRs, VR] at r
    obtain ⟨v, w, rfl, ⟨rfl, k⟩, r2⟩ := r
    obtain ⟨q1, q2⟩ := strs_vals e r2
    rw [q1]
    exact ⟨rfl, fun y hy => by rcases List.mem_cons.mp hy with rfl | hy; exact k; exact q2 y hy⟩
/-- a list of ints that is asked -/
theorem list_ints {s : Sto} {Z μ : List Addr} {H : Hp} {a : A} {v : V} {ns : List Int} (S : SR N.K N.fa N.cv Z μ s H) (r : VR N.K N.fa Z μ H a v) (h : ((lstOf s a).bind intsOf) = some ns) : ∃ p, v = .ref p ∧ SqL N.K H p (ns.map V.int) := by
  obtain ⟨as, e1, e2⟩ := Option.bind_eq_some_iff.mp h
  obtain ⟨p, vs, rfl, h1, h2⟩ := lst_read S r e1
  rw [ints_vals e2 h2] at h1
  exact ⟨p, rfl, h1.sq⟩
theorem list_bls {s : Sto} {Z μ : List Addr} {H : Hp} {a : A} {v : V} {ns : List Bool} (S : SR N.K N.fa N.cv Z μ s H) (r : VR N.K N.fa Z μ H a v) (h : ((lstOf s a).bind blsOf) = some ns) : ∃ p, v = .ref p ∧ SqL N.K H p (ns.map V.bl) := by
  obtain ⟨as, e1, e2⟩ := Option.bind_eq_some_iff.mp h
  obtain ⟨p, vs, rfl, h1, h2⟩ := lst_read S r e1
  rw [bls_vals e2 h2] at h1
  exact ⟨p, rfl, h1.sq⟩
theorem maxI_spec {i m : Int} {r : List Int} (h1 : m ∈ i :: r) (h2 : ∀ y ∈ i :: r, y ≤ m) : maxI (i :: r) = some m := by
  have key : ∀ (r : List Int) (i : Int), (∀ y ∈ i :: r, y ≤ r.foldl (fun a b => if b > a then b else a) i) ∧ r.foldl (fun a b => if b > a then b else a) i ∈ i :: r := by
    intro r
    induction r with
    | nil => intro i; simp
    | cons j r ih =>
      intro i
      simp only [List.foldl_cons]
      by_cases h : j > i
      · rw [if_pos h]
        obtain ⟨k1, k2⟩ := ih j
        refine ⟨fun y hy => ?_, by simp only [List.mem_cons] at k2 ⊢; exact .inr k2⟩
        rcases List.mem_cons.mp hy with rfl | hy
        · have := k1 j (by simp); omega
        · exact k1 y hy
      · rw [if_neg h]
        obtain ⟨k1, k2⟩ := ih i
        refine ⟨fun y hy => ?_, by simp only [List.mem_cons] at k2 ⊢; rcases k2 with k2 | k2; exact .inl k2; exact .inr (.inr k2)⟩
        rcases List.mem_cons.mp hy with rfl | hy
        · exact k1 y (by simp)
        · rcases List.mem_cons.mp hy with rfl | hy
          · have := k1 i (by simp); omega
          · exact k1 y (by simp [hy])
  obtain ⟨k1, k2⟩ := key r i
  show some _ = some m
  congr 1
  have a1 := k1 m h1
  have a2 := h2 _ k2
  omega
theorem minI_spec {i m : Int} {r : List Int} (h1 : m ∈ i :: r) (h2 : ∀ y ∈ i :: r, m ≤ y) : minI (i :: r) = some m := by
  have key : ∀ (r : List Int) (i : Int), (∀ y ∈ i :: r, r.foldl (fun a b => if b < a then b else a) i ≤ y) ∧ r.foldl (fun a b => if b < a then b else a) i ∈ i :: r := by
    intro r
    induction r with
    | nil => intro i; simp
    | cons j r ih =>
      intro i
      simp only [List.foldl_cons]
      by_cases h : j < i
      · rw [if_pos h]
        obtain ⟨k1, k2⟩ := ih j
        refine ⟨fun y hy => ?_, by simp only [List.mem_cons] at k2 ⊢; exact .inr k2⟩
        rcases List.mem_cons.mp hy with rfl | hy
        · have := k1 j (by simp); omega
        · exact k1 y hy
      · rw [if_neg h]
        obtain ⟨k1, k2⟩ := ih i
        refine ⟨fun y hy => ?_, by simp only [List.mem_cons] at k2 ⊢; rcases k2 with k2 | k2; exact .inl k2; exact .inr (.inr k2)⟩
        rcases List.mem_cons.mp hy with rfl | hy
        · exact k1 y (by simp)
        · rcases List.mem_cons.mp hy with rfl | hy
          · have := k1 i (by simp); omega
          · exact k1 y (by simp [hy])
  obtain ⟨k1, k2⟩ := key r i
  show some _ = some m
  congr 1
  have a1 := k1 m h1
  have a2 := h2 _ k2
  omega
theorem c_sum (hK : X.K = N.K) (hc : X.calm = true) : CallR X (.builtin "sum") (rVs N (bcA .sum fz)) := by
  refine clr_imp (L2.cr_sum hc) fun xs H Q => ?_
  rw [hK]
  rintro ⟨as, s, Z, μ, W, σ, S, ra, G⟩
  obtain ⟨a, v, rfl, rfl, rv, G⟩ := one_arg (by intro a b s; cases a <;> cases b <;> rfl) ra G
  replace G : GoodE N W Z μ H σ (kOpI ((lstOf s a).bind fun as => (intsOf as).map List.sum) s) Q := G
  cases e : (lstOf s a).bind intsOf with
  | none =>
    exfalso
    have e2 : ((lstOf s a).bind fun as => (intsOf as).map List.sum) = none := by
      cases q : lstOf s a with
      | none => rfl
      | some bs => rw [q] at e; show (intsOf bs).map _ = none; rw [show intsOf bs = none from e]; rfl
    rw [e2] at G; exact G
  | some ns =>
    obtain ⟨p, rfl, h⟩ := list_ints S rv e
    have e2 : ((lstOf s a).bind fun as => (intsOf as).map List.sum) = some ns.sum := by
      cases q : lstOf s a with
      | none => rw [q] at e; cases e
      | some bs => rw [q] at e; show (intsOf bs).map _ = _; rw [show intsOf bs = some ns from e]; rfl
    rw [e2] at G
    exact ⟨p, ns, rfl, h, Good.here (a := A.int ns.sum) G S (by simp [VR])⟩
theorem c_all (hK : X.K = N.K) (hc : X.calm = true) : CallR X (.builtin "all") (rVs N (bcA .all fz)) := by
  refine clr_imp (L2.cr_all hc) fun xs H Q => ?_
  rw [hK]
  rintro ⟨as, s, Z, μ, W, σ, S, ra, G⟩
  obtain ⟨a, v, rfl, rfl, rv, G⟩ := one_arg (by intro a b s; cases a <;> cases b <;> rfl) ra G
  replace G : GoodE N W Z μ H σ (kBl ((lstOf s a).bind fun as => (blsOf as).map fun bs => bs.all id) s) Q := G
  cases e : (lstOf s a).bind blsOf with
  | none =>
    exfalso
    have e2 : ((lstOf s a).bind fun as => (blsOf as).map fun bs => bs.all id) = none := by
      cases q : lstOf s a with
      | none => rfl
      | some bs => rw [q] at e; show (blsOf bs).map _ = none; rw [show blsOf bs = none from e]; rfl
    rw [e2] at G; exact G
  | some ns =>
    obtain ⟨p, rfl, h⟩ := list_bls S rv e
    have e2 : ((lstOf s a).bind fun as => (blsOf as).map fun bs => bs.all id) = some (ns.all id) := by
      cases q : lstOf s a with
      | none => rw [q] at e; cases e
      | some bs => rw [q] at e; show (blsOf bs).map _ = _; rw [show blsOf bs = some ns from e]; rfl
    rw [e2] at G
    exact ⟨p, ns, rfl, h, Good.here (a := A.bl (ns.all id)) G S (by simp [VR])⟩
theorem c_any (hK : X.K = N.K) (hc : X.calm = true) : CallR X (.builtin "any") (rVs N (bcA .any fz)) := by
  refine clr_imp (L2.cr_any hc) fun xs H Q => ?_
  rw [hK]
  rintro ⟨as, s, Z, μ, W, σ, S, ra, G⟩
  obtain ⟨a, v, rfl, rfl, rv, G⟩ := one_arg (by intro a b s; cases a <;> cases b <;> rfl) ra G
  replace G : GoodE N W Z μ H σ (kBl ((lstOf s a).bind fun as => (blsOf as).map fun bs => bs.any id) s) Q := G
  cases e : (lstOf s a).bind blsOf with
  | none =>
    exfalso
    have e2 : ((lstOf s a).bind fun as => (blsOf as).map fun bs => bs.any id) = none := by
      cases q : lstOf s a with
      | none => rfl
      | some bs => rw [q] at e; show (blsOf bs).map _ = none; rw [show blsOf bs = none from e]; rfl
    rw [e2] at G; exact G
  | some ns =>
    obtain ⟨p, rfl, h⟩ := list_bls S rv e
    have e2 : ((lstOf s a).bind fun as => (blsOf as).map fun bs => bs.any id) = some (ns.any id) := by
      cases q : lstOf s a with
      | none => rw [q] at e; cases e
      | some bs => rw [q] at e; show (blsOf bs).map _ = _; rw [show blsOf bs = some ns from e]; rfl
    rw [e2] at G
    exact ⟨p, ns, rfl, h, Good.here (a := A.bl (ns.any id)) G S (by simp [VR])⟩
theorem c_max1 (hK : X.K = N.K) (hc : X.calm = true) : CallR X (.builtin "max") (rVs N (bcA .max1 fz)) := by
  refine clr_imp (L2.cr_max hc) fun xs H Q => ?_
  rw [hK]
  rintro ⟨as, s, Z, μ, W, σ, S, ra, G⟩
  obtain ⟨a, v, rfl, rfl, rv, G⟩ := one_arg (by intro a b s; cases a <;> cases b <;> rfl) ra G
  replace G : GoodE N W Z μ H σ (kOpI ((lstOf s a).bind fun as => (intsOf as).bind maxI) s) Q := G
  cases e : (lstOf s a).bind intsOf with
  | none =>
    exfalso
    have e2 : ((lstOf s a).bind fun as => (intsOf as).bind maxI) = none := by
      cases q : lstOf s a with
      | none => rfl
      | some bs => rw [q] at e; show (intsOf bs).bind _ = none; rw [show intsOf bs = none from e]; rfl
    rw [e2] at G; exact G
  | some ns =>
    obtain ⟨p, rfl, h⟩ := list_ints S rv e
    have e2 : ((lstOf s a).bind fun as => (intsOf as).bind maxI) = maxI ns := by
      cases q : lstOf s a with
      | none => rw [q] at e; cases e
      | some bs => rw [q] at e; show (intsOf bs).bind _ = _; rw [show intsOf bs = some ns from e]; rfl
    rw [e2] at G
    cases ns with
    | nil => exact False.elim G
    | cons i r =>
      refine ⟨p, i :: r, rfl, h, by simp, fun m h1 h2 => ?_⟩
      rw [maxI_spec h1 h2] at G
      exact Good.here (a := A.int m) G S (by simp [VR])
theorem c_min1 (hK : X.K = N.K) (hc : X.calm = true) : CallR X (.builtin "min") (rVs N (bcA .min1 fz)) := by
  refine clr_imp (L2.cr_min hc) fun xs H Q => ?_
  rw [hK]
  rintro ⟨as, s, Z, μ, W, σ, S, ra, G⟩
  obtain ⟨a, v, rfl, rfl, rv, G⟩ := one_arg (by intro a b s; cases a <;> cases b <;> rfl) ra G
  replace G : GoodE N W Z μ H σ (kOpI ((lstOf s a).bind fun as => (intsOf as).bind minI) s) Q := G
  cases e : (lstOf s a).bind intsOf with
  | none =>
    exfalso
    have e2 : ((lstOf s a).bind fun as => (intsOf as).bind minI) = none := by
      cases q : lstOf s a with
      | none => rfl
      | some bs => rw [q] at e; show (intsOf bs).bind _ = none; rw [show intsOf bs = none from e]; rfl
    rw [e2] at G; exact G
  | some ns =>
    obtain ⟨p, rfl, h⟩ := list_ints S rv e
    have e2 : ((lstOf s a).bind fun as => (intsOf as).bind minI) = minI ns := by
      cases q : lstOf s a with
      | none => rw [q] at e; cases e
      | some bs => rw [q] at e; show (intsOf bs).bind _ = _; rw [show intsOf bs = some ns from e]; rfl
    rw [e2] at G
    cases ns with
    | nil => exact False.elim G
    | cons i r =>
      refine ⟨p, i :: r, rfl, h, by simp, fun m h1 h2 => ?_⟩
      rw [minI_spec h1 h2] at G
      exact Good.here (a := A.int m) G S (by simp [VR])
end
end Py

set_option autoImplicit false
set_option linter.all false
set_option Elab.async false
set_option maxRecDepth 100000
set_option maxHeartbeats 4000000
/-! PyS4: readings of expressions. -/
namespace Py
open PySem
open L2 (V Hp HO Rd SqL SqT Cx Inv PE PT PA PS PSs PG PI TE TT TA TS Ends VK XK WX St Room upd upd_same upd_ne ne_of_none Key kV RelV Vals R2 OpR UnR CallR tOp Dp DpAll rI rI0 EP MtR IxR PSet PW Gl tB tAndV tOrV tNotV tAnd tOr tNot Takes FnOk Binds Sp PassesAt WE)
/-- an expression's reading; a list's -/
def tE (N : Nm) (Γ : Env) (W : WX) (e : E) : TE := fun σ H Q => ∃ l s Z μ, SR N.K N.fa N.cv Z μ s H ∧ LR N Z μ H l σ ∧ GoodE N W Z μ H σ (evE Γ e l s) Q
def tEs (N : Nm) (Γ : Env) (W : WX) (es : List E) : TA := fun σ H Q => ∃ l s Z μ, SR N.K N.fa N.cv Z μ s H ∧ LR N Z μ H l σ ∧ Good N (VRs N.K N.fa Z) W Z μ H σ (evEs Γ es l s) Q
/-- a call's promise -/
def spF (N : Nm) (call : List A → Sto → R A) : Sp := fun vs H Q E => ∃ as s Z μ, SR N.K N.fa N.cv Z μ s H ∧ VRs N.K N.fa Z μ H as vs ∧ GoodE N (fun c d _ H => E c d H) Z μ H [] (call as s) Q
theorem pe_imp {X : Cx} {e : Expr} {t t' : TE} (h : PE X e t) (i : ∀ σ H Q, t' σ H Q → t σ H Q) : PE X e t' := ⟨fun pins s σ H Q I q => h.run pins s σ H Q I (i σ H Q q)⟩
theorem pt_imp {X : Cx} {e : Expr} {t t' : TT} (h : PT X e t) (i : ∀ σ H Q, t' σ H Q → t σ H Q) : PT X e t' := ⟨fun pins s σ H Q I q => h.run pins s σ H Q I (i σ H Q q)⟩
theorem pw_imp {X : Cx} {e : Expr} {t t' : TT} (h : PW X e t) (i : ∀ σ H Q, t' σ H Q → t σ H Q) : PW X e t' := ⟨fun wh pins s σ H Q I q => h.run wh pins s σ H Q I (i σ H Q q)⟩
theorem pa_imp {X : Cx} {e : List Expr} {t t' : TA} (h : PA X e t) (i : ∀ σ H Q, t' σ H Q → t σ H Q) : PA X e t' := ⟨fun pos pins s σ H Q I q => h.run pos pins s σ H Q I (i σ H Q q)⟩
section
variable {N : Nm} {Γ : Env} {W : WX}
theorem t_mono {e : E} {σ : St} {H : Hp} {Q Q' : VK} (h : tE N Γ W e σ H Q) (i : ∀ v H', Q v H' → Q' v H') : tE N Γ W e σ H Q' := by
  obtain ⟨l, s, Z, μ, S, L, G⟩ := h
  refine ⟨l, s, Z, μ, S, L, ?_⟩
  revert G
  cases evE Γ e l s with
  | ok a s => exact fun G μ' H' b e S r => i _ _ (G μ' H' b e S r)
  | exc x s => exact fun G => G
  | bad => exact fun G => G
theorem Good.lr {Z μ μ' : List Addr} {H H' : Hp} {s : Sto} {l : Loc} {σ : St} (S : SR N.K N.fa N.cv Z μ s H) (L : LR N Z μ H l σ) (e : Ext μ H μ' H') : LR N Z μ' H' l σ := L.stay (e.stay S.noTup)
/-- two operands -/
theorem t_two {e a b : E} {f : A → A → Sto → R A} (he : ∀ l s, evE Γ e l s = (evE Γ a l s).bind fun x s => (evE Γ b l s).bind fun y s => f x y s) (σ : St) (H : Hp) (Q : VK) (h : tE N Γ W e σ H Q) : tOp (rV2 N f) (tE N Γ W a) (tE N Γ W b) σ H Q := by
  obtain ⟨l, s, Z, μ, S, L, G⟩ := h
  rw [he] at G
  refine ⟨l, s, Z, μ, S, L, Good.bind G fun x s1 μ1 H1 v _ e1 S1 r1 G1 => ?_⟩
  have L1 := Good.lr S L e1
  refine ⟨l, s1, Z, μ1, S1, L1, Good.bind G1 fun y s2 μ2 H2 w _ e2 S2 r2 G2 => ?_⟩
  exact ⟨x, y, s2, Z, μ2, W, σ, S2, VR.stay (e2.stay S1.noTup) x v r1, r2, G2⟩
/-- one operand -/
theorem t_one {e a : E} {f : A → Sto → R A} {t : V → Hp → VK → Prop} (he : ∀ l s, evE Γ e l s = (evE Γ a l s).bind f) (ht : ∀ a s v Z μ H σ Q, SR N.K N.fa N.cv Z μ s H → VR N.K N.fa Z μ H a v → GoodE N W Z μ H σ (f a s) Q → t v H Q)
    (σ : St) (H : Hp) (Q : VK) (h : tE N Γ W e σ H Q) : tE N Γ W a σ H fun v H' => t v H' Q := by
  obtain ⟨l, s, Z, μ, S, L, G⟩ := h
  rw [he] at G
  exact ⟨l, s, Z, μ, S, L, Good.bind G fun x s1 μ1 H1 v _ e1 S1 r1 G1 => ht x s1 v Z μ1 H1 σ Q S1 r1 G1⟩
theorem t_and {a b : E} (σ : St) (H : Hp) (Q : VK) (h : tE N Γ W (.and a b) σ H Q) : tAndV (tE N Γ W a) (tE N Γ W b) σ H Q := by
  obtain ⟨l, s, Z, μ, S, L, G⟩ := h
  refine ⟨l, s, Z, μ, S, L, Good.bind (rel := VR N.K N.fa Z) (k := kAnd (evE Γ b) l) (by simpa using G) fun x s1 μ1 H1 v _ e1 S1 r1 G1 => ?_⟩
  have L1 := Good.lr S L e1
  cases x with
  | bl d =>
    simp only [VR] at r1
    refine ⟨d, r1, ?_⟩
    cases d with
    | true =>
      rw [if_pos rfl]
      replace G1 : GoodE N W Z μ1 H1 σ ((evE Γ b l s1).bind kIsBl) Q := G1
      refine ⟨l, s1, Z, μ1, S1, L1, Good.bind G1 fun y s2 μ2 H2 w _ e2 S2 r2 G2 => ?_⟩
      cases y with
      | bl c => exact Good.here (a := A.bl c) G2 S2 r2
      | _ => exact False.elim G2
    | false =>
      rw [if_neg (by decide)]
      replace G1 : GoodE N W Z μ1 H1 σ (.ok (.bl false) s1) Q := G1
      exact G1.here S1 (by simp [VR])
  | _ => exact False.elim G1
theorem t_or {a b : E} (σ : St) (H : Hp) (Q : VK) (h : tE N Γ W (.or a b) σ H Q) : tOrV (tE N Γ W a) (tE N Γ W b) σ H Q := by
  obtain ⟨l, s, Z, μ, S, L, G⟩ := h
  refine ⟨l, s, Z, μ, S, L, Good.bind (rel := VR N.K N.fa Z) (k := kOr (evE Γ b) l) (by simpa using G) fun x s1 μ1 H1 v _ e1 S1 r1 G1 => ?_⟩
  have L1 := Good.lr S L e1
  cases x with
  | bl d =>
    simp only [VR] at r1
    refine ⟨d, r1, ?_⟩
    cases d with
    | false =>
      rw [if_neg (by decide)]
      replace G1 : GoodE N W Z μ1 H1 σ ((evE Γ b l s1).bind kIsBl) Q := G1
      refine ⟨l, s1, Z, μ1, S1, L1, Good.bind G1 fun y s2 μ2 H2 w _ e2 S2 r2 G2 => ?_⟩
      cases y with
      | bl c => exact Good.here (a := A.bl c) G2 S2 r2
      | _ => exact False.elim G2
    | true =>
      rw [if_pos rfl]
      replace G1 : GoodE N W Z μ1 H1 σ (.ok (.bl true) s1) Q := G1
      exact G1.here S1 (by simp [VR])
  | _ => exact False.elim G1
/-- a value that is a bool, as a test -/
theorem t_andT {a b : E} (σ : St) (H : Hp) (Q : Bool → Hp → Prop) (h : tB (tE N Γ W (.and a b)) σ H Q) : tAnd (tB (tE N Γ W a)) (tB (tE N Γ W b)) σ H Q := by
  refine t_mono (t_and σ H _ h) fun v H' ⟨c, e, q⟩ => ⟨c, e, ?_⟩
  cases c with
  | true => exact q
  | false =>
    obtain ⟨c2, e2, q⟩ := (show ∃ c2, V.bl false = .bl c2 ∧ Q c2 H' from q)
    cases e2
    exact q
theorem t_orT {a b : E} (σ : St) (H : Hp) (Q : Bool → Hp → Prop) (h : tB (tE N Γ W (.or a b)) σ H Q) : tOr (tB (tE N Γ W a)) (tB (tE N Γ W b)) σ H Q := by
  refine t_mono (t_or σ H _ h) fun v H' ⟨c, e, q⟩ => ⟨c, e, ?_⟩
  cases c with
  | false => exact q
  | true =>
    obtain ⟨c2, e2, q⟩ := (show ∃ c2, V.bl true = .bl c2 ∧ Q c2 H' from q)
    cases e2
    exact q
theorem t_not {a : E} (σ : St) (H : Hp) (Q : VK) (h : tE N Γ W (.not a) σ H Q) : tNotV (tE N Γ W a) σ H Q := by
  refine t_one (f := kNot) (t := fun x H1 Q => ∃ c, x = .bl c ∧ Q (.bl (!c)) H1) (fun l s => rfl) (fun x s v Z μ H σ Q S r G => ?_) σ H Q h
  cases x with
  | bl d =>
    simp only [VR] at r
    exact ⟨d, r, Good.here (a := A.bl !d) G S (by simp [VR])⟩
  | _ => exact False.elim G
theorem t_notT {a : E} (σ : St) (H : Hp) (Q : Bool → Hp → Prop) (h : tB (tE N Γ W (.not a)) σ H Q) : tNot (tB (tE N Γ W a)) σ H Q := by
  refine t_mono (t_not σ H _ h) fun v H' ⟨c, e, q⟩ => ⟨c, e, ?_⟩
  obtain ⟨c2, e2, q⟩ := q
  cases e2
  exact q
theorem t_ite {c a b : E} (σ : St) (H : Hp) (Q : VK) (h : tE N Γ W (.ite c a b) σ H Q) : L2.tIf (tB (tE N Γ W c)) (tE N Γ W a) (tE N Γ W b) σ H Q := by
  obtain ⟨l, s, Z, μ, S, L, G⟩ := h
  refine ⟨l, s, Z, μ, S, L, Good.bind (rel := VR N.K N.fa Z) (k := kIte (evE Γ a) (evE Γ b) l) (by simpa using G) fun x s1 μ1 H1 v _ e1 S1 r1 G1 => ?_⟩
  have L1 := Good.lr S L e1
  cases x with
  | bl d =>
    simp only [VR] at r1
    refine ⟨d, r1, ?_⟩
    cases d with
    | true => rw [if_pos rfl]; exact ⟨l, s1, Z, μ1, S1, L1, G1⟩
    | false => rw [if_neg (by decide)]; exact ⟨l, s1, Z, μ1, S1, L1, G1⟩
  | _ => exact False.elim G1
theorem t_loc {i : Nat} (σ : St) (H : Hp) (Q : VK) (h : tE N Γ W (.loc i) σ H Q) : L2.tVar i σ H Q := by
  obtain ⟨l, s, Z, μ, S, L, G⟩ := h
  replace G : GoodE N W Z μ H σ (kLoc l[i]? s) Q := by simpa using G
  cases e : l[i]? with
  | none => rw [e] at G; exact False.elim G
  | some o =>
    cases o with
    | none => rw [e] at G; exact False.elim G
    | some a =>
      rw [e] at G
      obtain ⟨v, h1, h2⟩ := L.at_ i a e
      exact ⟨v, h1, Good.here (a := a) G S h2⟩
/-- a constant -/
theorem t_con {e : E} {a : A} {v : V} (he : ∀ l s, evE Γ e l s = .ok a s) (hv : ∀ Z μ H, VR N.K N.fa Z μ H a v) (σ : St) (H : Hp) (Q : VK) (h : tE N Γ W e σ H Q) : L2.tC v σ H Q := by
  obtain ⟨l, s, Z, μ, S, L, G⟩ := h
  rw [he] at G
  exact G.here S (hv Z μ H)
theorem t_nil (σ : St) (H : Hp) (Q : List V → Hp → Prop) (h : tEs N Γ W [] σ H Q) : L2.tNil σ H Q := by
  obtain ⟨l, s, Z, μ, S, L, G⟩ := h
  replace G : Good N (VRs N.K N.fa Z) W Z μ H σ (.ok [] s) Q := by simpa using G
  exact G.here S (by simp [VRs])
theorem t_cons {e : E} {es : List E} (σ : St) (H : Hp) (Q : List V → Hp → Prop) (h : tEs N Γ W (e :: es) σ H Q) : L2.tCons (tE N Γ W e) (tEs N Γ W es) σ H Q := by
  obtain ⟨l, s, Z, μ, S, L, G⟩ := h
  replace G : Good N (VRs N.K N.fa Z) W Z μ H σ ((evE Γ e l s).bind (kCons1 (evEs Γ es) l)) Q := by simpa using G
  refine ⟨l, s, Z, μ, S, L, Good.bind G fun x s1 μ1 H1 v _ e1 S1 r1 G1 => ?_⟩
  have L1 := Good.lr S L e1
  replace G1 : Good N (VRs N.K N.fa Z) W Z μ1 H1 σ ((evEs Γ es l s1).bind (kCons2 x)) Q := G1
  refine ⟨l, s1, Z, μ1, S1, L1, Good.bind G1 fun y s2 μ2 H2 w _ e2 S2 r2 G2 => ?_⟩
  exact Good.here (a := x :: y) G2 S2 ⟨v, w, rfl, VR.stay (e2.stay S1.noTup) x v r1, r2⟩
/-- arguments, then what is made of them -/
theorem t_args {e : E} {es : List E} {f : List A → Sto → R A} (he : ∀ l s, evE Γ e l s = (evEs Γ es l s).bind f) (σ : St) (H : Hp) (Q : VK) (h : tE N Γ W e σ H Q) : tEs N Γ W es σ H fun vs H' => rVs N f vs H' Q := by
  obtain ⟨l, s, Z, μ, S, L, G⟩ := h
  rw [he] at G
  exact ⟨l, s, Z, μ, S, L, Good.bind G fun x s1 μ1 H1 v _ e1 S1 r1 G1 => ⟨x, s1, Z, μ1, W, σ, S1, r1, G1⟩⟩
/-- the same, the wish kept -/
theorem t_argsW {e : E} {es : List E} {f : List A → Sto → R A} (he : ∀ l s, evE Γ e l s = (evEs Γ es l s).bind f) (σ : St) (H : Hp) (Q : VK) (h : tE N Γ W e σ H Q) :
    tEs N Γ W es σ H fun vs H' => ∃ as s Z μ, SR N.K N.fa N.cv Z μ s H' ∧ VRs N.K N.fa Z μ H' as vs ∧ GoodE N W Z μ H' σ (f as s) Q := by
  obtain ⟨l, s, Z, μ, S, L, G⟩ := h
  rw [he] at G
  exact ⟨l, s, Z, μ, S, L, Good.bind G fun x s1 μ1 H1 v _ e1 S1 r1 G1 => ⟨x, s1, Z, μ1, S1, r1, G1⟩⟩
theorem ts_mono {es : List E} {σ : St} {H : Hp} {Q Q' : List V → Hp → Prop} (h : tEs N Γ W es σ H Q) (i : ∀ v H', Q v H' → Q' v H') : tEs N Γ W es σ H Q' := by
  obtain ⟨l, s, Z, μ, S, L, G⟩ := h
  refine ⟨l, s, Z, μ, S, L, ?_⟩
  revert G
  cases evEs Γ es l s with
  | ok a s => exact fun G μ' H' b e S r => i _ _ (G μ' H' b e S r)
  | exc x s => exact fun G => G
  | bad => exact fun G => G
theorem wish {α β : Type} {rel : List Addr → Hp → α → β → Prop} {W W' : WX} {Z μ : List Addr} {H : Hp} {σ σ' : St} {r : R α} {Q : β → Hp → Prop} (h : Good N rel W Z μ H σ r Q) (i : ∀ c d H, W c d σ H → W' c d σ' H) : Good N rel W' Z μ H σ' r Q := by
  cases r with
  | ok a s => exact h
  | exc x s => exact fun μ' H' c d e S x => i c d H' (h μ' H' c d e S x)
  | bad => exact h
/-- a call by a name -/
theorem t_call {f : Nat} {es : List E} (σ : St) (H : Hp) (Q : VK) (h : tE N Γ W (.call f es) σ H Q) : L2.tCallS (spF N (Γ.call f)) (WE W) (tEs N Γ W es) σ H Q := by
  refine ts_mono (t_argsW (f := kCall Γ.call f) (fun l s => rfl) σ H Q h) fun vs H' ⟨as, s, Z, μ, S, r, G⟩ => ?_
  exact ⟨as, s, Z, μ, S, r, wish (G : GoodE N W Z μ H' σ (Γ.call f as s) Q) fun _ _ _ w => w⟩
theorem evEs_len : ∀ (es : List E) (l : Loc) (s s' : Sto) (as : List A), evEs Γ es l s = .ok as s' → as.length = es.length
  | [], l, s, s', as, h => by
    replace h : (R.ok [] s : R (List A)) = .ok as s' := h
    cases h
    rfl
  | e :: es, l, s, s', as, h => by
    replace h : (evE Γ e l s).bind (kCons1 (evEs Γ es) l) = .ok as s' := h
    cases h1 : evE Γ e l s with
    | ok a s1 =>
      rw [h1] at h
      replace h : (evEs Γ es l s1).bind (kCons2 a) = .ok as s' := h
      cases h2 : evEs Γ es l s1 with
      | ok bs s2 =>
        rw [h2] at h
        replace h : (R.ok (a :: bs) s2 : R (List A)) = .ok as s' := h
        cases h
        rw [List.length_cons, evEs_len es l s1 _ bs h2, List.length_cons]
      | exc x s2 => rw [h2] at h; cases h
      | bad => rw [h2] at h; cases h
    | exc x s1 => rw [h1] at h; cases h
    | bad => rw [h1] at h; cases h
theorem t_args' {e : E} {es : List E} {f : List A → Sto → R A} (he : ∀ l s, evE Γ e l s = (evEs Γ es l s).bind f) (σ : St) (H : Hp) (Q : VK) (h : tE N Γ W e σ H Q) :
    tEs N Γ W es σ H fun vs H' => ∃ as s Z μ, as.length = es.length ∧ SR N.K N.fa N.cv Z μ s H' ∧ VRs N.K N.fa Z μ H' as vs ∧ GoodE N W Z μ H' σ (f as s) Q := by
  obtain ⟨l, s, Z, μ, S, L, G⟩ := h
  rw [he] at G
  exact ⟨l, s, Z, μ, S, L, Good.bind G fun x s1 μ1 H1 v h1 e1 S1 r1 G1 => ⟨x, s1, Z, μ1, evEs_len es l s s1 x h1, S1, r1, G1⟩⟩
theorem t_tup {es : List E} (hl : es.length ≤ 1000) (σ : St) (H : Hp) (Q : VK) (h : tE N Γ W (.tup es) σ H Q) : L2.tTup (tEs N Γ W es) σ H Q := by
  refine ts_mono (t_args' (f := kTup) (fun l s => rfl) σ H Q h) fun vs H' ⟨as, s, Z, μ, hn, S, r, G⟩ => ?_
  refine ⟨?_, Good.mkT S r G⟩
  rw [r.length, hn, sizeLine_eq]; omega
theorem t_lst {es : List E} {fz : Bool} (hl : es.length ≤ 1000) (σ : St) (H : Hp) (Q : VK) (h : tE N Γ W (.lst fz es) σ H Q) : L2.tLst (tEs N Γ W es) σ H Q := by
  refine ts_mono (t_args' (f := kLst fz) (fun l s => rfl) σ H Q h) fun vs H' ⟨as, s, Z, μ, hn, S, r, G⟩ => ?_
  refine ⟨?_, Good.mkL (fz := fz) S r G⟩
  rw [r.length, hn, sizeLine_eq]; omega

/-! ### fields -/
theorem ofString_inj {a b : String} (h : Str.ofString a = Str.ofString b) : a = b := by
  have e : ∀ s : String, Str.ofString s = ⟨(s.toList.map Char.toNat).toArray⟩ := fun s => by
    unfold Str.ofString
    rw [cpsOfBytes_string]
  rw [e, e] at h
  injection h with h
  have h2 : a.toList.map Char.toNat = b.toList.map Char.toNat := by simpa using h
  have inj : ∀ x y : Char, x.toNat = y.toNat → x = y := fun x y h => Char.ext (UInt32.toNat_inj.mp h)
  have h3 : a.toList = b.toList := List.map_inj_right inj |>.mp h2
  exact String.toList_inj.mp h3
theorem beq_ofString (a b : String) : (Str.ofString a == Str.ofString b) = (a == b) := by
  by_cases h : a = b
  · subst h; rw [beq_self_eq_true, beq_self_eq_true]
  · rw [beq_eq_false_iff_ne.mpr h, beq_eq_false_iff_ne.mpr fun e => h (ofString_inj e)]
section
variable {Z μ : List Addr} {H : Hp}
theorem VRf.look : ∀ {fs : List (String × A)} {vs : List (Str × V)} (f : String), VRf N.K N.fa Z μ H fs vs → (fget fs f = none ∧ vs.lookup (Str.ofString f) = none) ∨ ∃ a v, fget fs f = some a ∧ vs.lookup (Str.ofString f) = some v ∧ VR N.K N.fa Z μ H a v
  | [], vs, f, h => by simp only [VRf] at h; subst h; exact .inl ⟨rfl, rfl⟩
  | (g, a) :: fs, vs, f, h => by
    simp only [VRf] at h
    obtain ⟨v, r, rfl, h1, h2⟩ := h
    by_cases e : g = f
    · subst e
      exact .inr ⟨a, v, by simp [fget], by simp [List.lookup], h1⟩
    · have e2 : (Str.ofString f == Str.ofString g) = false := by rw [beq_ofString]; exact beq_eq_false_iff_ne.mpr (Ne.symm e)
      have k1 : fget ((g, a) :: fs) f = fget fs f := by simp [fget, e]
      have k2 : ((Str.ofString g, v) :: r).lookup (Str.ofString f) = r.lookup (Str.ofString f) := by simp [List.lookup, e2]
      rw [k1, k2]
      exact VRf.look f h2
theorem VRf.put : ∀ {fs : List (String × A)} {vs : List (Str × V)} {f : String} {a : A} {v : V}, VRf N.K N.fa Z μ H fs vs → VR N.K N.fa Z μ H a v → VRf N.K N.fa Z μ H (fput fs f a) (L2.putF (Str.ofString f) v vs)
  | [], vs, f, a, v, h, k => by simp only [VRf] at h; subst h; simp [fput, L2.putF, VRf, k]
  | (g, b) :: fs, vs, f, a, v, h, k => by
    simp only [VRf] at h
    obtain ⟨w, r, rfl, h1, h2⟩ := h
    by_cases e : g = f
    · subst e
      simp only [fput, if_true, L2.putF, VRf]
      exact ⟨v, r, rfl, k, h2⟩
    · have e2 : ¬ Str.ofString g = Str.ofString f := fun z => e (ofString_inj z)
      simp only [fput, e, if_false, L2.putF, e2, VRf]
      exact ⟨w, _, rfl, h1, VRf.put h2 k⟩
theorem VRf.len : ∀ {fs : List (String × A)} {vs : List (Str × V)}, VRf N.K N.fa Z μ H fs vs → vs.length = fs.length
  | [], vs, h => by simp only [VRf] at h; subst h; rfl
  | (g, b) :: fs, vs, h => by
    simp only [VRf] at h
    obtain ⟨w, r, rfl, h1, h2⟩ := h
    simp [VRf.len h2]
theorem fput_keys : ∀ (fs : List (String × A)) (f : String) (a : A) (g : String), g ∈ (fput fs f a).map (·.1) → g = f ∨ g ∈ fs.map (·.1)
  | [], f, a, g, h => by simp [fput] at h; exact .inl h
  | (k, b) :: fs, f, a, g, h => by
    by_cases e : k = f
    · simp only [fput, e, if_true, List.map_cons, List.mem_cons] at h
      rcases h with h | h
      · exact .inl h
      · exact .inr (by simp only [List.map_cons, List.mem_cons]; exact .inr h)
    · simp only [fput, e, if_false, List.map_cons, List.mem_cons] at h
      rcases h with h | h
      · exact .inr (by simp only [List.map_cons, List.mem_cons]; exact .inl h)
      · rcases fput_keys fs f a g h with h | h
        · exact .inl h
        · exact .inr (by simp only [List.map_cons, List.mem_cons]; exact .inr h)
end
theorem t_attr {o : E} {f : String} (σ : St) (H : Hp) (Q : VK) (h : tE N Γ W (.attr o f) σ H Q) : L2.tFld N.K (tE N Γ W o) (Str.ofString f) σ H Q := by
  refine t_one (f := kAttr f) (t := fun x H1 Q => ∃ a C dx fs v, x = .ref a ∧ H1 a = some (.ins C dx fs) ∧ L2.Cls N.K C ∧ L2.NoAttr N.K C (Str.ofString f) ∧ fs.lookup (Str.ofString f) = some v ∧ Q v H1) (fun l s => rfl) (fun x s v Z μ H σ Q S r G => ?_) σ H Q h
  cases x with
  | ref n =>
    simp only [VR] at r
    obtain ⟨p, rfl, hp⟩ := r
    replace G : GoodE N W Z μ H σ (kAttr1 f s[n]? s) Q := G
    cases e : s[n]? with
    | none => rw [e] at G; exact False.elim G
    | some c =>
      obtain ⟨q, h2, hc⟩ := S.cell n c e
      obtain rfl : p = q := Option.some.inj (hp.symm.trans h2)
      rw [e] at G
      cases c with
      | ins c fs =>
        obtain ⟨C, dx, vs, h3, h4, h5, h6, h7⟩ := hc
        replace G : GoodE N W Z μ H σ (kOpt (fget fs f) s) Q := G
        rcases h5.look f with ⟨k1, k2⟩ | ⟨a, v, k1, k2, k3⟩
        · rw [k1] at G; exact False.elim G
        · rw [k1] at G
          refine ⟨p, C, dx, vs, v, rfl, h4, h6, h7 f ?_, k2, Good.here (a := a) G S k3⟩
          have mem : ∀ (fs : List (String × A)) (f : String) (a : A), fget fs f = some a → f ∈ fs.map (·.1) := by
            intro fs f a
            induction fs with
            | nil => intro h; cases h
            | cons g fs ih =>
              obtain ⟨g, b⟩ := g
              intro h
              by_cases e : g = f
              · simp [e]
              · simp only [fget, e, if_false] at h
                simp only [List.map_cons, List.mem_cons]
                exact .inr (ih h)
          exact mem fs f a k1
      | lst as => exact False.elim G
      | dct t ks => exact False.elim G
      | lck t ks => exact False.elim G
  | _ => exact False.elim G
/-- o.m(..), the class as it comes -/
def tMeS (X : Cx) (k : Nat) (m : Str) (E : St → XK) (ta : TE) (t : TA) : TE := fun σ H Q => ta σ H fun x H1 => ∃ a C dx fs f fd ps sp, x = .ref a ∧ H1 a = some (.ins C dx fs) ∧ fs.lookup m = none ∧ L2.Cls X.K C ∧ L2.Meth X.K C m f ∧
  FnOk X.prog X.w X.K X.mg X.base (L2.CX X.prog X.w) k f fd ps sp ∧ Binds X.K fd ps [] ∧ t σ H1 fun vs H2 => sp (x :: vs) H2 Q (E σ)
section
variable {X : Cx} {k : Nat} {m : Str} {E : St → XK} {ta : TE} {t : TA} {o e : Expr} {es : List Expr} {apos pos : Pos}
theorem pe_meS {pl : Sem Bool} (he : PE X o ta) (hr : Room k X.A) (hx : ∀ σ, PassesAt (L2.CX X.prog X.w) X σ (E σ)) (ha : PA X (e :: es) t)
    (hst : starEach (e :: es) X.env = (false, eval e X.env) :: starEach es X.env) (hpl : (backTo pos (starEach es X.env)).any (·.1) = false)
    (ht : eval (.Call (.Attribute o m apos) (e :: es) [] pos) X.env = (do
      let ov ← eval o X.env
      standAt apos.atName
      let (f, first) ← holding [ov] (getMethod ov m pl)
      callWith pos f first (backTo pos (starEach (e :: es) X.env)) (backToKw pos (keywordEach [] X.env)))) :
    PE X (.Call (.Attribute o m apos) (e :: es) [] pos) (tMeS X k m E ta t) := by
  refine ⟨fun pins s σ H Q I h => ?_⟩
  refine PySem.W.methodCall_KW (pl := pl) (L2.thn (he.run pins s σ H _ I h) fun u s1 ⟨x, H1, I1, rx, a, C, dx, fs, f, fd, ps, sp, ex, ea, l, c, hm, F, hb, q⟩ => ?_) ht
  subst ex
  obtain rfl : u = Value.ref a := rx
  refine L2.getmeth_ok I1 ea c hm l ?_
  refine PySem.W.callWith_K (first := [.ref a]) (h₀ := X.base) I.ok.mod.kin hm.kp (L2.thn (ha.run pos pins s1 σ H1 _ I1 q) fun us s2 ⟨vs, H2, I2, r, q2⟩ => ⟨I2.kIn, ?_⟩) hst hpl
  exact L2.run_fnS (us := .ref a :: us) (vs := .ref a :: vs) F hr hb (hx σ) I2 (.cons rfl r) q2
theorem pe_meS0 {pl : Sem Bool} (he : PE X o ta) (hr : Room k X.A) (hx : ∀ σ, PassesAt (L2.CX X.prog X.w) X σ (E σ))
    (ht : eval (.Call (.Attribute o m apos) [] [] pos) X.env = (do
      let ov ← eval o X.env
      standAt apos.atName
      let (f, first) ← holding [ov] (getMethod ov m pl)
      callWith pos f first (backTo pos (starEach [] X.env)) (backToKw pos (keywordEach [] X.env)))) :
    PE X (.Call (.Attribute o m apos) [] [] pos) (tMeS X k m E ta L2.tNil) := by
  refine ⟨fun pins s σ H Q I h => ?_⟩
  refine PySem.W.methodCall_KW (pl := pl) (L2.thn (he.run pins s σ H _ I h) fun u s1 ⟨x, H1, I1, rx, a, C, dx, fs, f, fd, ps, sp, ex, ea, l, c, hm, F, hb, q⟩ => ?_) ht
  subst ex
  obtain rfl : u = Value.ref a := rx
  refine L2.getmeth_ok I1 ea c hm l ?_
  exact PySem.W.callWith_K0 (first := [.ref a]) I1.kIn hm.kp (L2.run_fnS (us := [.ref a]) (vs := [.ref a]) F hr hb (hx σ) I1 (.cons rfl .nil) q)
theorem pe_callS0 {x : Str} {p : Pos} {f : Addr} {fd : FuncData} {ps : List Str} {sp : Sp} (F : FnOk X.prog X.w X.K X.mg X.base (L2.CX X.prog X.w) k f fd ps sp) (hr : Room k X.A) (hg : Gl X x) (hm : X.mg x = some (.ref f)) (hk : PySem.W.keepIn X.K (.ref f) = true) (hb : Binds X.K fd ps [])
    (hx : ∀ σ, PassesAt (L2.CX X.prog X.w) X σ (E σ)) (hdb : (x == ("__debug__" : Str)) = false) : PE X (.Call (.Name x p) [] [] pos) (L2.tCallS sp E L2.tNil) := by
  refine ⟨fun pins s σ H Q I h => ?_⟩
  refine wpAny_Call_Name_kw (L2.ld_glob I hg hm ?_ hdb)
  exact PySem.W.callWith_K0 I.kIn hk (L2.run_fnS (us := []) F hr hb (hx σ) I .nil h)
/-- C(..) -/
def tMkS (C : Addr) (sp : Sp) (E : St → XK) (t : TA) : TE := fun σ H Q => t σ H fun vs H1 => ∀ x dx, H1 x = none → H1 dx = none → dx ≠ x →
  sp (.ref x :: vs) (upd (upd H1 dx (.own x)) x (.ins C dx [])) (fun v H2 => v = .non ∧ Q (.ref x) H2) (E σ)
theorem run_mkS {pins : List (Addr × Obj)} {σ : St} {H : Hp} {s : Shared} {Q : VK} {us : List Value} {vs : List V} {C f : Addr} {fd : FuncData} {ps : List Str} {sp : Sp} (M : L2.Mk X.K C f) (F : FnOk X.prog X.w X.K X.mg X.base (L2.CX X.prog X.w) k f fd ps sp) (hr : Room (k + 1) X.A) (hb : Binds X.K fd ps [])
    (hx : ∀ σ, PassesAt (L2.CX X.prog X.w) X σ (E σ)) (I : L2.Inv X pins σ H s) (r : Vals vs us)
    (h : ∀ x dx, H x = none → H dx = none → dx ≠ x → sp (.ref x :: vs) (upd (upd H dx (.own x)) x (.ins C dx [])) (fun v H2 => v = .non ∧ Q (.ref x) H2) (E σ)) :
    wpAny (model X.prog X.w) X.A (call (.ref C) us) (EP X pins σ Q) X.xe s := by
  have hq := h (s.heap.objs.size + 1) s.heap.objs.size (I.hok.fresh (Nat.le_succ _)) (I.hok.fresh (Nat.le_refl _)) (Nat.ne_of_lt (Nat.lt_succ_self _))
  have I2 := L2.Inv.made (C := C) I
  have r2 : Vals (V.ref (s.heap.objs.size + 1) :: vs) (Value.ref (s.heap.objs.size + 1) :: us) := .cons rfl r
  have hl : (Value.ref (s.heap.objs.size + 1) :: us).length = ps.length := by
    have e := r2.length
    rw [F.len _ _ _ _ hq] at e
    exact e.symm
  have b := hb _ (Value.ref (s.heap.objs.size + 1) :: us) I2.kIn (by rw [List.append_nil]; exact hl)
  rw [List.append_nil] at b
  refine wpAny_call (L2.make_map (f := f) I.kIn M.makes M.init (beq_iff_eq.mp M.fn) (codeAny_mono (F.run _ X.stack _ _ ⟨Value.ref (s.heap.objs.size + 1) :: us, []⟩ (Value.ref (s.heap.objs.size + 1) :: us) _ _ (E σ) (hr.make C us [])
    (I2.env0.make C us []) b r2 hq) fun r s' hq' => ?_))
  cases r with
  | error e => exact hx σ pins _ _ e s' I2 hq'
  | ok fl =>
    cases fl with
    | ret u =>
      obtain ⟨v, H', I3, rv, ev, q3⟩ := I2.after hq'
      subst ev
      exact ⟨rv, ⟨V.ref (s.heap.objs.size + 1), H', I3, rfl, q3⟩⟩
    | next => exact False.elim hq'
    | brk => exact False.elim hq'
    | cont => exact False.elim hq'
theorem pe_mkS {x : Str} {p : Pos} {C f : Addr} {fd : FuncData} {ps : List Str} {sp : Sp} (M : L2.Mk X.K C f) (F : FnOk X.prog X.w X.K X.mg X.base (L2.CX X.prog X.w) k f fd ps sp) (hr : Room (k + 1) X.A) (hg : Gl X x) (hm : X.mg x = some (.ref C)) (hb : Binds X.K fd ps [])
    (hx : ∀ σ, PassesAt (L2.CX X.prog X.w) X σ (E σ)) (ha : PA X (e :: es) t) (hdb : (x == ("__debug__" : Str)) = false) (he : starEach (e :: es) X.env = (false, eval e X.env) :: starEach es X.env) (hpl : (backTo pos (starEach es X.env)).any (·.1) = false) :
    PE X (.Call (.Name x p) (e :: es) [] pos) (tMkS C sp E t) := by
  refine ⟨fun pins s σ H Q I h => ?_⟩
  refine wpAny_Call_Name_kw (L2.ld_glob I hg hm ?_ hdb)
  refine PySem.W.callWith_K (h₀ := X.base) I.ok.mod.kin M.kp (L2.thn (ha.run pos pins s σ H _ I h) fun us s1 ⟨vs, H1, I1, r, q⟩ => ⟨I1.kIn, ?_⟩) he hpl
  exact run_mkS M F hr hb hx I1 r q
theorem pe_mkS0 {x : Str} {p : Pos} {C f : Addr} {fd : FuncData} {ps : List Str} {sp : Sp} (M : L2.Mk X.K C f) (F : FnOk X.prog X.w X.K X.mg X.base (L2.CX X.prog X.w) k f fd ps sp) (hr : Room (k + 1) X.A) (hg : Gl X x) (hm : X.mg x = some (.ref C)) (hb : Binds X.K fd ps [])
    (hx : ∀ σ, PassesAt (L2.CX X.prog X.w) X σ (E σ)) (hdb : (x == ("__debug__" : Str)) = false) :
    PE X (.Call (.Name x p) [] [] pos) (tMkS C sp E L2.tNil) := by
  refine ⟨fun pins s σ H Q I h => ?_⟩
  refine wpAny_Call_Name_kw (L2.ld_glob I hg hm ?_ hdb)
  exact PySem.W.callWith_K0 I.kIn M.kp (run_mkS (us := []) M F hr hb hx I .nil h)
end
/-- the methods of the text, as they are kept -/
def MethsOk (N : Nm) (Γ : Env) (X : Cx) (k : Nat) : Prop := ∀ c m f C, Γ.meth c m = some f → N.cv c = some (.ref C) → ∃ fa fd ps, L2.Meth X.K C (Str.ofString m) fa ∧ FnOk X.prog X.w X.K X.mg X.base (L2.CX X.prog X.w) k fa fd ps (spF N (Γ.call f)) ∧ Binds X.K fd ps []
theorem t_meth {X : Cx} {k : Nat} (hK : X.K = N.K) (MO : MethsOk N Γ X k) {m : String} {o : E} {es : List E} (σ : St) (H : Hp) (Q : VK) (h : tE N Γ W (.meth m o es) σ H Q) : tMeS X k (Str.ofString m) (WE W) (tE N Γ W o) (tEs N Γ W es) σ H Q := by
  obtain ⟨l, s, Z, μ, S, L, G⟩ := h
  replace G : GoodE N W Z μ H σ ((evE Γ o l s).bind (kMeth l Γ (evEs Γ es) m)) Q := G
  refine ⟨l, s, Z, μ, S, L, Good.bind G fun x s1 μ1 H1 v _ e1 S1 r1 G1 => ?_⟩
  have L1 := Good.lr S L e1
  cases x with
  | ref n =>
    have r1' := r1
    simp only [VR] at r1
    obtain ⟨p, rfl, hp⟩ := r1
    replace G1 : GoodE N W Z μ1 H1 σ (kMeth1 l Γ (evEs Γ es) m n s1[n]? s1) Q := G1
    cases e : s1[n]? with
    | none => rw [e] at G1; exact False.elim G1
    | some c =>
      obtain ⟨q, h2, hc⟩ := S1.cell n c e
      obtain rfl : p = q := Option.some.inj (hp.symm.trans h2)
      rw [e] at G1
      cases c with
      | ins c fs =>
        obtain ⟨C, dx, vs, h3, h4, h5, h6, h7⟩ := hc
        replace G1 : GoodE N W Z μ1 H1 σ (kMeth2 l Γ.call (evEs Γ es) n (fget fs m) (Γ.meth c m) s1) Q := G1
        rcases h5.look m with ⟨k1, k2⟩ | ⟨a, v, k1, k2, k3⟩
        · rw [k1] at G1
          cases hm : Γ.meth c m with
          | none => rw [hm] at G1; exact False.elim G1
          | some f =>
            rw [hm] at G1
            replace G1 : GoodE N W Z μ1 H1 σ ((evEs Γ es l s1).bind (kMeth3 Γ.call n f)) Q := G1
            obtain ⟨fa, fd, ps, M, F, B⟩ := MO c m f C hm h3
            refine ⟨p, C, dx, vs, fa, fd, ps, _, rfl, h4, k2, by rw [hK]; exact h6, M, F, B, l, s1, Z, μ1, S1, L1, Good.bind G1 fun as s2 μ2 H2 w _ e2 S2 r2 G2 => ?_⟩
            exact ⟨.ref n :: as, s2, Z, μ2, S2, ⟨_, _, rfl, VR.stay (e2.stay S1.noTup) _ _ r1', r2⟩, wish (G2 : GoodE N W Z μ2 H2 σ (Γ.call f (.ref n :: as) s2) Q) fun _ _ _ w => w⟩
        · rw [k1] at G1; cases hm : Γ.meth c m <;> (rw [hm] at G1; exact False.elim G1)
      | lst as => exact False.elim G1
      | dct t ks => exact False.elim G1
      | lck t ks => exact False.elim G1
  | _ => exact False.elim G1
theorem t_make {c f : Nat} {C : Addr} {es : List E} (hi : Γ.init c = some f) (hc : N.cv c = some (.ref C)) (cl : L2.Cls N.K C) (σ : St) (H : Hp) (Q : VK) (h : tE N Γ W (.make c es) σ H Q) : tMkS C (spF N (Γ.call f)) (WE W) (tEs N Γ W es) σ H Q := by
  refine ts_mono (t_argsW (f := kMake1 Γ.call c (Γ.init c)) (fun l s => rfl) σ H Q h) fun vs H1 ⟨as, s, Z, μ, S, r, G⟩ => ?_
  intro x dx hx hd hne
  rw [hi] at G
  replace G : GoodE N W Z μ H1 σ ((Γ.call f (.ref s.length :: as) (s ++ [.ins c []])).bind (kMake2 s.length)) Q := G
  have e1 : Ext μ H1 μ (upd H1 dx (.own x)) := Ext.new hd
  have S1 := S.new (o := .own x) hd
  have hx1 : (upd H1 dx (.own x)) x = none := by rw [upd_ne (Ne.symm hne)]; exact hx
  have e2 : Ext μ (upd H1 dx (.own x)) (μ ++ [x]) (upd (upd H1 dx (.own x)) x (.ins C dx [])) := Ext.push hx1
  have S2 : SR N.K N.fa N.cv Z (μ ++ [x]) (s ++ [.ins c []]) (upd (upd H1 dx (.own x)) x (.ins C dx [])) := S1.push hx1 ⟨C, dx, [], hc, upd_same, by simp [VRf], cl, by simp⟩
  have e := e1.trans e2
  have hn : (μ ++ [x])[s.length]? = some x := by rw [← S.len]; simp
  refine ⟨.ref s.length :: as, _, Z, _, S2, ⟨_, _, rfl, by simp only [VR]; exact ⟨x, rfl, hn⟩, VRs.stay (e.stay S.noTup) _ _ r⟩, ?_⟩
  refine wish (W := W) (σ := σ) ?_ fun _ _ _ w => w
  revert G
  cases Γ.call f (.ref s.length :: as) (s ++ [.ins c []]) with
  | ok a s' =>
    intro G μ' H' b e3 S3 r3
    cases a with
    | non =>
      simp only [VR] at r3
      refine ⟨r3, ?_⟩
      replace G : GoodE N W Z μ H1 σ (.ok (.ref s.length) s') Q := G
      exact G μ' H' (.ref x) (e.trans e3) S3 (by simp only [VR]; exact ⟨x, rfl, e3.at hn⟩)
    | _ => exact False.elim G
  | exc y s' => exact fun G μ' H' c' d e3 S3 x3 => G μ' H' c' d (e.trans e3) S3 x3
  | bad => exact fun G => G
end
end Py

set_option autoImplicit false
set_option linter.all false
set_option Elab.async false
set_option maxRecDepth 100000
set_option maxHeartbeats 4000000
/-! PyS5: readings of statements. -/
namespace Py
open PySem
open L2 (V Hp HO Rd SqL SqT Cx Inv PE PT PA PS PSs PG PGs PI TE TT TA TS TG TGs TI It Ends VK XK WX St Room upd upd_same upd_ne ne_of_none Key kV RelV Vals R2 OpR UnR CallR tOp Dp DpAll rI rI0 EP MtR IxR PSet PW Gl tB tAndV tOrV tNotV tAnd tOr tNot Takes FnOk Binds Sp PassesAt WE gName gNil gCons gTup gLst Itl Itt Itr)
def GoodF (N : Nm) (W : WX) (Z μ : List Addr) (H : Hp) (r : Fl) (D : Ends) : Prop :=
  match r with
  | .nx l s => ∀ μ' H' σ', Ext μ H μ' H' → SR N.K N.fa N.cv Z μ' s H' → LR N Z μ' H' l σ' → D.nx σ' H'
  | .brk l s => ∀ μ' H' σ', Ext μ H μ' H' → SR N.K N.fa N.cv Z μ' s H' → LR N Z μ' H' l σ' → D.bk σ' H'
  | .cnt l s => ∀ μ' H' σ', Ext μ H μ' H' → SR N.K N.fa N.cv Z μ' s H' → LR N Z μ' H' l σ' → D.ct σ' H'
  | .ret a s => ∀ μ' H' v, Ext μ H μ' H' → SR N.K N.fa N.cv Z μ' s H' → VR N.K N.fa Z μ' H' a v → D.rt v H'
  | .exc e l s => ∀ μ' H' σ' c d, Ext μ H μ' H' → SR N.K N.fa N.cv Z μ' s H' → LR N Z μ' H' l σ' → XR N Z μ' H' e c d → W c d σ' H'
  | .bad => False
/-- a block's reading; a statement's -/
def tSs (N : Nm) (Γ : Env) (W : WX) (b : List S) : TS := fun D σ H => ∃ l s Z μ, SR N.K N.fa N.cv Z μ s H ∧ LR N Z μ H l σ ∧ GoodF N W Z μ H (evSs Γ b l s) D
def tS1 (N : Nm) (Γ : Env) (W : WX) (b : S) : TS := fun D σ H => ∃ l s Z μ, SR N.K N.fa N.cv Z μ s H ∧ LR N Z μ H l σ ∧ GoodF N W Z μ H (evS Γ b l s) D
theorem ps_imp {X : Cx} {e : Stmt} {t t' : TS} (h : PS X e t) (i : ∀ D σ H, t' D σ H → t D σ H) : PS X e t' := ⟨fun pins s σ H D I q => h.run pins s σ H D I (i D σ H q)⟩
theorem pss_imp {X : Cx} {e : List Stmt} {t t' : TS} (h : PSs X e t) (i : ∀ D σ H, t' D σ H → t D σ H) : PSs X e t' := ⟨fun pins s σ H D I q => h.run pins s σ H D I (i D σ H q)⟩
section
variable {N : Nm} {Γ : Env} {W : WX} {Z μ μ' : List Addr} {H H' : Hp} {σ : St} {s : Sto} {l : Loc} {D : Ends}
theorem GoodF.later {r : Fl} (e : Ext μ H μ' H') (h : GoodF N W Z μ H r D) : GoodF N W Z μ' H' r D := by
  cases r with
  | nx l s => exact fun μ2 H2 b e2 => h μ2 H2 b (e.trans e2)
  | brk l s => exact fun μ2 H2 b e2 => h μ2 H2 b (e.trans e2)
  | cnt l s => exact fun μ2 H2 b e2 => h μ2 H2 b (e.trans e2)
  | ret a s => exact fun μ2 H2 b e2 => h μ2 H2 b (e.trans e2)
  | exc x l s => exact fun μ2 H2 b c d e2 => h μ2 H2 b c d (e.trans e2)
  | bad => exact h
/-- an expression at a statement's head -/
theorem GoodF.fl {α β : Type} {rel : List Addr → Hp → α → β → Prop} {r : R α} {k : α → Sto → Fl} {Q : β → Hp → Prop} (h : GoodF N W Z μ H (r.fl l k) D) (S : SR N.K N.fa N.cv Z μ s H) (L : LR N Z μ H l σ)
    (hq : ∀ a s1 μ1 H1 b, r = .ok a s1 → Ext μ H μ1 H1 → SR N.K N.fa N.cv Z μ1 s1 H1 → rel μ1 H1 a b → LR N Z μ1 H1 l σ → GoodF N W Z μ1 H1 (k a s1) D → Q b H1) : Good N rel W Z μ H σ r Q := by
  cases r with
  | ok a s1 => exact fun μ1 H1 b e1 S1 r1 => hq a s1 μ1 H1 b rfl e1 S1 r1 (Good.lr S L e1) (GoodF.later e1 h)
  | exc x s1 => exact fun μ1 H1 c d e1 S1 x1 => h μ1 H1 σ c d e1 S1 (Good.lr S L e1) x1
  | bad => exact h
theorem GoodF.seq {r : Fl} {k : Loc → Sto → Fl} {u : TS} (h : GoodF N W Z μ H (r.seq k) D) (hu : ∀ l s μ1 H1 σ1, Ext μ H μ1 H1 → SR N.K N.fa N.cv Z μ1 s H1 → LR N Z μ1 H1 l σ1 → GoodF N W Z μ1 H1 (k l s) D → u D σ1 H1) : GoodF N W Z μ H r { D with nx := u D } := by
  cases r with
  | nx l s => exact fun μ1 H1 σ1 e1 S1 L1 => hu l s μ1 H1 σ1 e1 S1 L1 (GoodF.later e1 h)
  | brk l s => exact h
  | cnt l s => exact h
  | ret a s => exact h
  | exc x l s => exact h
  | bad => exact h
theorem t_snil (D : Ends) (σ : St) (H : Hp) (h : tSs N Γ W [] D σ H) : L2.tNext D σ H := by
  obtain ⟨l, s, Z, μ, S, L, G⟩ := h
  exact G μ H σ (Ext.refl μ H) S L
theorem t_scons {st : S} {b : List S} (D : Ends) (σ : St) (H : Hp) (h : tSs N Γ W (st :: b) D σ H) : L2.tSeq (tS1 N Γ W st) (tSs N Γ W b) D σ H := by
  obtain ⟨l, s, Z, μ, S, L, G⟩ := h
  replace G : GoodF N W Z μ H ((evS Γ st l s).seq (evSs Γ b)) D := G
  exact ⟨l, s, Z, μ, S, L, GoodF.seq (u := tSs N Γ W b) G fun l1 s1 μ1 H1 σ1 e1 S1 L1 G1 => ⟨l1, s1, Z, μ1, S1, L1, G1⟩⟩
theorem t_ret {e : E} (D : Ends) (σ : St) (H : Hp) (h : tS1 N Γ W (.ret e) D σ H) : L2.tRet (tE N Γ W e) D σ H := by
  obtain ⟨l, s, Z, μ, S, L, G⟩ := h
  replace G : GoodF N W Z μ H ((evE Γ e l s).fl l kRet) D := G
  exact ⟨l, s, Z, μ, S, L, GoodF.fl G S L fun a s1 μ1 H1 v _ e1 S1 r1 L1 G1 => G1 μ1 H1 v (Ext.refl _ _) S1 r1⟩
theorem t_retN (D : Ends) (σ : St) (H : Hp) (h : tS1 N Γ W .retN D σ H) : L2.tRetN D σ H := by
  obtain ⟨l, s, Z, μ, S, L, G⟩ := h
  exact G μ H .non (Ext.refl _ _) S (by simp [VR])
theorem t_ex {e : E} (D : Ends) (σ : St) (H : Hp) (h : tS1 N Γ W (.ex e) D σ H) : L2.tDrop (tE N Γ W e) D σ H := by
  obtain ⟨l, s, Z, μ, S, L, G⟩ := h
  replace G : GoodF N W Z μ H ((evE Γ e l s).fl l (kEx l)) D := G
  exact ⟨l, s, Z, μ, S, L, GoodF.fl G S L fun a s1 μ1 H1 v _ e1 S1 r1 L1 G1 => G1 μ1 H1 σ (Ext.refl _ _) S1 L1⟩
theorem t_pass (D : Ends) (σ : St) (H : Hp) (h : tS1 N Γ W .pass D σ H) : L2.tNext D σ H := by
  obtain ⟨l, s, Z, μ, S, L, G⟩ := h
  exact G μ H σ (Ext.refl _ _) S L
theorem t_brk (D : Ends) (σ : St) (H : Hp) (h : tS1 N Γ W .brk D σ H) : L2.tBreak D σ H := by
  obtain ⟨l, s, Z, μ, S, L, G⟩ := h
  exact G μ H σ (Ext.refl _ _) S L
theorem t_cnt (D : Ends) (σ : St) (H : Hp) (h : tS1 N Γ W .cnt D σ H) : L2.tCont D σ H := by
  obtain ⟨l, s, Z, μ, S, L, G⟩ := h
  exact G μ H σ (Ext.refl _ _) S L
theorem t_if {c : E} {a b : List S} (D : Ends) (σ : St) (H : Hp) (h : tS1 N Γ W (.iff c a b) D σ H) : L2.tIfS (tB (tE N Γ W c)) (tSs N Γ W a) (tSs N Γ W b) D σ H := by
  obtain ⟨l, s, Z, μ, S, L, G⟩ := h
  replace G : GoodF N W Z μ H ((evE Γ c l s).fl l (kIf (evSs Γ a) (evSs Γ b) l)) D := G
  refine ⟨l, s, Z, μ, S, L, GoodF.fl G S L fun x s1 μ1 H1 v _ e1 S1 r1 L1 G1 => ?_⟩
  cases x with
  | bl d =>
    simp only [VR] at r1
    refine ⟨d, r1, ?_⟩
    cases d with
    | true => rw [if_pos rfl]; exact ⟨l, s1, Z, μ1, S1, L1, G1⟩
    | false => rw [if_neg (by decide)]; exact ⟨l, s1, Z, μ1, S1, L1, G1⟩
  | _ => exact False.elim G1
/-- names forgotten: nothing is done -/
theorem t_kil {is : List Nat} {b : List S} (D : Ends) (σ : St) (H : Hp) (h : tSs N Γ W (.kil is :: b) D σ H) : tSs N Γ W b D σ H := by
  obtain ⟨l, s, Z, μ, S, L, G⟩ := h
  replace G : GoodF N W Z μ H (evSs Γ b (kill is l) s) D := G
  exact ⟨kill is l, s, Z, μ, S, L.kill is, G⟩

/-! ### targets -/
def gT (N : Nm) (t : T) : TG := fun v σ H Q => ∃ a l s Z μ, SR N.K N.fa N.cv Z μ s H ∧ VR N.K N.fa Z μ H a v ∧ LR N Z μ H l σ ∧ match bindT t a l s with
  | some l' => ∀ σ', LR N Z μ H l' σ' → (∀ w, L2.wipe σ' w = L2.wipe σ w ∨ ¬ ∀ i ∈ (match t with | .nm i => [i] | .tp is => is), i ∈ w) → Q σ' H
  | none => False
theorem pg_imp {X : Cx} {e : Expr} {t t' : TG} (h : PG X e t) (i : ∀ v σ H Q, t' v σ H Q → t v σ H Q) : PG X e t' := ⟨fun pins s σ H x v Q I r q => h.run pins s σ H x v Q I r (i x σ H Q q)⟩
theorem pg_or {X : Cx} {e : Expr} {t t' : TG} (h : PG X e t) (h' : PG X e t') : PG X e (fun v σ H Q => t v σ H Q ∨ t' v σ H Q) := ⟨fun pins s σ H x v Q I r q => by
  rcases q with q | q
  · exact h.run pins s σ H x v Q I r q
  · exact h'.run pins s σ H x v Q I r q⟩
theorem wipe_set : ∀ {w : List Nat} {σ : St} {i : Nat} {o : Option V}, i ∈ w → L2.wipe (σ.set i o) w = L2.wipe σ w
  | j :: w, σ, i, o, h => by
    show (L2.wipe (σ.set i o) w).set j none = (L2.wipe σ w).set j none
    by_cases hi : i ∈ w
    · rw [wipe_set hi]
    · have : i = j := by rcases List.mem_cons.mp h with h | h; exact h; exact absurd h hi
      subst this
      have key : ∀ (w : List Nat) (σ : St), i ∉ w → L2.wipe (σ.set i o) w = (L2.wipe σ w).set i o := by
        intro w
        induction w with
        | nil => intro σ _; rfl
        | cons k w ih =>
          intro σ hk
          show (L2.wipe (σ.set i o) w).set k none = ((L2.wipe σ w).set k none).set i o
          rw [ih σ (fun z => hk (List.mem_cons_of_mem _ z)), List.set_comm]
          rintro rfl
          exact hk (List.mem_cons_self ..)
      rw [key w σ hi, List.set_set]
def T.slots : T → List Nat
  | .nm i => [i]
  | .tp is => is
theorem g_nm {i : Nat} (hf : N.free i) (v : V) (σ : St) (H : Hp) (Q : St → Hp → Prop) (h : gT N (.nm i) v σ H Q) : gName i v σ H Q := by
  obtain ⟨a, l, s, Z, μ, S, r, L, G⟩ := h
  refine G _ (L.set r hf) fun w => ?_
  by_cases hw : i ∈ w
  · exact .inl (wipe_set hw)
  · exact .inr fun z => hw (z i (by simp))
def gs (is : List Nat) : TGs := match is with
  | [] => gNil
  | i :: r => gCons (gName i) (gs r)
theorem gs_run : ∀ (is : List Nat) (as : List A) (vs : List V) (l : Loc) (σ : St) (H : Hp) (Q : St → Hp → Prop), (∀ i ∈ is, N.free i) → VRs N.K N.fa Z μ H as vs → as.length = is.length → LR N Z μ H l σ →
    (∀ σ', LR N Z μ H (setAll is as l) σ' → (∀ w, L2.wipe σ' w = L2.wipe σ w ∨ ¬ ∀ i ∈ is, i ∈ w) → Q σ' H) → gs is vs σ H Q
  | [], as, vs, l, σ, H, Q, hf, r, hl, L, q => by
    have : as = [] := List.length_eq_zero_iff.mp hl
    subst this
    simp only [VRs] at r
    exact ⟨r, q σ L fun w => .inl rfl⟩
  | i :: is, [], vs, l, σ, H, Q, hf, r, hl, L, q => by cases hl
  | i :: is, a :: as, vs, l, σ, H, Q, hf, r, hl, L, q => by
    simp only [VRs] at r
    obtain ⟨v, r', rfl, h1, h2⟩ := r
    refine ⟨v, r', rfl, ?_⟩
    refine gs_run is as r' (l.set i (some a)) (σ.set i (some v)) H Q (fun j hj => hf j (List.mem_cons_of_mem _ hj)) h2 (by simpa using hl) (L.set h1 (hf i (List.mem_cons_self ..))) fun σ' L' hw => q σ' L' fun w => ?_
    rcases hw w with h | h
    · by_cases hi : i ∈ w
      · exact .inl (h.trans (wipe_set hi))
      · exact .inr fun z => hi (z i (List.mem_cons_self ..))
    · exact .inr fun z => h fun j hj => z j (List.mem_cons_of_mem _ hj)
theorem g_tp {is : List Nat} (hf : ∀ i ∈ is, N.free i) (v : V) (σ : St) (H : Hp) (Q : St → Hp → Prop) (h : gT N (.tp is) v σ H Q) : gTup N.K is.length (gs is) v σ H Q ∨ gLst N.K is.length (gs is) v σ H Q := by
  obtain ⟨a, l, s, Z, μ, S, r, L, G⟩ := h
  have fin : ∀ as vs, VRs N.K N.fa Z μ H as vs → seqOf s a = some as → vs.length = is.length ∧ gs is vs σ H Q := by
    intro as vs rs e
    simp only [bindT, e, kBind] at G
    by_cases hl : as.length = is.length
    · simp only [hl, if_true] at G
      exact ⟨by rw [rs.length, hl], gs_run is as vs l σ H Q hf rs hl L G⟩
    · simp only [hl, if_false] at G
  cases e : seqOf s a with
  | none => simp only [bindT, e, kBind] at G
  | some as =>
    obtain ⟨p, vs, rfl, h1, h2⟩ := seq_read S r e
    obtain ⟨k1, k2⟩ := fin as vs h2 e
    rcases h1 with h1 | h1
    · exact .inr ⟨p, vs, rfl, h1, k1, k2⟩
    · exact .inl ⟨p, vs, rfl, h1, k1, k2⟩
theorem t_asg {t : T} {e : E} (D : Ends) (σ : St) (H : Hp) (h : tS1 N Γ W (.asg t e) D σ H) : L2.tAsg (tE N Γ W e) (gT N t) D σ H := by
  obtain ⟨l, s, Z, μ, S, L, G⟩ := h
  replace G : GoodF N W Z μ H ((evE Γ e l s).fl l (kAsg l t)) D := G
  refine ⟨l, s, Z, μ, S, L, GoodF.fl G S L fun a s1 μ1 H1 v _ e1 S1 r1 L1 G1 => ⟨a, l, s1, Z, μ1, S1, r1, L1, ?_⟩⟩
  replace G1 : GoodF N W Z μ1 H1 (kNx (bindT t a l s1) s1) D := G1
  cases hb : bindT t a l s1 with
  | none => rw [hb] at G1; exact False.elim G1
  | some l' => rw [hb] at G1; exact fun σ' L' _ => G1 μ1 H1 σ' (Ext.refl _ _) S1 L'
/-- o[i] = e -/
theorem t_sub {o i e : E} (D : Ends) (σ : St) (H : Hp) (h : tS1 N Γ W (.sub o i e) D σ H) : L2.tAsg (tE N Γ W e) (L2.gSub (tE N Γ W o) (tE N Γ W i) (fun o i v H Q => ∃ a b c s Z μ W σ, SR N.K N.fa N.cv Z μ s H ∧ VR N.K N.fa Z μ H a o ∧ VR N.K N.fa Z μ H b i ∧ VR N.K N.fa Z μ H c v ∧
    match subA a b c s with | some s' => Good N (fun (_ : List Addr) (_ : Hp) (_ : Unit) (_ : Unit) => True) W Z μ H σ (.ok () s') (fun _ => Q) | none => False)) D σ H := by
  obtain ⟨l, s, Z, μ, S, L, G⟩ := h
  replace G : GoodF N W Z μ H ((evE Γ e l s).fl l (kSub1 (evE Γ o) (evE Γ i) l)) D := G
  refine ⟨l, s, Z, μ, S, L, GoodF.fl G S L fun c s1 μ1 H1 v _ e1 S1 r1 L1 G1 => ?_⟩
  replace G1 : GoodF N W Z μ1 H1 ((evE Γ o l s1).fl l (kSub2 (evE Γ i) l c)) D := G1
  refine ⟨l, s1, Z, μ1, S1, L1, GoodF.fl G1 S1 L1 fun a s2 μ2 H2 w _ e2 S2 r2 L2 G2 => ?_⟩
  replace G2 : GoodF N W Z μ2 H2 ((evE Γ i l s2).fl l (kSub3 l c a)) D := G2
  refine ⟨l, s2, Z, μ2, S2, L2, GoodF.fl G2 S2 L2 fun b s3 μ3 H3 u _ e3 S3 r3 L3 G3 => ?_⟩
  replace G3 : GoodF N W Z μ3 H3 (kSto l (subA a b c s3)) D := G3
  refine ⟨a, b, c, s3, Z, μ3, W, σ, S3, VR.stay (e3.stay S2.noTup) _ _ r2, r3, VR.stay ((e2.trans e3).stay S1.noTup) _ _ r1, ?_⟩
  cases hs : subA a b c s3 with
  | none => rw [hs] at G3; exact False.elim G3
  | some s' => rw [hs] at G3; exact fun μ' H' _ e4 S4 _ => G3 μ' H' σ e4 S4 (Good.lr S3 L3 e4)
/-- o.f = e -/
theorem t_fld {o e : E} {f : String} (nf : ∀ c C, N.cv c = some (.ref C) → L2.NoAttr N.K C (Str.ofString f)) (D : Ends) (σ : St) (H : Hp) (h : tS1 N Γ W (.fld o f e) D σ H) : L2.sFld N.K (tE N Γ W o) (tE N Γ W e) (Str.ofString f) D σ H := by
  obtain ⟨l, s, Z, μ, S, L, G⟩ := h
  replace G : GoodF N W Z μ H ((evE Γ e l s).fl l (kFld1 (evE Γ o) l f)) D := G
  refine ⟨l, s, Z, μ, S, L, GoodF.fl G S L fun c s1 μ1 H1 v _ e1 S1 r1 L1 G1 => ?_⟩
  replace G1 : GoodF N W Z μ1 H1 ((evE Γ o l s1).fl l (kFld2 l f c)) D := G1
  refine ⟨l, s1, Z, μ1, S1, L1, GoodF.fl G1 S1 L1 fun a s2 μ2 H2 w _ e2 S2 r2 Lb G2 => ?_⟩
  cases a with
  | ref n =>
    simp only [VR] at r2
    obtain ⟨p, rfl, hp⟩ := r2
    replace G2 : GoodF N W Z μ2 H2 (kFld3 l f c n s2[n]? s2) D := G2
    cases e3 : s2[n]? with
    | none => rw [e3] at G2; exact False.elim G2
    | some cc =>
      obtain ⟨q, h2, hc⟩ := S2.cell n cc e3
      obtain rfl : p = q := Option.some.inj (hp.symm.trans h2)
      rw [e3] at G2
      cases cc with
      | ins cl fs =>
        obtain ⟨C, dx, vs, h3, h4, h5, h6, h7⟩ := hc
        replace G2 : GoodF N W Z μ2 H2 (if fs.length < 1000 then .nx l (s2.set n (.ins cl (fput fs f c))) else .bad) D := G2
        by_cases hl : fs.length < 1000
        · rw [if_pos hl] at G2
          refine ⟨p, C, dx, vs, rfl, h4, h6, nf cl C h3, by rw [h5.len]; exact hl, ?_⟩
          have e : Ext μ2 H2 μ2 (upd H2 p (.ins C dx (L2.putF (Str.ofString f) v vs))) := Ext.mut (List.mem_of_getElem? hp) h4 rfl (by simp)
          have r1' := VR.stay (e2.stay S1.noTup) _ _ r1
          refine G2 μ2 _ σ e (S2.mut hp h4 rfl (by simp) ⟨C, dx, _, h3, upd_same, VRf.stay (e.stay S2.noTup) _ _ (h5.put r1'), h6, fun g hg => ?_⟩) (Good.lr S2 Lb e)
          rcases fput_keys fs f c g hg with h | h
          · subst h; exact nf cl C h3
          · exact h7 g h
        · rw [if_neg hl] at G2; exact False.elim G2
      | lst as => exact False.elim G2
      | dct t ks => exact False.elim G2
      | lck t ks => exact False.elim G2
  | _ => exact False.elim G2
/-- while -/
theorem t_whl {c : E} {b : List S} {ks : List Nat} (D : Ends) (σ : St) (H : Hp) (h : tS1 N Γ W (.whl c b ks) D σ H) : L2.tWhile (tB (tE N Γ W c)) (tSs N Γ W b) D σ H := by
  obtain ⟨l, s, Z, μ, S, L, G⟩ := h
  replace G : GoodF N W Z μ H (whileR (evE Γ c) (evSs Γ b) ks l s) D := G
  by_cases hx : ∃ n r, whileN (evE Γ c) (evSs Γ b) ks n l s = some r
  · obtain ⟨n, r, e⟩ := hx
    rw [whileR_of e] at G
    refine ⟨fun m σ H => ∃ l s Z μ r, SR N.K N.fa N.cv Z μ s H ∧ LR N Z μ H l σ ∧ whileN (evE Γ c) (evSs Γ b) ks m l s = some r ∧ GoodF N W Z μ H r D, ⟨n, l, s, Z, μ, r, S, L, e, G⟩, ?_⟩
    rintro m σ1 H1 ⟨l1, s1, Z1, μ1, r1, S1, L1, e1, G1⟩
    cases m with
    | zero => cases e1
    | succ m =>
      refine ⟨l1, s1, Z1, μ1, S1, L1, ?_⟩
      unfold whileN at e1
      cases hc : evE Γ c l1 s1 with
      | bad => rw [hc] at e1; cases e1; exact False.elim G1
      | exc x s2 =>
        rw [hc] at e1
        cases e1
        exact fun μ2 H2 cl d e2 S2 x2 => G1 μ2 H2 σ1 cl d e2 S2 (Good.lr S1 L1 e2) x2
      | ok a s2 =>
        rw [hc] at e1
        intro μ2 H2 v e2 S2 r2
        have L2' := Good.lr S1 L1 e2
        cases a with
        | bl d =>
          simp only [VR] at r2
          refine ⟨d, r2, ?_⟩
          have G2 := GoodF.later e2 G1
          cases d with
          | false =>
            dsimp only
            rw [if_neg (by decide)]
            simp only [Bool.false_eq_true, if_false] at e1
            cases e1
            exact G2 μ2 H2 σ1 (Ext.refl _ _) S2 (L2'.kill ks)
          | true =>
            dsimp only
            rw [if_pos rfl]
            simp only [if_true] at e1
            refine ⟨fun σ' H' => ∃ l s Z μ r, SR N.K N.fa N.cv Z μ s H' ∧ LR N Z μ H' l σ' ∧ whileN (evE Γ c) (evSs Γ b) ks m l s = some r ∧ GoodF N W Z μ H' r D, fun σ' H' w => ⟨m, Nat.lt_succ_self m, w⟩, l1, s2, Z1, μ2, S2, L2', ?_⟩
            cases hb : evSs Γ b l1 s2 with
            | nx l3 s3 => rw [hb] at e1; exact fun μ3 H3 σ3 e3 S3 L3 => ⟨kill ks l3, s3, Z1, μ3, r1, S3, L3.kill ks, e1, GoodF.later e3 G2⟩
            | cnt l3 s3 => rw [hb] at e1; exact fun μ3 H3 σ3 e3 S3 L3 => ⟨kill ks l3, s3, Z1, μ3, r1, S3, L3.kill ks, e1, GoodF.later e3 G2⟩
            | brk l3 s3 => rw [hb] at e1; cases e1; exact fun μ3 H3 σ3 e3 S3 L3 => G2 μ3 H3 σ3 e3 S3 (L3.kill ks)
            | ret a s3 => rw [hb] at e1; cases e1; exact G2
            | exc x l3 s3 => rw [hb] at e1; cases e1; exact G2
            | bad => rw [hb] at e1; cases e1; exact False.elim G2
        | _ => (cases e1; exact False.elim G1)
  · unfold whileR at G
    rw [dif_neg hx] at G
    exact False.elim G
end
end Py

set_option autoImplicit false
set_option linter.all false
set_option Elab.async false
set_option maxRecDepth 100000
set_option maxHeartbeats 4000000
/-! PyS6: walks, comprehensions, methods of built-in types. -/
namespace Py
open PySem
open L2 (V Hp HO Rd SqL SqT Cx Inv PE PT PA PS PSs PG PGs PI TE TT TA TS TG TGs TI It Ends VK XK WX St Room upd upd_same upd_ne ne_of_none Key kV RelV Vals R2 OpR UnR CallR tOp Dp DpAll rI rI0 EP MtR IxR PSet PW Gl tB tAndV tOrV tNotV tAnd tOr tNot Takes FnOk Binds Sp PassesAt WE gName gNil gCons gTup gLst Itl Itt Itr)
/-- the walk J goes through the items, as long as they stand -/
def ItR (N : Nm) (Z μ0 : List Addr) (H0 : Hp) (k : IK) (as items : List A) (J : It) : Prop := ∀ (Z' : List Addr), (∀ p ∈ Z', p ∈ Z ∨ H0 p = none) → ∀ (i : Nat) (μ : List Addr) (s : Sto) (H : Hp), Ext μ0 H0 μ H → SR N.K N.fa N.cv Z' μ s H → itA k as s = some items →
  (items.length ≤ i → J.stop i H) ∧ ∀ a, items[i]? = some a → J.go i H ∧ ∀ x H', J.yld i H x H' → Ext μ H μ H' ∧ SR N.K N.fa N.cv Z' μ s H' ∧ VR N.K N.fa Z' μ H' a x
def tI (N : Nm) (Γ : Env) (W : WX) (k : IK) (es : List E) : TI := fun σ H R => ∃ l s Z μ, SR N.K N.fa N.cv Z μ s H ∧ LR N Z μ H l σ ∧
  Good N (fun μ H as (p : List A × List V) => as = p.1 ∧ VRs N.K N.fa Z μ H as p.2) W Z μ H σ (evEs Γ es l s) (fun p H1 => ∃ s1 μ1 items, SR N.K N.fa N.cv Z μ1 s1 H1 ∧ VRs N.K N.fa Z μ1 H1 p.1 p.2 ∧ itA k p.1 s1 = some items ∧ ∀ J, ItR N Z μ1 H1 k p.1 items J → R J H1)
theorem pi_imp {X : Cx} {tg it : Expr} {t t' : TI} (h : PI X tg it t) (i : ∀ σ H R, t' σ H R → t σ H R) : PI X tg it t' := ⟨fun pins s σ H R I q => h.run pins s σ H R I (i σ H R q)⟩
theorem pi_or {X : Cx} {tg it : Expr} {t t' : TI} (h : PI X tg it t) (h' : PI X tg it t') : PI X tg it (fun σ H R => t σ H R ∨ t' σ H R) := ⟨fun pins s σ H R I q => by
  rcases q with q | q
  · exact h.run pins s σ H R I q
  · exact h'.run pins s σ H R I q⟩
section
variable {N : Nm} {Γ : Env} {W : WX} {Z μ μ' : List Addr} {H H' : Hp} {σ : St} {s : Sto} {l : Loc} {D : Ends}
theorem upFrom_len (lo c : Int) : ∀ n, (upFrom lo c n).length = n
  | 0 => rfl
  | n + 1 => by simp [upFrom, upFrom_len (lo + c) c n]
theorem upFrom_get (c : Int) : ∀ (n i : Nat) (lo : Int), i < n → (upFrom lo c n)[i]? = some (.int (lo + i * c))
  | n + 1, 0, lo, _ => by simp [upFrom]
  | n + 1, i + 1, lo, h => by
    simp only [upFrom, List.getElem?_cons_succ]
    rw [upFrom_get c n i (lo + c) (by omega)]
    congr 2
    push_cast
    rw [Int.add_mul, Int.one_mul]
    omega
/-- range -/
theorem it_rng {items : List A} {lo : Int} {as : List A} {k : IK} {n : Nat} (h : ∀ s items, itA k as s = some items → items = upFrom lo 1 n) : ItR N Z μ H k as items (Itr lo n) := by
  intro Z' hz i μ s H e S hi
  have := h s items hi
  subst this
  refine ⟨fun q => by rw [upFrom_len] at q; exact q, fun a q => ?_⟩
  have hn : i < n := by have := (List.getElem?_eq_some_iff.mp q).1; rwa [upFrom_len] at this
  rw [upFrom_get 1 n i lo hn] at q
  cases q
  refine ⟨hn, fun x H' y => ?_⟩
  obtain ⟨rfl, rfl⟩ := y
  exact ⟨Ext.refl _ _, S, by simp [VR]⟩
theorem t_rng1 {e : E} (σ : St) (H : Hp) (R : It → Hp → Prop) (h : tI N Γ W .rng [e] σ H R) : L2.iRng1 (tEs N Γ W [e]) σ H R := by
  obtain ⟨l, s, Z, μ, S, L, G⟩ := h
  refine ⟨l, s, Z, μ, S, L, ?_⟩
  revert G
  cases hc : evEs Γ [e] l s with
  | bad => exact fun G => G
  | exc x s => exact fun G => G
  | ok as s1 =>
    intro G μ1 H1 vs e1 S1 r1
    obtain ⟨s2, μ2, items, S2, r2, hi, hJ⟩ := G μ1 H1 (as, vs) e1 S1 ⟨rfl, r1⟩
    have hl := evEs_len [e] l s s1 as hc
    match as, hl, hi, hJ, r2 with
    | [a], _, hi, hJ, r2 =>
      cases a with
      | int j =>
        simp only [VRs, VR] at r2
        obtain ⟨v, r, e2, rfl, rfl⟩ := r2
        obtain rfl : vs = [.int j] := e2
        have hb : inB j := by
          by_cases hb : inB j
          · exact hb
          · simp [itA, hb] at hi
        refine ⟨j, rfl, hb.1, hb.2, hJ _ (it_rng fun s items h => ?_)⟩
        replace h : (if inB j then some (upFrom 0 1 j.toNat) else none) = some items := h
        rw [if_pos hb] at h
        exact (Option.some.inj h).symm
      | _ => simp [itA] at hi
theorem t_rng2 {e f : E} (σ : St) (H : Hp) (R : It → Hp → Prop) (h : tI N Γ W .rng [e, f] σ H R) : L2.iRng2 (tEs N Γ W [e, f]) σ H R := by
  obtain ⟨l, s, Z, μ, S, L, G⟩ := h
  refine ⟨l, s, Z, μ, S, L, ?_⟩
  revert G
  cases hc : evEs Γ [e, f] l s with
  | bad => exact fun G => G
  | exc x s => exact fun G => G
  | ok as s1 =>
    intro G μ1 H1 vs e1 S1 r1
    obtain ⟨s2, μ2, items, S2, r2, hi, hJ⟩ := G μ1 H1 (as, vs) e1 S1 ⟨rfl, r1⟩
    have hl := evEs_len [e, f] l s s1 as hc
    match as, hl, hi, hJ, r2 with
    | [a, b], _, hi, hJ, r2 =>
      cases a with
      | int i =>
        cases b with
        | int j =>
          simp only [VRs, VR] at r2
          obtain ⟨v, r, e2, rfl, v2, r', rfl, rfl, rfl⟩ := r2
          obtain rfl : vs = [.int i, .int j] := e2
          have hb : inB i ∧ inB j := by
            by_cases hb : inB i ∧ inB j
            · exact hb
            · simp [itA, hb] at hi
          refine ⟨i, j, rfl, ⟨hb.1.1, hb.1.2, hb.2.1, hb.2.2⟩, hJ _ (it_rng fun s items h => ?_)⟩
          replace h : (if inB i ∧ inB j then some (upFrom i 1 (j - i).toNat) else none) = some items := h
          rw [if_pos hb] at h
          exact (Option.some.inj h).symm
        | _ => simp [itA] at hi
      | _ => simp [itA] at hi
/-- a list, a tuple -/
theorem it_lst {all : List A} {a : A} {p : Addr} (hr : ∀ Z' μ' s' H' items, (∀ p ∈ Z', p ∈ Z ∨ H p = none) → Ext μ H μ' H' → SR N.K N.fa N.cv Z' μ' s' H' → itS a s' = some items → ∃ vs, SqL N.K H' p vs ∧ VRs N.K N.fa Z' μ' H' items vs) : ItR N Z μ H .seq [a] all (Itl N.K p) := by
  intro Z' hz i μ' s' H' e S hi
  obtain ⟨vs, h1, h2⟩ := hr Z' μ' s' H' all hz e S hi
  refine ⟨fun q => ⟨vs, h1, by rw [h2.length]; exact q⟩, fun a q => ?_⟩
  obtain ⟨v, k1, k2⟩ := h2.get q
  refine ⟨⟨vs, v, h1, k1⟩, fun x H2 y => ?_⟩
  obtain ⟨rfl, y⟩ := y
  have := y vs h1
  rw [k1] at this
  cases this
  exact ⟨Ext.refl _ _, S, k2⟩
theorem it_tup {all : List A} {a : A} {p : Addr} (hr : ∀ Z' μ' s' H' items, (∀ p ∈ Z', p ∈ Z ∨ H p = none) → Ext μ H μ' H' → SR N.K N.fa N.cv Z' μ' s' H' → itS a s' = some items → ∃ vs, SqT N.K H' p vs ∧ VRs N.K N.fa Z' μ' H' items vs) : ItR N Z μ H .seq [a] all (Itt N.K p) := by
  intro Z' hz i μ' s' H' e S hi
  obtain ⟨vs, h1, h2⟩ := hr Z' μ' s' H' all hz e S hi
  refine ⟨fun q => ⟨vs, h1, by rw [h2.length]; exact q⟩, fun a q => ?_⟩
  obtain ⟨v, k1, k2⟩ := h2.get q
  refine ⟨⟨vs, v, h1, k1⟩, fun x H2 y => ?_⟩
  obtain ⟨rfl, y⟩ := y
  have := y vs h1
  rw [k1] at this
  cases this
  exact ⟨Ext.refl _ _, S, k2⟩
theorem it_txt {all : List A} {x : List Nat} (hx : strOk x) : ItR N Z μ H .seq [.str x] all (L2.Its (toS x)) := by
  intro Z' hz i μ' s' H' e S hi
  cases hi
  refine ⟨fun q => by show (toS x).cps.size ≤ i; simpa [toS] using q, fun a q => ?_⟩
  rw [List.getElem?_map] at q
  obtain ⟨c, hc, rfl⟩ := Option.map_eq_some_iff.mp q
  have hl : i < x.length := (List.getElem?_eq_some_iff.mp hc).1
  refine ⟨by simpa [L2.Its, toS] using hl, fun v H2 y => ?_⟩
  obtain ⟨rfl, d, hd, rfl⟩ := y
  have : d = c := by
    have hd' : x[i]? = some d := by simpa [toS] using hd
    rw [hc] at hd'
    exact (Option.some.inj hd').symm
  subst this
  refine ⟨Ext.refl _ _, S, ?_⟩
  simp only [VR]
  refine ⟨trivial, by simp [big], fun c' h' => ?_⟩
  rw [List.mem_singleton.mp h']
  exact hx.2 _ (List.mem_of_getElem? hc)
theorem t_iseq {e : E} (σ : St) (H : Hp) (R : It → Hp → Prop) (h : tI N Γ W .seq [e] σ H R) : L2.iList N.K (tE N Γ W e) σ H R ∨ L2.iTup N.K (tE N Γ W e) σ H R ∨ L2.iStr (tE N Γ W e) σ H R := by
  obtain ⟨l, s, Z, μ, S, L, G⟩ := h
  have en : evEs Γ [e] l s = (evE Γ e l s).bind (kCons1 (evEs Γ []) l) := rfl
  rw [en] at G
  cases hc : evE Γ e l s with
  | bad => rw [hc] at G; exact False.elim G
  | exc x s2 => rw [hc] at G; exact .inl ⟨l, s, Z, μ, S, L, by rw [hc]; exact G⟩
  | ok a s1 =>
    rw [hc] at G
    replace G : Good N (fun μ H as (p : List A × List V) => as = p.1 ∧ VRs N.K N.fa Z μ H as p.2) W Z μ H σ (.ok [a] s1) (fun p H1 => ∃ s1 μ1 items, SR N.K N.fa N.cv Z μ1 s1 H1 ∧ VRs N.K N.fa Z μ1 H1 p.1 p.2 ∧ itA .seq p.1 s1 = some items ∧ ∀ J, ItR N Z μ1 H1 .seq p.1 items J → R J H1) := G
    have at_ : ∀ μ1 H1 v, Ext μ H μ1 H1 → SR N.K N.fa N.cv Z μ1 s1 H1 → VR N.K N.fa Z μ1 H1 a v → ∃ s1 μ1 items, SR N.K N.fa N.cv Z μ1 s1 H1 ∧ VRs N.K N.fa Z μ1 H1 [a] [v] ∧ itA .seq [a] s1 = some items ∧ ∀ J, ItR N Z μ1 H1 .seq [a] items J → R J H1 := fun μ1 H1 v e1 S1 r1 => G μ1 H1 ([a], [v]) e1 S1 ⟨rfl, VRs.one r1⟩
    have nope : (∀ s, itS a s = none) → L2.iList N.K (tE N Γ W e) σ H R := fun hn => by
      refine ⟨l, s, Z, μ, S, L, ?_⟩
      rw [hc]
      intro μ1 H1 v e1 S1 r1
      obtain ⟨s2, μ2, items, S2, r2, hi, hJ⟩ := at_ μ1 H1 v e1 S1 r1
      replace hi : itS a s2 = some items := hi
      rw [hn] at hi
      cases hi
    cases a with
    | lst xs =>
      refine .inl ⟨l, s, Z, μ, S, L, ?_⟩
      rw [hc]
      intro μ1 H1 v e1 S1 r1
      obtain ⟨s2, μ2, items, S2, r2, hi, hJ⟩ := at_ μ1 H1 v e1 S1 r1
      obtain ⟨w, r, e2, r2, rfl⟩ := (show ∃ w r, [v] = w :: r ∧ VR N.K N.fa Z μ2 H1 (.lst xs) w ∧ r = [] by simpa [VRs] using r2)
      cases e2
      have r3 := r2
      simp only [VR] at r2
      obtain ⟨p, vs, rfl, h1, h2⟩ := r2
      refine ⟨p, rfl, ⟨vs, h1.sq⟩, hJ _ (it_lst fun Z' μ' s' H' items hz e S hi => ?_)⟩
      have r4 := VR.stay (e.stayZ S2.noTup hz) _ _ r3
      simp only [VR] at r4
      obtain ⟨p', vs', e5, h3, h4⟩ := r4
      cases e5
      cases hi
      exact ⟨vs', h3.sq, h4⟩
    | tup xs =>
      refine .inr (.inl ⟨l, s, Z, μ, S, L, ?_⟩)
      rw [hc]
      intro μ1 H1 v e1 S1 r1
      obtain ⟨s2, μ2, items, S2, r2, hi, hJ⟩ := at_ μ1 H1 v e1 S1 r1
      obtain ⟨w, r, e2, r2, rfl⟩ := (show ∃ w r, [v] = w :: r ∧ VR N.K N.fa Z μ2 H1 (.tup xs) w ∧ r = [] by simpa [VRs] using r2)
      cases e2
      have r3 := r2
      simp only [VR] at r2
      obtain ⟨p, vs, rfl, h1, h2⟩ := r2
      refine ⟨p, rfl, ⟨vs, .inl (.inl h1)⟩, hJ _ (it_tup fun Z' μ' s' H' items hz e S hi => ?_)⟩
      have r4 := VR.stay (e.stayZ S2.noTup hz) _ _ r3
      simp only [VR] at r4
      obtain ⟨p', vs', e5, h3, h4⟩ := r4
      cases e5
      cases hi
      exact ⟨vs', .inl (.inl h3), h4⟩
    | ctp xs =>
      refine .inr (.inl ⟨l, s, Z, μ, S, L, ?_⟩)
      rw [hc]
      intro μ1 H1 v e1 S1 r1
      obtain ⟨s2, μ2, items, S2, r2, hi, hJ⟩ := at_ μ1 H1 v e1 S1 r1
      obtain ⟨w, r, e2, r2, rfl⟩ := (show ∃ w r, [v] = w :: r ∧ VR N.K N.fa Z μ2 H1 (.ctp xs) w ∧ r = [] by simpa [VRs] using r2)
      cases e2
      have r3 := r2
      simp only [VR] at r2
      obtain ⟨p, vs, rfl, h1, h2⟩ := r2
      refine ⟨p, rfl, ⟨vs, .inr h1⟩, hJ _ (it_tup fun Z' μ' s' H' items hz e S hi => ?_)⟩
      cases hi
      exact ⟨vs, .inr h1, CVs.vrs h2⟩
    | ref n =>
      -- the kind at s1
      cases e3 : s1[n]? with
      | none =>
        refine .inl ⟨l, s, Z, μ, S, L, ?_⟩
        rw [hc]
        intro μ1 H1 v e1 S1 r1
        exfalso
        simp only [VR] at r1
        obtain ⟨p, rfl, hp⟩ := r1
        have hl : n < μ1.length := (List.getElem?_eq_some_iff.mp hp).1
        rw [S1.len] at hl
        rw [List.getElem?_eq_getElem hl] at e3
        cases e3
      | some c =>
        cases c with
        | lst xs =>
          refine .inl ⟨l, s, Z, μ, S, L, ?_⟩
          rw [hc]
          intro μ1 H1 v e1 S1 r1
          obtain ⟨s2, μ2, items, S2, r2, hi, hJ⟩ := at_ μ1 H1 v e1 S1 r1
          obtain ⟨w, r, e2, r2, rfl⟩ := (show ∃ w r, [v] = w :: r ∧ VR N.K N.fa Z μ2 H1 (.ref n) w ∧ r = [] by simpa [VRs] using r2)
          cases e2
          simp only [VR] at r1 r2
          obtain ⟨p, rfl, hp⟩ := r1
          obtain ⟨p2, e4, hp2⟩ := r2
          cases e4
          obtain ⟨q, h2, hcq⟩ := S1.cell n _ e3
          obtain rfl : p = q := Option.some.inj (hp.symm.trans h2)
          obtain ⟨vs, h3, h4⟩ := hcq
          refine ⟨p, rfl, ⟨vs, .inl (.inl h3)⟩, hJ _ (it_lst fun Z' μ' s' H' items hz e S hi => ?_)⟩
          have hi' : kIt s'[n]? = some items := hi
          cases e6 : s'[n]? with
          | none => rw [e6] at hi'; cases hi'
          | some c2 =>
            rw [e6] at hi'
            obtain ⟨q, h5, h6⟩ := S.cell n c2 e6
            obtain rfl : p = q := Option.some.inj ((e.at hp2).symm.trans h5)
            obtain ⟨o', h7, h8⟩ := e.kd p _ h3
            cases c2 with
            | lst ys => cases hi'; obtain ⟨vs', k1, k2⟩ := h6; exact ⟨vs', .inl (.inl k1), k2⟩
            | dct t ks => cases hi'
            | lck t ks => cases hi'
            | ins c fs => cases hi'
        | dct t ks =>
          refine .inl ⟨l, s, Z, μ, S, L, ?_⟩
          rw [hc]
          intro μ1 H1 v e1 S1 r1
          exfalso
          obtain ⟨s2, μ2, items, S2, r2, hi, hJ⟩ := at_ μ1 H1 v e1 S1 r1
          obtain ⟨w, r, e2, r2, rfl⟩ := (show ∃ w r, [v] = w :: r ∧ VR N.K N.fa Z μ2 H1 (.ref n) w ∧ r = [] by simpa [VRs] using r2)
          cases e2
          simp only [VR] at r1 r2
          obtain ⟨p, rfl, hp⟩ := r1
          obtain ⟨p2, e4, hp2⟩ := r2
          cases e4
          obtain ⟨q, h2, hcq⟩ := S1.cell n _ e3
          obtain rfl : p = q := Option.some.inj (hp.symm.trans h2)
          have h3 : (∃ vs, H1 p = some (.dK vs)) ∨ ∃ vs, H1 p = some (.dT vs) := by cases t <;> (obtain ⟨vs, h3, _⟩ := hcq) <;> first | exact .inl ⟨vs, h3⟩ | exact .inr ⟨vs, h3⟩
          have hi' : kIt s2[n]? = some items := hi
          cases e6 : s2[n]? with
          | none => rw [e6] at hi'; cases hi'
          | some c2 =>
            rw [e6] at hi'
            obtain ⟨q, h5, h6⟩ := S2.cell n c2 e6
            obtain rfl : p = q := Option.some.inj (hp2.symm.trans h5)
            cases c2 with
            | lst ys => obtain ⟨vs', k1, k2⟩ := h6; rw [k1] at h3; rcases h3 with ⟨_, h3⟩ | ⟨_, h3⟩ <;> cases h3
            | dct t ks => cases hi'
            | lck t ks => cases hi'
            | ins c fs => cases hi'
        | lck t ks =>
          refine .inl ⟨l, s, Z, μ, S, L, ?_⟩
          rw [hc]
          intro μ1 H1 v e1 S1 r1
          exfalso
          obtain ⟨s2, μ2, items, S2, r2, hi, hJ⟩ := at_ μ1 H1 v e1 S1 r1
          obtain ⟨w, r, e2, r2, rfl⟩ := (show ∃ w r, [v] = w :: r ∧ VR N.K N.fa Z μ2 H1 (.ref n) w ∧ r = [] by simpa [VRs] using r2)
          cases e2
          simp only [VR] at r1 r2
          obtain ⟨p, rfl, hp⟩ := r1
          obtain ⟨p2, e4, hp2⟩ := r2
          cases e4
          obtain ⟨q, h2, hcq⟩ := S1.cell n _ e3
          obtain rfl : p = q := Option.some.inj (hp.symm.trans h2)
          have h3 : (∃ od vs, H1 p = some (.frz od (.dK vs))) ∨ ∃ od vs, H1 p = some (.frz od (.dT vs)) := by cases t <;> (obtain ⟨od, vs, h3, _⟩ := hcq) <;> first | exact .inl ⟨od, vs, h3⟩ | exact .inr ⟨od, vs, h3⟩
          have hi' : kIt s2[n]? = some items := hi
          cases e6 : s2[n]? with
          | none => rw [e6] at hi'; cases hi'
          | some c2 =>
            rw [e6] at hi'
            obtain ⟨q, h5, h6⟩ := S2.cell n c2 e6
            obtain rfl : p = q := Option.some.inj (hp2.symm.trans h5)
            cases c2 with
            | lst ys => obtain ⟨vs', k1, k2⟩ := h6; rw [k1] at h3; rcases h3 with ⟨_, _, h3⟩ | ⟨_, _, h3⟩ <;> cases h3
            | dct t ks => cases hi'
            | lck t ks => cases hi'
            | ins c fs => cases hi'
        | ins c fs =>
          refine .inl ⟨l, s, Z, μ, S, L, ?_⟩
          rw [hc]
          intro μ1 H1 v e1 S1 r1
          exfalso
          obtain ⟨s2, μ2, items, S2, r2, hi, hJ⟩ := at_ μ1 H1 v e1 S1 r1
          obtain ⟨w, r, e2, r2, rfl⟩ := (show ∃ w r, [v] = w :: r ∧ VR N.K N.fa Z μ2 H1 (.ref n) w ∧ r = [] by simpa [VRs] using r2)
          cases e2
          simp only [VR] at r1 r2
          obtain ⟨p, rfl, hp⟩ := r1
          obtain ⟨p2, e4, hp2⟩ := r2
          cases e4
          obtain ⟨q, h2, hcq⟩ := S1.cell n _ e3
          obtain rfl : p = q := Option.some.inj (hp.symm.trans h2)
          obtain ⟨C, dx, vs, _, h3, _⟩ := hcq
          have hi' : kIt s2[n]? = some items := hi
          cases e6 : s2[n]? with
          | none => rw [e6] at hi'; cases hi'
          | some c2 =>
            rw [e6] at hi'
            obtain ⟨q, h5, h6⟩ := S2.cell n c2 e6
            obtain rfl : p = q := Option.some.inj (hp2.symm.trans h5)
            cases c2 with
            | lst ys => obtain ⟨vs', k1, k2⟩ := h6; rw [k1] at h3; cases h3
            | dct t ks => cases hi'
            | lck t ks => cases hi'
            | ins c fs => cases hi'
    | str x =>
      refine .inr (.inr ⟨l, s, Z, μ, S, L, ?_⟩)
      rw [hc]
      intro μ1 H1 v e1 S1 r1
      obtain ⟨s2, μ2, items, S2, r2, hi, hJ⟩ := at_ μ1 H1 v e1 S1 r1
      simp only [VR] at r1
      refine ⟨toS x, r1.1, hJ _ (it_txt r1.2)⟩
    | dct t ks => exact .inl (nope fun _ => rfl)
    | non => exact .inl (nope fun _ => rfl)
    | bl b => exact .inl (nope fun _ => rfl)
    | int i => exact .inl (nope fun _ => rfl)
    | fn f => exact .inl (nope fun _ => rfl)
theorem for_nk {tg : T} {k : IK} {as : List A} {ks : List Nat} {g : Loc → Sto → Fl} {all : List A} (hk : k ≠ .keys) : kFor2 l tg k as ks g (some all) s = forL tg k as ks g all all l s := by
  cases k <;> first | rfl | exact absurd rfl hk
/-- for -/
theorem t_for {t : T} {k : IK} {es : List E} {b : List S} {ks : List Nat} (hk : k ≠ .keys) (D : Ends) (σ : St) (H : Hp) (h : tS1 N Γ W (.forr t k es b ks) D σ H) : L2.tFor (tI N Γ W k es) (gT N t) (tSs N Γ W b) D σ H := by
  obtain ⟨l, s, Z, μ, S, L, G⟩ := h
  replace G : GoodF N W Z μ H ((evEs Γ es l s).fl l (kFor l t k ks (evSs Γ b))) D := G
  refine ⟨l, s, Z, μ, S, L, GoodF.fl G S L fun as s1 μ1 H1 p _ e1 S1 r1 L1 G1 => ?_⟩
  obtain ⟨as', vs⟩ := p
  obtain ⟨rfl, r1⟩ := r1
  replace G1 : GoodF N W Z μ1 H1 (kFor2 l t k as ks (evSs Γ b) (itA k as s1) s1) D := G1
  cases hi : itA k as s1 with
  | none => rw [hi] at G1; exact False.elim G1
  | some all =>
    rw [hi] at G1
    replace G1 : GoodF N W Z μ1 H1 (forL t k as ks (evSs Γ b) all all l s1) D := by rw [← for_nk hk]; exact G1
    refine ⟨s1, μ1, all, S1, r1, hi, fun J hJ => ?_⟩
    refine ⟨fun i m σ H => m + i = all.length ∧ ∃ l s μ, Ext μ1 H1 μ H ∧ SR N.K N.fa N.cv Z μ s H ∧ LR N Z μ H l σ ∧ itA k as s = some all ∧ GoodF N W Z μ H (forL t k as ks (evSs Γ b) all (all.drop i) l s) D, ⟨all.length, by omega, l, s1, μ1, Ext.refl _ _, S1, L1, hi, by simpa using G1⟩, ?_⟩
    rintro i m σ2 H2 ⟨hm, l2, s2, μ2, e2, S2, L2', hi2, G2⟩
    obtain ⟨j1, j2⟩ := hJ Z (fun _ h => .inl h) i μ2 s2 H2 e2 S2 hi2
    cases hx : all[i]? with
    | none =>
      have hl : all.length ≤ i := List.getElem?_eq_none_iff.mp hx
      refine .inl ⟨j1 hl, ?_⟩
      rw [List.drop_eq_nil_of_le hl] at G2
      exact G2 μ2 H2 σ2 (Ext.refl _ _) S2 (L2'.kill ks)
    | some a =>
      have hl : i < all.length := (List.getElem?_eq_some_iff.mp hx).1
      obtain ⟨go, yl⟩ := j2 a hx
      have hd : all.drop i = a :: all.drop (i + 1) := by
        rw [List.drop_eq_getElem_cons hl]
        congr 1
        rw [List.getElem?_eq_getElem hl] at hx
        exact Option.some.inj hx
      rw [hd] at G2
      replace G2 : GoodF N W Z μ2 H2 (kLoop ks (kAgain all k as ks (forL t k as ks (evSs Γ b) all (all.drop (i + 1)))) (kTurnF (evSs Γ b) (bindT t a l2 s2) s2)) D := G2
      refine .inr ⟨go, fun σ H => (m - 1) + (i + 1) = all.length ∧ ∃ l s μ, Ext μ1 H1 μ H ∧ SR N.K N.fa N.cv Z μ s H ∧ LR N Z μ H l σ ∧ itA k as s = some all ∧ GoodF N W Z μ H (forL t k as ks (evSs Γ b) all (all.drop (i + 1)) l s) D, fun σ' H' w => ⟨m - 1, by omega, w⟩, fun x H3 y => ?_⟩
      obtain ⟨e3, S3, r3⟩ := yl x H3 y
      have G3 := GoodF.later e3 G2
      refine ⟨a, l2, s2, Z, μ2, S3, r3, Good.lr S2 L2' e3, ?_⟩
      cases hb : bindT t a l2 s2 with
      | none => rw [hb] at G3; exact False.elim G3
      | some l3 =>
        rw [hb] at G3
        replace G3 : GoodF N W Z μ2 H3 (kLoop ks (kAgain all k as ks (forL t k as ks (evSs Γ b) all (all.drop (i + 1)))) (evSs Γ b l3 s2)) D := G3
        intro σ3 L3 _
        refine ⟨l3, s2, Z, μ2, S3, L3, ?_⟩
        have again : ∀ l4 s4, GoodF N W Z μ2 H3 (kAgain all k as ks (forL t k as ks (evSs Γ b) all (all.drop (i + 1))) l4 s4) D → ∀ μ' H' σ', Ext μ2 H3 μ' H' → SR N.K N.fa N.cv Z μ' s4 H' → LR N Z μ' H' l4 σ' → (m - 1) + (i + 1) = all.length ∧ ∃ l s μ, Ext μ1 H1 μ H' ∧ SR N.K N.fa N.cv Z μ s H' ∧ LR N Z μ H' l σ' ∧ itA k as s = some all ∧ GoodF N W Z μ H' (forL t k as ks (evSs Γ b) all (all.drop (i + 1)) l s) D := by
          intro l4 s4 G4 μ4 H4 σ4 e4 S4 L4
          by_cases hg : itA k as s4 = some all
          · simp only [kAgain, hg, if_true] at G4
            exact ⟨by omega, kill ks l4, s4, μ4, (e2.trans e3).trans e4, S4, L4.kill ks, hg, GoodF.later e4 G4⟩
          · simp only [kAgain, hg, if_false] at G4
            exact False.elim G4
        cases hr : evSs Γ b l3 s2 with
        | nx l4 s4 => rw [hr] at G3; exact again l4 s4 G3
        | cnt l4 s4 => rw [hr] at G3; exact again l4 s4 G3
        | brk l4 s4 => rw [hr] at G3; exact fun μ4 H4 σ4 e4 S4 L4 => G3 μ4 H4 σ4 e4 S4 (L4.kill ks)
        | ret a s4 => rw [hr] at G3; exact G3
        | exc x l4 s4 => rw [hr] at G3; exact G3
        | bad => rw [hr] at G3; exact False.elim G3
end
end Py

set_option autoImplicit false
set_option linter.all false
set_option Elab.async false
set_option maxRecDepth 100000
set_option maxHeartbeats 4000000
/-! PyS7: comprehensions, methods of built-in types, isinstance. -/
namespace Py
open PySem
open L2 (V Hp HO Rd SqL SqT Cx Inv PE PT PA PS PSs PG PGs PI TE TT TA TS TG TGs TI It Ends VK XK WX St Room upd upd_same upd_ne ne_of_none Key kV RelV Vals R2 OpR UnR CallR tOp Dp DpAll rI rI0 EP MtR IxR PSet PW Gl tB tAndV tOrV tNotV tAnd tOr tNot Takes FnOk Binds Sp PassesAt WE gName gNil gCons gTup gLst Itl Itt Itr)
abbrev WF : WX := fun _ _ _ _ => False
section
variable {N : Nm} {Γ : Env} {W : WX} {Z μ μ' : List Addr} {H H' : Hp} {σ : St} {s : Sto} {l : Loc} {D : Ends}
theorem kill_get : ∀ (is : List Nat) (l : Loc) (i : Nat) (a : A), (kill is l)[i]? = some (some a) → i ∉ is ∧ l[i]? = some (some a)
  | [], l, i, a, h => ⟨by simp, h⟩
  | j :: is, l, i, a, h => by
    obtain ⟨h1, h2⟩ := kill_get is (l.set j none) i a h
    by_cases e : j = i
    · subst e
      exfalso
      by_cases hl : j < l.length
      · rw [List.getElem?_set_self hl] at h2; cases h2
      · rw [List.getElem?_eq_none (by simpa using hl)] at h2; cases h2
    · rw [List.getElem?_set_ne e] at h2
      exact ⟨by simp only [List.mem_cons, not_or]; exact ⟨fun z => e z.symm, h1⟩, h2⟩
theorem kill_len : ∀ (is : List Nat) (l : Loc), (kill is l).length = l.length
  | [], l => rfl
  | j :: is, l => by
    have : kill (j :: is) l = kill is (l.set j none) := rfl
    rw [this, kill_len is, List.length_set]
theorem LR.wiped {own : List Nat} (hf : ∀ i ∈ own, N.free i) (L : LR N Z μ H l σ) : LR N Z μ H (Py.kill own l) (L2.wipe σ own) :=
  ⟨by rw [kill_len, L2.wipe_length]; exact L.len, fun i a h => by
    obtain ⟨h1, h2⟩ := kill_get own l i a h
    obtain ⟨v, h3, h4⟩ := L.at_ i a h2
    exact ⟨v, by rw [L2.wipe_out h1]; exact h3, h4⟩, by
    have k := L.kill own |>.xf
    revert k
    unfold XF Nm.free at *
    cases hn : N.xs with
    | none => exact id
    | some x =>
      refine fun ⟨k1, k2⟩ => ⟨k1, fun j hj => ⟨?_, (k2 j hj).2⟩⟩
      rw [L2.wipe_out (fun z => hf j z x hn hj)]
      exact (k2 j hj).1⟩
theorem wipe_idem (w : List Nat) (σ : St) : L2.wipe (L2.wipe σ w) w = L2.wipe σ w := by
  apply List.ext_getElem?
  intro i
  by_cases h : i ∈ w
  · have none_at : ∀ (w : List Nat) (σ : St), i ∈ w → ∀ x, (L2.wipe σ w)[i]? ≠ some (some x) := fun w σ h x e => (L2.wipe_some e).2 h
    have len : (L2.wipe (L2.wipe σ w) w).length = (L2.wipe σ w).length := by rw [L2.wipe_length]
    cases e1 : (L2.wipe (L2.wipe σ w) w)[i]? with
    | none =>
      have := List.getElem?_eq_none_iff.mp e1
      rw [len] at this
      exact (List.getElem?_eq_none_iff.mpr this).symm
    | some o =>
      have hl := (List.getElem?_eq_some_iff.mp e1).1
      rw [len] at hl
      cases o with
      | some x => exact absurd e1 (none_at w _ h x)
      | none =>
        cases e2 : (L2.wipe σ w)[i]? with
        | none => exact absurd (List.getElem?_eq_none_iff.mp e2) (by omega)
        | some o =>
          cases o with
          | some x => exact absurd e2 (none_at w _ h x)
          | none => rfl
  · rw [L2.wipe_out h]
/-- the reserved thing is written -/
theorem Stay.res {p : Addr} {o0 o1 : HO} (hz : p ∈ Z) (h0 : H p = some o0) (ht : ∀ vs, o0 ≠ .tup vs) : Stay (K := N.K) Z μ H Z μ (upd H p o1) where
  tup := fun q vs h => by
    rw [upd_ne]
    · exact h
    · rintro rfl
      rw [h0] at h
      exact ht vs (Option.some.inj h)
  lst := fun q vs h => by
    rcases h with ⟨h1, h2, h3⟩ | h
    · exact .inl ⟨Rd.upd h1 (by rintro rfl; exact h3 hz), h2, h3⟩
    · exact .inr h
  dk := fun q kvs h1 h2 h3 => ⟨Rd.upd h1 (by rintro rfl; exact h3 hz), h2, h3⟩
  dt := fun q kvs h1 h2 h3 => ⟨Rd.upd h1 (by rintro rfl; exact h3 hz), h2, h3⟩
  at_ := fun n q h => h
  xd := fun q fs h1 h2 h3 => ⟨by rw [upd_ne (by rintro rfl; exact h3 hz)]; exact h1, h2, h3⟩
theorem SR.resW {p : Addr} {o0 o1 : HO} (S : SR N.K N.fa N.cv Z μ s H) (hz : p ∈ Z) (h0 : H p = some o0) (ht : ∀ vs, o0 ≠ .tup vs) : SR N.K N.fa N.cv Z μ s (upd H p o1) := by
  have hm : p ∉ μ := fun z => S.apart p z hz
  refine ⟨S.nd, S.len, fun n c hc => ?_, fun q hq => ?_, S.apart⟩
  · obtain ⟨q, h1, h2⟩ := S.cell n c hc
    refine ⟨q, h1, CR.stay (Stay.res (N := N) hz h0 ht) (fun o ho => ?_) h2⟩
    rw [upd_ne (by rintro rfl; exact hm (List.mem_of_getElem? h1))]
    exact ho
  · by_cases e : q = p
    · subst e; rw [upd_same]; simp
    · rw [upd_ne e]; exact S.res q hq
/-- the reserve is left -/
theorem Stay.leave {p : Addr} (Z' : List Addr) (h : ∀ q ∈ Z', q ∈ p :: Z) : Stay (K := N.K) (p :: Z) μ H Z' μ H where
  tup := fun _ _ h => h
  lst := fun q vs k => by
    rcases k with ⟨h1, h2, h3⟩ | k
    · exact .inl ⟨h1, h2, fun z => h3 (h q z)⟩
    · exact .inr k
  dk := fun q kvs h1 h2 h3 => ⟨h1, h2, fun z => h3 (h q z)⟩
  dt := fun q kvs h1 h2 h3 => ⟨h1, h2, fun z => h3 (h q z)⟩
  at_ := fun _ _ h => h
  xd := fun q fs h1 h2 h3 => ⟨h1, h2, fun z => h3 (h q z)⟩
/-- .. and the list is of the store -/
theorem Stay.adopt {p : Addr} : Stay (K := N.K) (p :: Z) μ H Z (μ ++ [p]) H where
  tup := fun _ _ h => h
  lst := fun q vs k => by
    rcases k with ⟨h1, h2, h3⟩ | k
    · refine .inl ⟨h1, fun z => ?_, fun z => h3 (List.mem_cons_of_mem _ z)⟩
      rcases List.mem_append.mp z with z | z
      · exact h2 z
      · rw [List.mem_singleton.mp z] at h3; exact h3 (List.mem_cons_self ..)
    · exact .inr k
  dk := fun q kvs h1 h2 h3 => ⟨h1, fun z => by
    rcases List.mem_append.mp z with z | z
    · exact h2 z
    · rw [List.mem_singleton.mp z] at h3; exact h3 (List.mem_cons_self ..), fun z => h3 (List.mem_cons_of_mem _ z)⟩
  dt := fun q kvs h1 h2 h3 => ⟨h1, fun z => by
    rcases List.mem_append.mp z with z | z
    · exact h2 z
    · rw [List.mem_singleton.mp z] at h3; exact h3 (List.mem_cons_self ..), fun z => h3 (List.mem_cons_of_mem _ z)⟩
  at_ := fun n q h => by rw [List.getElem?_append_left (List.getElem?_eq_some_iff.mp h).1]; exact h
  xd := fun q fs h1 h2 h3 => ⟨h1, fun z => by
    rcases List.mem_append.mp z with z | z
    · exact h2 z
    · rw [List.mem_singleton.mp z] at h3; exact h3 (List.mem_cons_self ..), fun z => h3 (List.mem_cons_of_mem _ z)⟩
theorem SR.leave {p : Addr} (S : SR N.K N.fa N.cv (p :: Z) μ s H) : SR N.K N.fa N.cv Z μ s H :=
  ⟨S.nd, S.len, fun n c hc => let ⟨q, h1, h2⟩ := S.cell n c hc; ⟨q, h1, CR.stay (Stay.leave Z fun q h => List.mem_cons_of_mem _ h) (fun _ h => h) h2⟩, fun q hq => S.res q (List.mem_cons_of_mem _ hq), fun q hq z => S.apart q hq (List.mem_cons_of_mem _ z)⟩
theorem SR.adoptC {p : Addr} {c : Cell} (S : SR N.K N.fa N.cv (p :: Z) μ s H) (hc : CR N.K N.fa N.cv Z (μ ++ [p]) H p c) (hz : p ∉ Z) : SR N.K N.fa N.cv Z (μ ++ [p]) (s ++ [c]) H := by
  have pm : p ∉ μ := fun z => S.apart p z (List.mem_cons_self ..)
  have st : Stay (K := N.K) (p :: Z) μ H Z (μ ++ [p]) H := Stay.adopt
  refine ⟨?_, by simp [S.len], fun n c' hc' => ?_, fun q hq => S.res q (List.mem_cons_of_mem _ hq), fun q hq z => ?_⟩
  · rw [List.nodup_append]
    exact ⟨S.nd, by simp, fun a ha b hb => by rw [List.mem_singleton.mp hb]; rintro rfl; exact pm ha⟩
  · by_cases hn : n < s.length
    · rw [List.getElem?_append_left hn] at hc'
      obtain ⟨q, h1, h2⟩ := S.cell n c' hc'
      exact ⟨q, by rw [List.getElem?_append_left (List.getElem?_eq_some_iff.mp h1).1]; exact h1, CR.stay st (fun _ h => h) h2⟩
    · have hn' : n = s.length := by
        have := (List.getElem?_eq_some_iff.mp hc').1
        simp at this; omega
      subst hn'
      simp at hc'
      subst hc'
      exact ⟨p, by rw [← S.len]; simp, hc⟩
  · rcases List.mem_append.mp hq with w | w
    · exact S.apart q w (List.mem_cons_of_mem _ z)
    · rw [List.mem_singleton.mp w] at z; exact hz z
theorem SR.adopt {p : Addr} {ys : List A} {vs : List V} (S : SR N.K N.fa N.cv (p :: Z) μ s H) (h0 : H p = some (.lst vs)) (r : VRs N.K N.fa (p :: Z) μ H ys vs) (hz : p ∉ Z) : SR N.K N.fa N.cv Z (μ ++ [p]) (s ++ [.lst ys]) H :=
  S.adoptC ⟨vs, h0, VRs.stay Stay.adopt _ _ r⟩ hz
/-- entering: a fresh thing is reserved -/
theorem SR.enter {p : Addr} {o : HO} (S : SR N.K N.fa N.cv Z μ s H) (h : H p = none) : SR N.K N.fa N.cv (p :: Z) μ s (upd H p o) := by
  have st : Stay (K := N.K) Z μ H (p :: Z) μ (upd H p o) := (Ext.new h).stayZ S.noTup fun q hq => by
    rcases List.mem_cons.mp hq with e | e
    · subst e; exact .inr h
    · exact .inl e
  refine ⟨S.nd, S.len, fun n c hc => ?_, fun q hq => ?_, fun q hq z => ?_⟩
  · obtain ⟨q, h1, h2⟩ := S.cell n c hc
    exact ⟨q, h1, CR.stay st (fun o ho => by rw [upd_ne (ne_of_none ho h)]; exact ho) h2⟩
  · rcases List.mem_cons.mp hq with e | e
    · subst e; rw [upd_same]; simp
    · rw [upd_ne (fun z => S.res q e (by rw [z]; exact h))]; exact S.res q e
  · rcases List.mem_cons.mp z with e | e
    · subst e; exact S.tracked hq h
    · exact S.apart q hq e
def tC (N : Nm) (Γ : Env) (W : WX) (c : Option E) : TT := match c with
  | none => L2.tYes
  | some e => tB (tE N Γ W e)
theorem Ext.res {p : Addr} {o : HO} {μ1 : List Addr} {H1 : Hp} (e : Ext μ H μ1 H1) (h : H p = none) : Ext μ H μ1 (upd H1 p o) :=
  ⟨e.pre, fun q u hq hn => by rw [upd_ne (ne_of_none hq h)]; exact e.keep q u hq hn, fun q ob u hq => by rw [upd_ne (ne_of_none hq h)]; exact e.fz q ob u hq, fun q u hq => by
    obtain ⟨u', h1, h2⟩ := e.kd q u hq
    exact ⟨u', by rw [upd_ne (ne_of_none hq h)]; exact h1, h2⟩⟩
theorem lc_nk {fe : Loc → Sto → R A} {ft : Loc → Sto → R Bool} {tg : T} {k : IK} {as : List A} {fz : Bool} {all : List A} (hk : k ≠ .keys) : kLc2 fe ft tg k as l fz (some all) s = if all.length ≤ big then (compL fe ft tg k as l all all s).bind (kMkL fz) else .bad := by
  cases k <;> first | rfl | exact absurd rfl hk
theorem t_lc {fz : Bool} {elt : E} {tg : T} {k : IK} {es : List E} {c : Option E} {own : List Nat} (hf : ∀ i ∈ own, N.free i) (hk : k ≠ .keys) (hown : ∀ i ∈ (match tg with | .nm i => [i] | .tp is => is), i ∈ own) (σ : St) (H : Hp) (Q : VK) (h : tE N Γ W (.lcomp fz elt tg k es c own) σ H Q) :
    L2.tLc (tI N Γ W k es) (gT N tg) (tC N Γ WF c) (tE N Γ WF elt) own σ H Q := by
  obtain ⟨l, s, Z, μ, S, L, G⟩ := h
  replace G : GoodE N W Z μ H σ ((evEs Γ es l s).bind (kLc (evE Γ elt) (evC Γ c) tg k (kill own l) fz)) Q := G
  refine ⟨l, s, Z, μ, S, L, Good.bind G fun as s1 μ1 H1 p _ e1 S1 r1 G1 => ?_⟩
  obtain ⟨as', vs⟩ := p
  obtain ⟨rfl, r1⟩ := r1
  have L1 := Good.lr S L e1
  replace G1 : GoodE N W Z μ1 H1 σ (kLc2 (evE Γ elt) (evC Γ c) tg k as (kill own l) fz (itA k as s1) s1) Q := G1
  cases hi : itA k as s1 with
  | none => rw [hi] at G1; exact False.elim G1
  | some all =>
    rw [hi] at G1
    replace G1 : GoodE N W Z μ1 H1 σ (if all.length ≤ big then (compL (evE Γ elt) (evC Γ c) tg k as (kill own l) all all s1).bind (kMkL fz) else .bad) Q := by rw [← lc_nk hk]; exact G1
    obtain ⟨hz, G1⟩ := iteR G1
    refine ⟨s1, μ1, all, S1, r1, hi, fun J hJ Dl hD => ?_⟩
    have hDz : Dl ∉ Z := fun z => S1.res Dl z hD
    cases htot : compL (evE Γ elt) (evC Γ c) tg k as (kill own l) all all s1 with
    | bad => rw [htot] at G1; exact False.elim G1
    | exc x s2 =>
      exfalso
      have noexc : ∀ (xs : List A) (s : Sto) (x : Exn) (s2 : Sto), compL (evE Γ elt) (evC Γ c) tg k as (kill own l) all xs s ≠ .exc x s2 := by
        intro xs s x s2 e
        cases xs with
        | nil => cases e
        | cons y ys =>
          simp only [compL] at e
          split at e
          · unfold kMore at e
            split at e
            · split at e <;> cases e
            · cases e
          · cases e
      exact noexc _ _ _ _ htot
    | ok tot sE =>
    rw [htot] at G1
    replace G1 : GoodE N W Z μ1 H1 σ (mkL fz tot sE) Q := G1
    refine ⟨fun i m H => m + i = all.length ∧ ∃ s μ ys acc, Ext μ1 H1 μ H ∧ SR N.K N.fa N.cv (Dl :: Z) μ s H ∧ H Dl = some (.lst acc) ∧ VRs N.K N.fa (Dl :: Z) μ H ys acc ∧ acc.length ≤ i ∧ itA k as s = some all ∧
      ∃ zs, compL (evE Γ elt) (evC Γ c) tg k as (kill own l) all (all.drop i) s = .ok zs sE ∧ ys ++ zs = tot, ⟨all.length, by omega, s1, μ1, [], [], Ext.new hD, S1.enter hD, upd_same, by simp [VRs], by simp, hi, tot, by rw [List.drop_zero]; exact htot, rfl⟩, ?_⟩
    · rintro i m H2 ⟨hm, s2, μ2, ys, acc, e2, S2, hacc, racc, hlen, hi2, zs, hc, htz⟩
      have hDm : Dl ∉ μ2 := fun z => S2.apart Dl z (List.mem_cons_self ..)
      obtain ⟨j1, j2⟩ := hJ (Dl :: Z) (fun p hp => by
        rcases List.mem_cons.mp hp with e | e
        · subst e; exact .inr hD
        · exact .inl e) i μ2 s2 H2 e2 S2 hi2
      cases hx : all[i]? with
      | none =>
        have hl : all.length ≤ i := List.getElem?_eq_none_iff.mp hx
        refine .inl ⟨j1 hl, ?_⟩
        rw [List.drop_eq_nil_of_le hl] at hc
        simp only [compL] at hc
        cases hc
        rw [List.append_nil] at htz
        subst htz
        cases fz with
        | true =>
          replace G1 : GoodE N W Z μ1 H1 σ (.ok (.lst ys) sE) Q := G1
          refine G1 μ2 H2 (.ref Dl) e2 S2.leave ?_
          simp only [VR]
          exact ⟨Dl, acc, rfl, .inl ⟨.inl hacc, hDm, hDz⟩, VRs.stay (Stay.leave Z fun q h => List.mem_cons_of_mem _ h) _ _ racc⟩
        | false =>
          replace G1 : GoodE N W Z μ1 H1 σ (.ok (.ref sE.length) (sE ++ [.lst ys])) Q := G1
          refine G1 (μ2 ++ [Dl]) H2 (.ref Dl) ?_ (S2.adopt hacc racc hDz) ?_
          · obtain ⟨⟨ν, q1, q2⟩, q3, q4, q5⟩ := e2
            refine ⟨⟨ν ++ [Dl], by rw [q1, List.append_assoc], fun p hp => ?_⟩, q3, q4, q5⟩
            rcases List.mem_append.mp hp with z | z
            · exact q2 p z
            · rw [List.mem_singleton.mp z]; exact hD
          · simp only [VR]
            exact ⟨Dl, rfl, by rw [← S2.len]; simp⟩
      | some a =>
        have hl : i < all.length := (List.getElem?_eq_some_iff.mp hx).1
        obtain ⟨go, yl⟩ := j2 a hx
        have hd : all.drop i = a :: all.drop (i + 1) := by
          rw [List.drop_eq_getElem_cons hl]
          congr 1
          rw [List.getElem?_eq_getElem hl] at hx
          exact Option.some.inj hx
        rw [hd] at hc
        simp only [compL] at hc
        refine .inr ⟨go, fun H => (m - 1) + (i + 1) = all.length ∧ ∃ s μ ys acc, Ext μ1 H1 μ H ∧ SR N.K N.fa N.cv (Dl :: Z) μ s H ∧ H Dl = some (.lst acc) ∧ VRs N.K N.fa (Dl :: Z) μ H ys acc ∧ acc.length ≤ i + 1 ∧ itA k as s = some all ∧
          ∃ zs, compL (evE Γ elt) (evC Γ c) tg k as (kill own l) all (all.drop (i + 1)) s = .ok zs sE ∧ ys ++ zs = tot, fun H' w => ⟨m - 1, by omega, w⟩, fun x H3 y => ?_⟩
        obtain ⟨e3, S3, r3⟩ := yl x H3 y
        have L3 : LR N (Dl :: Z) μ2 H3 (kill own l) (L2.wipe σ own) := by
          have q1 := L1.wiped (own := own) hf
          exact q1.stay ((e2.trans e3).stayZ S1.noTup fun p hp => by
            rcases List.mem_cons.mp hp with e | e
            · subst e; exact .inr hD
            · exact .inl e)
        refine ⟨a, kill own l, s2, Dl :: Z, μ2, S3, r3, L3, ?_⟩
        cases hb : bindT tg a (kill own l) s2 with
        | none => rw [hb] at hc; simp [kTurn] at hc
        | some l4 =>
          rw [hb] at hc
          intro σ4 L4 hw
          have hw2 : L2.wipe σ4 own = L2.wipe σ own := by
            rcases hw own with h | h
            · rw [h, wipe_idem]
            · exact absurd hown h
          refine ⟨hw2, ?_⟩
          have D3 : H3 Dl = some (.lst acc) := e3.keep Dl _ hacc hDm
          -- what the turn gives
          have turn : ∃ o s4, kTurn (evE Γ elt) (evC Γ c) (some l4) s2 = .ok o s4 ∧ itA k as s4 = some all ∧ ∃ zs' , compL (evE Γ elt) (evC Γ c) tg k as (kill own l) all (all.drop (i + 1)) s4 = .ok zs' sE ∧ zs = o.toList ++ zs' := by
            cases ht : kTurn (evE Γ elt) (evC Γ c) (some l4) s2 with
            | ok o s4 =>
              rw [ht] at hc
              simp only [kMore] at hc
              by_cases hg : itA k as s4 = some all
              · rw [if_pos hg] at hc
                cases hr : compL (evE Γ elt) (evC Γ c) tg k as (kill own l) all (all.drop (i + 1)) s4 with
                | ok zs' s5 => rw [hr] at hc; cases hc; exact ⟨o, s4, rfl, hg, zs', hr, rfl⟩
                | exc x s5 => rw [hr] at hc; cases hc
                | bad => rw [hr] at hc; cases hc
              · rw [if_neg hg] at hc; cases hc
            | exc x s4 => rw [ht] at hc; cases hc
            | bad => rw [ht] at hc; cases hc
          obtain ⟨o, s4, ht, hg, zs', hr, rfl⟩ := turn
          replace ht : (evC Γ c l4 s2).bind (kElt (evE Γ elt) l4) = .ok o s4 := ht
          have skip : o = none → ∀ μ4 H4, Ext μ2 H3 μ4 H4 → SR N.K N.fa N.cv (Dl :: Z) μ4 s4 H4 → (m - 1) + (i + 1) = all.length ∧ ∃ s μ ys acc, Ext μ1 H1 μ H4 ∧ SR N.K N.fa N.cv (Dl :: Z) μ s H4 ∧ H4 Dl = some (.lst acc) ∧ VRs N.K N.fa (Dl :: Z) μ H4 ys acc ∧ acc.length ≤ i + 1 ∧ itA k as s = some all ∧
              ∃ zs, compL (evE Γ elt) (evC Γ c) tg k as (kill own l) all (all.drop (i + 1)) s = .ok zs sE ∧ ys ++ zs = tot := by
            intro ho μ4 H4 e4 S4
            subst ho
            have eX := e3.trans e4
            exact ⟨by omega, s4, μ4, ys, acc, e2.trans eX, S4, e4.keep Dl _ D3 hDm, VRs.stay (eX.stay S2.noTup) _ _ racc, by omega, hg, zs', hr, by simpa using htz⟩
          have take : ∀ y, o = some y → ∀ μ4 H4 v, Ext μ2 H3 μ4 H4 → SR N.K N.fa N.cv (Dl :: Z) μ4 s4 H4 → VR N.K N.fa (Dl :: Z) μ4 H4 y v → ∃ acc, H4 Dl = some (.lst acc) ∧ acc.length < sizeLine ∧ ((m - 1) + (i + 1) = all.length ∧ ∃ s μ ys acc', Ext μ1 H1 μ (upd H4 Dl (.lst (acc ++ [v]))) ∧ SR N.K N.fa N.cv (Dl :: Z) μ s (upd H4 Dl (.lst (acc ++ [v]))) ∧ (upd H4 Dl (.lst (acc ++ [v]))) Dl = some (.lst acc') ∧ VRs N.K N.fa (Dl :: Z) μ (upd H4 Dl (.lst (acc ++ [v]))) ys acc' ∧ acc'.length ≤ i + 1 ∧ itA k as s = some all ∧
              ∃ zs, compL (evE Γ elt) (evC Γ c) tg k as (kill own l) all (all.drop (i + 1)) s = .ok zs sE ∧ ys ++ zs = tot) := by
            intro y ho μ4 H4 v e4 S4 r4
            subst ho
            have eX := e3.trans e4
            have D4 : H4 Dl = some (.lst acc) := e4.keep Dl _ D3 hDm
            have st := Stay.res (N := N) (μ := μ4) (o1 := .lst (acc ++ [v])) (List.mem_cons_self (a := Dl) (l := Z)) D4 (by simp)
            exact ⟨acc, D4, by rw [← big_line]; omega, by omega, s4, μ4, ys ++ [y], acc ++ [v], (e2.trans eX).res hD, S4.resW (List.mem_cons_self ..) D4 (by simp), upd_same, VRs.stay st _ _ ((VRs.stay (eX.stay S2.noTup) _ _ racc).append (VRs.one r4)), by simp; omega, hg, zs', hr, by rw [← htz]; simp⟩
          have elt_ : ∀ μ4 H4 s5, Ext μ2 H3 μ4 H4 → SR N.K N.fa N.cv (Dl :: Z) μ4 s5 H4 → (evE Γ elt l4 s5).bind kSome = .ok o s4 → tE N Γ WF elt σ4 H4 fun y H5 => ∃ acc, H5 Dl = some (.lst acc) ∧ acc.length < sizeLine ∧ ((m - 1) + (i + 1) = all.length ∧ ∃ s μ ys acc', Ext μ1 H1 μ (upd H5 Dl (.lst (acc ++ [y]))) ∧ SR N.K N.fa N.cv (Dl :: Z) μ s (upd H5 Dl (.lst (acc ++ [y]))) ∧ (upd H5 Dl (.lst (acc ++ [y]))) Dl = some (.lst acc') ∧ VRs N.K N.fa (Dl :: Z) μ (upd H5 Dl (.lst (acc ++ [y]))) ys acc' ∧ acc'.length ≤ i + 1 ∧ itA k as s = some all ∧
              ∃ zs, compL (evE Γ elt) (evC Γ c) tg k as (kill own l) all (all.drop (i + 1)) s = .ok zs sE ∧ ys ++ zs = tot) := by
            intro μ4 H4 s5 e4 S4 hev
            refine ⟨l4, s5, Dl :: Z, μ4, S4, Good.lr S3 L4 e4, ?_⟩
            cases he : evE Γ elt l4 s5 with
            | bad => rw [he] at hev; cases hev
            | exc x s6 => rw [he] at hev; cases hev
            | ok y s6 =>
              rw [he] at hev
              cases hev
              exact fun μ5 H5 v e5 S5 r5 => take y rfl μ5 H5 v (e4.trans e5) S5 r5
          cases c with
          | none => exact elt_ μ2 H3 s2 (Ext.refl _ _) S3 ht
          | some cc =>
            show tB (tE N Γ WF cc) σ4 H3 _
            refine ⟨l4, s2, Dl :: Z, μ2, S3, L4, ?_⟩
            replace ht : ((evE Γ cc l4 s2).bind kTest).bind (kElt (evE Γ elt) l4) = .ok o s4 := ht
            cases hcc : evE Γ cc l4 s2 with
            | bad => rw [hcc] at ht; cases ht
            | exc x s6 => rw [hcc] at ht; cases ht
            | ok b s5 =>
              rw [hcc] at ht
              cases b with
              | bl d =>
                replace ht : kElt (evE Γ elt) l4 d s5 = .ok o s4 := ht
                intro μ4 H4 v e4 S4 r4
                simp only [VR] at r4
                refine ⟨d, r4, ?_⟩
                cases d with
                | true =>
                  rw [if_pos rfl]
                  exact elt_ μ4 H4 s5 e4 S4 (by simpa [kElt] using ht)
                | false =>
                  rw [if_neg (by decide)]
                  have ho : o = none ∧ s5 = s4 := by
                    simp only [kElt, Bool.false_eq_true, if_false] at ht
                    cases ht
                    exact ⟨rfl, rfl⟩
                  obtain ⟨ho, rfl⟩ := ho
                  exact skip ho μ4 H4 e4 S4
              | _ => cases ht
end
end Py

set_option autoImplicit false
set_option linter.all false
set_option Elab.async false
set_option maxRecDepth 100000
set_option maxHeartbeats 4000000
/-! PyC: slices, chained comparisons. -/
namespace Py
open PySem
open L2 (V Hp HO Rd SqL SqT Cx Inv PE PT PA PS PSs PG PGs PI TE TT TA TS TG TGs TI It Ends VK XK WX St Room upd upd_same upd_ne ne_of_none Key kV RelV Vals R2 OpR UnR CallR tOp Dp DpAll rI rI0 EP MtR IxR PSet PW Gl tB PO TO SlR)
section
variable {N : Nm} {Γ : Env} {W : WX} {X : Cx}
theorem VRs.drop {Z μ : List Addr} {H : Hp} : ∀ (n : Nat) {as : List A} {vs : List V}, VRs N.K N.fa Z μ H as vs → VRs N.K N.fa Z μ H (as.drop n) (vs.drop n)
  | 0, as, vs, h => h
  | n + 1, [], vs, h => by simp only [VRs] at h; subst h; simp [VRs]
  | n + 1, a :: as, vs, h => by
    simp only [VRs] at h
    obtain ⟨v, r, rfl, h1, h2⟩ := h
    exact VRs.drop n h2
theorem VRs.take {Z μ : List Addr} {H : Hp} : ∀ (n : Nat) {as : List A} {vs : List V}, VRs N.K N.fa Z μ H as vs → VRs N.K N.fa Z μ H (as.take n) (vs.take n)
  | 0, as, vs, h => by simp [VRs]
  | n + 1, [], vs, h => by simp only [VRs] at h; subst h; simp [VRs]
  | n + 1, a :: as, vs, h => by
    simp only [VRs] at h
    obtain ⟨v, r, rfl, h1, h2⟩ := h
    simp only [List.take_succ_cons, VRs]
    exact ⟨v, _, rfl, h1, VRs.take n h2⟩
theorem sIx_eq (n d : Nat) (o : Option Int) : HT.sIx n d o = sIx n d o := by cases o <;> rfl
theorem VRs.cut {Z μ : List Addr} {H : Hp} {as : List A} {vs : List V} (lo hi : Option Int) (h : VRs N.K N.fa Z μ H as vs) : VRs N.K N.fa Z μ H (Py.cut as lo hi) (L2.cutV vs lo hi) := by
  unfold Py.cut L2.cutV
  rw [sIx_eq, sIx_eq, h.length]
  exact VRs.take _ (VRs.drop _ h)
theorem slr_imp {r r' : V → Option Int → Option Int → Hp → VK → Prop} (h : SlR X r) (i : ∀ x lo hi H Q, r' x lo hi H Q → r x lo hi H Q) : SlR X r' := fun pins s σ H x v vl vu lo hi sl Q I rx hs pl pu q => h pins s σ H x v vl vu lo hi sl Q I rx hs pl pu (i x lo hi H Q q)
def rCut (N : Nm) (fz : Bool) : V → Option Int → Option Int → Hp → VK → Prop := fun x lo hi H Q => ∃ a s Z μ W σ, SR N.K N.fa N.cv Z μ s H ∧ VR N.K N.fa Z μ H a x ∧ GoodE N W Z μ H σ (cutA fz a lo hi s) Q
theorem x_cut {fz : Bool} (hK : X.K = N.K) : SlR X (rCut N fz) := by
  refine slr_imp (L2.SlR.or L2.sl_str (L2.SlR.or L2.sl_tupA L2.sl_list)) fun x lo hi H Q => ?_
  rw [hK]
  rintro ⟨a, s, Z, μ, W, σ, S, ra, G⟩
  have lst : ∀ as, lstOf s a = some as → GoodE N W Z μ H σ (mkL fz (Py.cut as lo hi) s) Q → L2.rSlL N.K x lo hi H Q := by
    intro as e G
    obtain ⟨p, vs, rfl, h1, h2⟩ := lst_read S ra e
    exact ⟨p, vs, rfl, h1.sq, Good.mkL S (VRs.cut lo hi h2) G⟩
  cases a with
  | str z =>
    simp only [VR] at ra
    obtain ⟨rfl, hz⟩ := ra
    replace G : GoodE N W Z μ H σ (.ok (.str (Py.cut z lo hi)) s) Q := G
    refine .inl ⟨toS z, rfl, by rw [toS_len, ← big_line]; exact hz.1, G.here S ?_⟩
    simp only [VR]
    refine ⟨?_, ?_, fun c hc => hz.2 c ?_⟩
    · unfold L2.cutS Py.cut
      congr 1
    · unfold Py.cut
      have := hz.1
      rw [List.length_take, List.length_drop]
      omega
    · unfold Py.cut at hc
      exact List.mem_of_mem_drop (List.mem_of_mem_take hc)
  | tup as =>
    simp only [VR] at ra
    obtain ⟨p, vs, rfl, h1, h2⟩ := ra
    replace G : GoodE N W Z μ H σ (.ok (.tup (Py.cut as lo hi)) s) Q := G
    refine .inr (.inl ⟨p, vs, rfl, .inl (.inl h1), fun hw => ?_, fun _ => Good.mkT S (VRs.cut lo hi h2) G⟩)
    refine G.here S ?_
    simp only [VR]
    refine ⟨p, vs, rfl, h1, ?_⟩
    have e : L2.cutV vs lo hi = vs := by
      unfold L2.cutV
      rw [hw.1, hw.2]
      simp
    have := VRs.cut lo hi h2
    rwa [e] at this
  | lst as => exact .inr (.inr (lst as rfl G))
  | ref n =>
    replace G : GoodE N W Z μ H σ (kCutL fz (lstOf s (.ref n)) lo hi s) Q := G
    cases e : lstOf s (.ref n) with
    | none => rw [e] at G; exact False.elim G
    | some as => rw [e] at G; exact .inr (.inr (lst as e G))
  | _ => exact False.elim G
/-- a part of a slice -/
def tO (N : Nm) (Γ : Env) (W : WX) (e : Option E) : TO := fun σ H Q => ∃ l s Z μ, SR N.K N.fa N.cv Z μ s H ∧ LR N Z μ H l σ ∧ Good N (fun _ _ (a b : Option Int) => a = b) W Z μ H σ (evO Γ e l s) Q
theorem po_imp {e : Option Expr} {t t' : TO} (h : PO X e t) (i : ∀ σ H Q, t' σ H Q → t σ H Q) : PO X e t' := ⟨fun pins s σ H Q I q => h.run pins s σ H Q I (i σ H Q q)⟩
theorem t_ono (σ : St) (H : Hp) (Q : Option Int → Hp → Prop) (h : tO N Γ W none σ H Q) : L2.tNoPart σ H Q := by
  obtain ⟨l, s, Z, μ, S, L, G⟩ := h
  replace G : Good N (fun _ _ (a b : Option Int) => a = b) W Z μ H σ (.ok none s) Q := G
  exact G.here S rfl
theorem t_oso {e : E} (σ : St) (H : Hp) (Q : Option Int → Hp → Prop) (h : tO N Γ W (some e) σ H Q) : L2.tPart (tE N Γ W e) σ H Q := by
  obtain ⟨l, s, Z, μ, S, L, G⟩ := h
  replace G : Good N (fun _ _ (a b : Option Int) => a = b) W Z μ H σ ((evE Γ e l s).bind kOSome) Q := G
  refine ⟨l, s, Z, μ, S, L, Good.bind G fun x s1 μ1 H1 v _ e1 S1 r1 G1 => ?_⟩
  cases x with
  | int i =>
    simp only [VR] at r1
    exact ⟨i, r1, Good.here (a := some i) G1 S1 rfl⟩
  | _ => exact False.elim G1
theorem t_cut {fz : Bool} {a : E} {lo hi : Option E} (σ : St) (H : Hp) (Q : VK) (h : tE N Γ W (.cut fz a lo hi) σ H Q) : L2.tSl (rCut N fz) (tE N Γ W a) (tO N Γ W lo) (tO N Γ W hi) σ H Q := by
  obtain ⟨l, s, Z, μ, S, L, G⟩ := h
  replace G : GoodE N W Z μ H σ ((evE Γ a l s).bind (kCut1 l (evO Γ lo) (evO Γ hi) fz)) Q := G
  refine ⟨l, s, Z, μ, S, L, Good.bind G fun x s1 μ1 H1 v _ e1 S1 r1 G1 => ?_⟩
  have L1 := Good.lr S L e1
  replace G1 : GoodE N W Z μ1 H1 σ ((evO Γ lo l s1).bind (kCut2 l (evO Γ hi) fz x)) Q := G1
  refine ⟨l, s1, Z, μ1, S1, L1, Good.bind G1 fun y s2 μ2 H2 w _ e2 S2 r2 G2 => ?_⟩
  obtain rfl := r2
  have L2' := Good.lr S1 L1 e2
  replace G2 : GoodE N W Z μ2 H2 σ ((evO Γ hi l s2).bind (kCut3 fz x y)) Q := G2
  refine ⟨l, s2, Z, μ2, S2, L2', Good.bind G2 fun z s3 μ3 H3 w _ e3 S3 r3 G3 => ?_⟩
  obtain rfl := r3
  exact ⟨x, s3, Z, μ3, W, σ, S3, VR.stay ((e2.trans e3).stay S1.noTup) x v r1, G3⟩
/-- a op1 b op2 c -/
theorem t_chain {o1 o2 : COp} {a b c : E} (h1 : ∀ x y s, (∃ d, cmpA o1 x y s = .ok (.bl d) s) ∨ cmpA o1 x y s = .bad) (σ : St) (H : Hp) (Q : VK) (h : tE N Γ W (.chain o1 o2 a b c) σ H Q) : L2.tChain (rV2 N (cmpA o1)) (rV2 N (cmpA o2)) (tE N Γ W a) (tE N Γ W b) (tE N Γ W c) σ H Q := by
  obtain ⟨l, s, Z, μ, S, L, G⟩ := h
  replace G : GoodE N W Z μ H σ ((evE Γ a l s).bind (kCh1 (evE Γ b) (evE Γ c) l o1 o2)) Q := G
  refine ⟨l, s, Z, μ, S, L, Good.bind G fun x s1 μ1 H1 v _ e1 S1 r1 G1 => ?_⟩
  have L1 := Good.lr S L e1
  replace G1 : GoodE N W Z μ1 H1 σ ((evE Γ b l s1).bind (kCh2 (evE Γ c) l o1 o2 x)) Q := G1
  refine ⟨l, s1, Z, μ1, S1, L1, Good.bind G1 fun y s2 μ2 H2 w _ e2 S2 r2 G2 => ?_⟩
  have L2' := Good.lr S1 L1 e2
  replace G2 : GoodE N W Z μ2 H2 σ ((cmpA o1 x y s2).bind (kCh3 (evE Γ c) l o2 y)) Q := G2
  rcases h1 x y s2 with ⟨d, e⟩ | e
  · refine ⟨x, y, s2, Z, μ2, W, σ, S2, VR.stay (e2.stay S1.noTup) x v r1, r2, ?_⟩
    rw [e] at G2 ⊢
    replace G2 : GoodE N W Z μ2 H2 σ (kCh3 (evE Γ c) l o2 y (.bl d) s2) Q := G2
    intro μ3 H3 z e3 S3 r3
    simp only [VR] at r3
    refine ⟨d, r3, ?_⟩
    have L3 := Good.lr S2 L2' e3
    have G3 := Good.later e3 G2
    cases d with
    | true =>
      rw [if_pos rfl]
      replace G3 : GoodE N W Z μ3 H3 σ ((evE Γ c l s2).bind (kCmp2 o2 y)) Q := G3
      refine ⟨l, s2, Z, μ3, S3, L3, Good.bind G3 fun z' s4 μ4 H4 w' _ e4 S4 r4 G4 => ?_⟩
      exact ⟨y, z', s4, Z, μ4, W, σ, S4, VR.stay ((e3.trans e4).stay S2.noTup) y w r2, r4, G4⟩
    | false =>
      rw [if_neg (by decide)]
      replace G3 : GoodE N W Z μ3 H3 σ (.ok (.bl false) s2) Q := G3
      exact G3.here S3 (by simp [VR])
  · rw [e] at G2
    exact False.elim G2
theorem cmp_bl (o : COp) (x y : A) (s : Sto) : (∃ d, cmpA o x y s = .ok (.bl d) s) ∨ cmpA o x y s = .bad := by
  cases o with
  | eq => show (∃ d, kEqD (deep s 60 x) (deep s 60 y) s = _) ∨ kEqD (deep s 60 x) (deep s 60 y) s = _; cases deep s 60 x <;> cases deep s 60 y <;> first | exact .inr rfl | exact .inl ⟨_, rfl⟩
  | ne => show (∃ d, kNeD (deep s 60 x) (deep s 60 y) s = _) ∨ kNeD (deep s 60 x) (deep s 60 y) s = _; cases deep s 60 x <;> cases deep s 60 y <;> first | exact .inr rfl | exact .inl ⟨_, rfl⟩
  | lt => cases x <;> cases y <;> first | exact .inr rfl | exact .inl ⟨_, rfl⟩
  | le => cases x <;> cases y <;> first | exact .inr rfl | exact .inl ⟨_, rfl⟩
  | gt => cases x <;> cases y <;> first | exact .inr rfl | exact .inl ⟨_, rfl⟩ | skip
          all_goals
            rename_i as bs
            show (∃ d, kGtL (intsOf as) (intsOf bs) s = _) ∨ kGtL (intsOf as) (intsOf bs) s = _
            cases intsOf as <;> cases intsOf bs <;> first | exact .inr rfl | exact .inl ⟨_, rfl⟩
  | ge => cases x <;> cases y <;> first | exact .inr rfl | exact .inl ⟨_, rfl⟩
  | inn => show (∃ d, kBl (inA x y s) s = _) ∨ kBl (inA x y s) s = _; cases inA x y s <;> first | exact .inr rfl | exact .inl ⟨_, rfl⟩
  | nin => show (∃ d, kBl ((inA x y s).map not) s = _) ∨ kBl ((inA x y s).map not) s = _; cases inA x y s <;> first | exact .inr rfl | exact .inl ⟨_, rfl⟩
end
end Py

set_option autoImplicit false
set_option linter.all false
set_option Elab.async false
set_option maxRecDepth 100000
set_option maxHeartbeats 4000000
/-! PyS8: isinstance, methods, the checker of expressions. -/
namespace Py
open PySem
open L2 (V Hp HO Rd SqL SqT Cx Inv PE PT PA PS PSs PG PGs PI TE TT TA TS TG TGs TI It Ends VK XK WX St Room upd upd_same upd_ne ne_of_none Key kV RelV Vals R2 OpR UnR CallR tOp Dp DpAll rI rI0 EP MtR IxR PSet PW Gl tB tAndV tOrV tNotV tAnd tOr tNot Takes FnOk Binds Sp PassesAt WE gName gNil gCons gTup gLst Itl Itt Itr PTs Vis)
def Ty.nm : Ty → String
  | .int => "int"
  | .bool => "bool"
  | .str => "str"
  | .list => "list"
  | .tuple => "tuple"
  | .dict => "dict"
section
variable {N : Nm} {Γ : Env} {W : WX} {Z μ μ' : List Addr} {H H' : Hp} {σ : St} {s : Sto} {l : Loc} {D : Ends}
theorem kit_non (K : PySem.W.Frag) (t : Ty) : PySem.W.kitOne K (.type "NoneType") (.type t.nm) = some false := by cases t <;> rfl
theorem kit_bl (K : PySem.W.Frag) (t : Ty) : PySem.W.kitOne K (.type "bool") (.type t.nm) = some t.isBl := by cases t <;> rfl
theorem kit_int (K : PySem.W.Frag) (t : Ty) : PySem.W.kitOne K (.type "int") (.type t.nm) = some t.isInt := by cases t <;> rfl
theorem kit_str (K : PySem.W.Frag) (t : Ty) : PySem.W.kitOne K (.type "str") (.type t.nm) = some t.isStr := by cases t <;> rfl
theorem kit_tup (K : PySem.W.Frag) (t : Ty) : PySem.W.kitOne K (.type "tuple") (.type t.nm) = some t.isTup := by cases t <;> rfl
theorem kit_lst (K : PySem.W.Frag) (t : Ty) : PySem.W.kitOne K (.type "list") (.type t.nm) = some t.isLst := by cases t <;> rfl
theorem kit_dct (K : PySem.W.Frag) (t : Ty) : PySem.W.kitOne K (.type "dict") (.type t.nm) = some t.isDct := by cases t <;> rfl
def rIsF (K : PySem.W.Frag) : List V → Hp → VK → Prop := fun xs H Q => ∃ (p : Addr) (od : Obj) (kvs : List (List Key × V)) (t : String) (b : Bool), xs = [.ref p, .ty t] ∧ H p = some (.frz od (.dT kvs)) ∧ PySem.W.kitOne K (.type "dict") (.type t) = some b ∧ Q (.bl b) H
theorem call_isF {X : Cx} : CallR X (.builtin "isinstance") (rIsF X.K) := by
  intro pins s σ H xs us Q I r h
  obtain ⟨p, od, kvs, t, b, rfl, ea, e, q⟩ := h
  cases r with
  | cons rx rr =>
    cases rr with
    | cons rt rr =>
      cases rr
      cases (show _ = Value.ref p from rx)
      cases (show _ = Value.type t from rt)
      obtain ⟨_, _, _, xs, _, o, es, ep, h1, h2, _⟩ := (show L2.ObjOk X.prog X.w H s.heap p (.frz od (.dT kvs)) from I.hok p _ ea)
      exact PySem.W.kia_one PySem.W.kitx_dict I.kIn ⟨o, h1, h2.1⟩ e (fun z => nomatch z) fun tk => ⟨.bl b, H, I.kept (t' := tk) fun _ _ z => z, rfl, q⟩
def rIs2 (K : PySem.W.Frag) : List V → Hp → VK → Prop := fun xs H Q => L2.rIsi K xs H Q ∨ rIsF K xs H Q
theorem call_is2 {X : Cx} : CallR X (.builtin "isinstance") (rIs2 X.K) := clr_or L2.call_isi call_isF
theorem isa_ok {t : Ty} {a : A} {v : V} {Q : VK} (S : SR N.K N.fa N.cv Z μ s H) (r : VR N.K N.fa Z μ H a v) (G : GoodE N W Z μ H σ (kIsa t a s) Q) : rIs2 N.K [v, .ty t.nm] H Q := by
  have lst : ∀ p vs, LL N.K H p vs → L2.TyX N.K H (.ref p) (.type "list") := fun p vs h => by
    rcases h with (h | ⟨o, h⟩) | ⟨its, n, h1, _⟩
    · exact .base (.lst h)
    · exact .base (.frz h)
    · exact .kList h1 rfl
  have tup : ∀ p vs, SqT N.K H p vs → L2.TyX N.K H (.ref p) (.type "tuple") := fun p vs h => by
    rcases h with (h | ⟨o, h⟩) | ⟨o, its, n, h1, h2, _⟩
    · exact .base (.tup h)
    · exact .fTuple h
    · exact .kTuple h1 h2
  have fin : ∀ (b : Bool) tv, isaA t a s = some b → L2.TyX N.K H v tv → PySem.W.kitOne N.K tv (.type t.nm) = some b → rIs2 N.K [v, .ty t.nm] H Q := fun b tv e ty k => by
    replace G : GoodE N W Z μ H σ (kBl (isaA t a s) s) Q := G
    rw [e] at G
    exact .inl ⟨v, .ty t.nm, tv, .type t.nm, b, rfl, .ty _, ty, k, Good.here (a := A.bl b) G S (by simp [VR])⟩
  have finT : ∀ (p : Addr) (od : Obj) kvs, v = .ref p → isaA t a s = some t.isDct → H p = some (.frz od (.dT kvs)) → rIs2 N.K [v, .ty t.nm] H Q := fun p od kvs ev e h => by
    replace G : GoodE N W Z μ H σ (kBl (isaA t a s) s) Q := G
    rw [e] at G
    exact .inr ⟨p, od, kvs, t.nm, t.isDct, by rw [ev], h, kit_dct _ t, Good.here (a := A.bl t.isDct) G S (by simp [VR])⟩
  have r0 := r
  cases a with
  | non => simp only [VR] at r; subst r; exact fin false _ rfl (.base .non) (kit_non _ t)
  | bl b => simp only [VR] at r; subst r; exact fin _ _ rfl (.base (.bl b)) (kit_bl _ t)
  | int i => simp only [VR] at r; subst r; exact fin _ _ rfl (.base (.int i)) (kit_int _ t)
  | str x => simp only [VR] at r; obtain ⟨rfl, _⟩ := r; exact fin _ _ rfl (.base (.str _)) (kit_str _ t)
  | tup as => simp only [VR] at r; obtain ⟨p, vs, rfl, h1, _⟩ := r; exact fin _ _ rfl (tup p vs (.inl (.inl h1))) (kit_tup _ t)
  | ctp as => simp only [VR] at r; obtain ⟨p, vs, rfl, h1, _⟩ := r; exact fin _ _ rfl (tup p vs (.inr h1)) (kit_tup _ t)
  | lst as => simp only [VR] at r; obtain ⟨p, vs, rfl, h1, _⟩ := r; exact fin _ _ rfl (lst p vs h1.ll) (kit_lst _ t)
  | dct u ks =>
    cases u with
    | false =>
      simp only [VR] at r
      obtain ⟨p, vs, rfl, h1 | ⟨od, h1⟩, _⟩ := r
      · exact fin _ _ rfl (.base (.dK h1)) (kit_dct _ t)
      · exact fin _ _ rfl (.fDict h1) (kit_dct _ t)
    | true =>
      simp only [VR] at r
      obtain ⟨p, vs, rfl, h1 | ⟨od, h1⟩, _⟩ := r
      · exact fin _ _ rfl (.base (.dT h1)) (kit_dct _ t)
      · exact finT _ _ _ rfl rfl h1
  | ref n =>
    simp only [VR] at r
    obtain ⟨p, rfl, hp⟩ := r
    cases e : s[n]? with
    | none =>
      exfalso
      have hl := (List.getElem?_eq_some_iff.mp hp).1
      rw [S.len] at hl
      rw [List.getElem?_eq_getElem hl] at e
      cases e
    | some c =>
      obtain ⟨q, h2, hc⟩ := S.cell n c e
      obtain rfl : p = q := Option.some.inj (hp.symm.trans h2)
      have ei : isaA t (.ref n) s = kIsaR t (some c) := by show kIsaR t s[n]? = _; rw [e]
      cases c with
      | lst as => obtain ⟨vs, h3, _⟩ := hc; exact fin _ _ ei (.base (.lst h3)) (kit_lst _ t)
      | dct u ks =>
        cases u with
        | false => obtain ⟨vs, h3, _⟩ := hc; exact fin _ _ ei (.base (.dK h3)) (kit_dct _ t)
        | true => obtain ⟨vs, h3, _⟩ := hc; exact fin _ _ ei (.base (.dT h3)) (kit_dct _ t)
      | lck u ks =>
        cases u with
        | false => obtain ⟨od, vs, h3, _⟩ := hc; exact fin _ _ ei (.fDict h3) (kit_dct _ t)
        | true => obtain ⟨od, vs, h3, _⟩ := hc; exact finT _ _ _ rfl ei h3
      | ins cl fs =>
        replace G : GoodE N W Z μ H σ (kBl (isaA t (.ref n) s) s) Q := G
        rw [ei] at G
        exact False.elim G
  | fn f => exact False.elim G
theorem t_isa {a : E} {t : Ty} (σ : St) (H : Hp) (Q : VK) (h : tE N Γ W (.isa a t) σ H Q) : L2.tCB (rIs2 N.K) (L2.tCons (tE N Γ W a) (L2.tCons (L2.tC (.ty t.nm)) L2.tNil)) σ H Q :=
  t_one (f := kIsa t) (t := fun v H Q => rIs2 N.K [v, .ty t.nm] H Q) (fun l s => rfl) (fun a s v Z μ H σ Q S r G => isa_ok S r G) σ H Q h

/-! ### methods of lists -/
theorem kd_list {k : BK} {a : A} {v : V} (hk : k = .list) (S : SR N.K N.fa N.cv Z μ s H) (r : VR N.K N.fa Z μ H a v) (h : isB k a s = true) : L2.tyV N.K "list" v H := by
  subst hk
  cases a with
  | lst as => simp only [VR] at r; obtain ⟨p, vs, rfl, h1, _⟩ := r; exact .inl ⟨rfl, vs, h1.sq⟩
  | ref n =>
    simp only [VR] at r
    obtain ⟨p, rfl, hp⟩ := r
    replace h : isC .list s[n]? = true := h
    cases e : s[n]? with
    | none => rw [e] at h; cases h
    | some c =>
      rw [e] at h
      obtain ⟨q, h2, hc⟩ := S.cell n c e
      obtain rfl : p = q := Option.some.inj (hp.symm.trans h2)
      cases c with
      | lst as => obtain ⟨vs, h3, _⟩ := hc; exact .inl ⟨rfl, vs, .inl (.inl h3)⟩
      | dct t ks => cases h
      | lck t ks => cases h
      | ins c fs => cases h
  | _ => cases h
theorem t_bm {T : String} {m : BM} {fz : Bool} {o : E} {es : List E} (ty : ∀ {Z μ H s a v}, SR N.K N.fa N.cv Z μ s H → VR N.K N.fa Z μ H a v → isB m.kd a s = true → L2.tyV N.K T v H) (σ : St) (H : Hp) (Q : VK) (h : tE N Γ W (.bm m fz o es) σ H Q) :
    L2.tBM N.K T (rMt N m fz) (tE N Γ W o) (tEs N Γ W es) σ H Q := by
  obtain ⟨l, s, Z, μ, S, L, G⟩ := h
  replace G : GoodE N W Z μ H σ ((evE Γ o l s).bind (kBm1 l (evEs Γ es) m fz)) Q := G
  refine ⟨l, s, Z, μ, S, L, Good.bind G fun a s1 μ1 H1 v _ e1 S1 r1 G1 => ?_⟩
  have L1 := Good.lr S L e1
  replace G1 : GoodE N W Z μ1 H1 σ (if isB m.kd a s1 = true then (evEs Γ es l s1).bind (kBm2 m fz a) else .bad) Q := G1
  obtain ⟨hb, G1⟩ := iteR G1
  refine ⟨ty S1 r1 hb, l, s1, Z, μ1, S1, L1, Good.bind G1 fun as s2 μ2 H2 vs _ e2 S2 r2 G2 => ?_⟩
  exact ⟨a, as, s2, Z, μ2, W, σ, S2, VR.stay (e2.stay S1.noTup) _ _ r1, r2, G2⟩
theorem t_bm0 {T : String} {m : BM} {fz : Bool} {o : E} (ty : ∀ {Z μ H s a v}, SR N.K N.fa N.cv Z μ s H → VR N.K N.fa Z μ H a v → isB m.kd a s = true → L2.tyV N.K T v H) (σ : St) (H : Hp) (Q : VK) (h : tE N Γ W (.bm m fz o []) σ H Q) :
    L2.tBM0 N.K T (rMt N m fz) (tE N Γ W o) σ H Q := by
  refine t_mono (t_bm (Γ := Γ) (T := T) ty σ H Q h) fun v H' ⟨h1, h2⟩ => ⟨h1, t_nil σ H' _ h2⟩
theorem mtr_imp {X : Cx} {id : String} {r r' : V → List V → Hp → VK → Prop} (h : MtR X id r) (i : ∀ x xs H Q, r' x xs H Q → r x xs H Q) : MtR X id r' := fun pins s σ H x xs v us Q I rx rs q => h pins s σ H x xs v us Q I rx rs (i x xs H Q q)
theorem mt_ref {X : Cx} {id : String} {m : BM} {fz : Bool} (hs : ∀ x as s, bmS m fz x as s = .bad) (hf : ∀ o as s, bmF m o as s = .bad)
    (h : MtR X id (fun x xs H Q => ∃ n as s Z μ W σ, SR N.K N.fa N.cv Z μ s H ∧ VR N.K N.fa Z μ H (.ref n) x ∧ VRs N.K N.fa Z μ H as xs ∧ GoodE N W Z μ H σ (bmR m n as s) Q)) : MtR X id (rMt N m fz) :=
  mtr_imp h fun x xs H Q => by
    rintro ⟨a, as, s, Z, μ, W, σ, S, r, rs, G⟩
    cases a with
    | ref n => exact ⟨n, as, s, Z, μ, W, σ, S, r, rs, G⟩
    | str x =>
      replace G : GoodE N W Z μ H σ (bmS m fz x as s) Q := G
      rw [hs] at G
      exact False.elim G
    | non => replace G : GoodE N W Z μ H σ (bmF m .non as s) Q := G; rw [hf] at G; exact False.elim G
    | bl b => replace G : GoodE N W Z μ H σ (bmF m (.bl b) as s) Q := G; rw [hf] at G; exact False.elim G
    | int b => replace G : GoodE N W Z μ H σ (bmF m (.int b) as s) Q := G; rw [hf] at G; exact False.elim G
    | tup b => replace G : GoodE N W Z μ H σ (bmF m (.tup b) as s) Q := G; rw [hf] at G; exact False.elim G
    | lst b => replace G : GoodE N W Z μ H σ (bmF m (.lst b) as s) Q := G; rw [hf] at G; exact False.elim G
    | dct t b => replace G : GoodE N W Z μ H σ (bmF m (.dct t b) as s) Q := G; rw [hf] at G; exact False.elim G
    | fn b => replace G : GoodE N W Z μ H σ (bmF m (.fn b) as s) Q := G; rw [hf] at G; exact False.elim G
    | ctp b => replace G : GoodE N W Z μ H σ (bmF m (.ctp b) as s) Q := G; rw [hf] at G; exact False.elim G
end

/-! ### the checker: is this the text's expression? -/
structure Ck where
  sc : Scope
  ns : List Str
  fn : Nat → Option Str
  cn : Nat → Option Str
  gn : Nat → Option Str
  flds : List String
  top : Bool
  hot : Bool
  ex : Option Nat
  xn : Nat → Option Str
  xr : Nat → Option Nat
def Ck.glo (c : Ck) (x : Str) : Bool := c.sc.names.lookup x == some .globalImplicit && !(x == ("__debug__" : Str))
def Ck.vis (c : Ck) (x : Str) : Bool := (c.sc.names.lookup x == some .local || c.sc.names.lookup x == some .cell || c.sc.names.lookup x == some .free) && (!(x == ("__debug__" : Str)) && !(x == ("__classdict__" : Str)))
def nst : Expr → Bool
  | .Starred .. => false
  | _ => true
def notCall : Expr → Bool
  | .Call .. => false
  | _ => true
def plainT : Expr → Bool
  | .Name .. => true
  | .Constant .. => true
  | .Call .. => true
  | .Attribute .. => true
  | .Subscript .. => true
  | .BinOp .. => true
  | _ => false
def BOp.ast : BOp → Operator
  | .add => .Add | .sub => .Sub | .mul => .Mult | .fdiv => .FloorDiv | .mod => .Mod | .band => .BitAnd | .bor => .BitOr | .bxor => .BitXor | .shl => .LShift | .shr => .RShift
def COp.ast : COp → CmpOp
  | .eq => .Eq | .ne => .NotEq | .lt => .Lt | .le => .LtE | .gt => .Gt | .ge => .GtE | .inn => .In | .nin => .NotIn
/-- the ops that are covered -/
def BOp.ok : BOp → Bool
  | _ => true
def COp.ok : COp → Bool
  | _ => true
def BF.nm : BF → Option String
  | .len => some "len" | .abs => some "abs" | .int => some "int" | .list => some "list"
  | .str => some "str" | .ord => some "ord" | .max1 => some "max" | .max2 => some "max" | .min1 => some "min" | .min2 => some "min"
  | .sum => some "sum" | .all => some "all" | .any => some "any"
  | _ => none
def BF.ar : BF → Nat
  | .max2 => 2
  | .min2 => 2
  | _ => 1
def BM.nm : BM → Option (String × Nat)
  | .append => some ("append", 1) | .pop1 => some ("pop", 1) | .pop0 => some ("pop", 0) | .extend => some ("extend", 1) | .insert => some ("insert", 2)
  | .lindex => some ("index", 1) | .clear => some ("clear", 0) | .get => some ("get", 2)
  | _ => none
def strC (x : List Nat) : Bool := decide (x.length ≤ 1000) && x.all fun c => decide (c < 0x110000)
def sameS (x : List Nat) (y : Str) : Bool := x == y.cps.toList
def chkNs (c : Ck) : List Nat → List Expr → Bool
  | [], [] => true
  | i :: is, .Name x _ :: xs => (c.ns[i]? == some x && (c.sc.names.lookup x == some .local || c.sc.names.lookup x == some .cell)) && chkNs c is xs
  | _, _ => false
def chkT (c : Ck) : T → Expr → Bool
  | .nm i, .Name x _ => !(c.ex == some i) && (c.ns[i]? == some x && (c.sc.names.lookup x == some .local || c.sc.names.lookup x == some .cell))
  | .tp is, .Tuple xs _ _ => !c.hot && chkNs c is xs
  | _, _ => false
def ownL (c : Ck) (own : List Nat) : List (Str × Nat) := own.filterMap fun i => (c.ns[i]?).map fun x => (x, i)
def notSl : Expr → Bool
  | .Slice .. => false
  | _ => true
def notIf : Expr → Bool
  | .IfExp .. => false
  | _ => true
def notRange : Expr → Bool
  | .Set .. => false
  | .Constant .. => false
  | _ => true
def chOk (o : CmpOp) (y : Expr) : Bool := !(behindInMarks o y)
def isAnd : Expr → Bool
  | .BoolOp .And _ _ => true
  | _ => false
def isOr : Expr → Bool
  | .BoolOp .Or _ _ => true
  | _ => false
mutual
def chkE : E → Ck → Expr → Bool
  | .loc i => fun c x => match x with
    | .Name x _ => c.ns[i]? == some x && c.vis x
    | _ => false
  | .non => fun _ x => match x with
    | .Constant .none _ _ => true
    | _ => false
  | .bl b => fun _ x => match x with
    | .Constant (.bool d) _ _ => b == d
    | _ => false
  | .int i => fun _ x => match x with
    | .Constant (.int j) _ _ => i == j
    | _ => false
  | .str z => fun _ x => match x with
    | .Constant (.str y) _ _ => strC z && sameS z y
    | _ => false
  | .bin op _ a b => fun c x => match x with
    | .BinOp x o y _ => op.ok && (o == op.ast && (chkE a c x && chkE b c y))
    | _ => false
  | .neg a => fun c x => match x with
    | .UnaryOp .USub x _ => chkE a c x
    | _ => false
  | .not a => fun c x => match x with
    | .UnaryOp .Not x _ => notIf x && chkE a c x
    | _ => false
  | .and a b => fun c x => match x with
    | .BoolOp .And (x :: y :: r) p => notIf x && (notIf y && (chkE a c x && (match r with
      | [] => chkE b c y
      | z :: r => chkE b c (.BoolOp .And (y :: z :: r) p))))
    | _ => false
  | .or a b => fun c x => match x with
    | .BoolOp .Or (x :: y :: r) p => notIf x && (notIf y && (chkE a c x && (match r with
      | [] => chkE b c y
      | z :: r => chkE b c (.BoolOp .Or (y :: z :: r) p))))
    | _ => false
  | .cmp op a b => fun c x => match x with
    | .Compare x [o] [y] _ => op.ok && (o == op.ast && (chkE a c x && chkE b c y))
    | _ => false
  | .isN a => fun c x => match x with
    | .Compare x [.Is] [.Constant .none _ _] _ => chkE a c x
    | _ => false
  | .notN a => fun c x => match x with
    | .Compare x [.IsNot] [.Constant .none _ _] _ => chkE a c x
    | _ => false
  | .ite t a b => fun c x => match x with
    | .IfExp w x y _ => notIf w && chkE t c w && (chkE a c x && chkE b c y)
    | _ => false
  | .tup es => fun c x => match x with
    | .Tuple xs _ _ => decide (es.length ≤ 1000) && chkEs es c xs
    | _ => false
  | .lst _ es => fun c x => match x with
    | .List xs _ => decide (es.length ≤ 1000) && chkEs es c xs
    | _ => false
  | .idx a i => fun c x => match x with
    | .Subscript x y _ => notSl y && (chkE a c x && chkE i c y)
    | _ => false
  | .call f es => fun c x => match x with
    | .Call (.Name x _) xs [] _ => !c.hot && (c.fn f == some x && (c.glo x && chkEs es c xs))
    | _ => false
  | .make k es => fun c x => match x with
    | .Call (.Name x _) xs [] _ => !c.hot && (c.cn k == some x && (c.glo x && chkEs es c xs))
    | _ => false
  | .meth m o es => fun c x => match x with
    | .Call (.Attribute x n ap) xs [] p => !c.hot && ((ap.endLine == p.line) && (decide (es.length < 30) && (notCall x && (n == Str.ofString m && (chkE o c x && chkEs es c xs)))))
    | _ => false
  | .bc f _ es => fun c x => match x with
    | .Call (.Name x _) xs [] _ => !c.hot && (f.nm.any (fun n => x == Str.ofString n) && (c.glo x && (decide (es.length = f.ar) && chkEs es c xs)))
    | _ => false
  | .bm m _ o es => fun c x => match x with
    | .Call (.Attribute x n ap) xs [] p => m.nm.any (fun q => n == Str.ofString q.1 && decide (es.length = q.2)) && (notCall x && ((ap.endLine == p.line) && (chkE o c x && chkEs es c xs)))
    | _ => false
  | .attr o f => fun c x => match x with
    | .Attribute x n _ => notCall x && (n == Str.ofString f && chkE o c x)
    | _ => false
  | .isa a t => fun c x => match x with
    | .Call (.Name x _) [y, .Name z _] [] _ => x == Str.ofString "isinstance" && (z == Str.ofString t.nm && (c.glo x && (c.glo z && (nst y && chkE a c y))))
    | _ => false
  | .lcomp _ elt tg k es cnd own => fun c x => match x with
    | .ListComp xe [⟨t, it, ifs, 0⟩] sc _ => !c.hot && (c.top && (L2.blkC c.ns c.sc sc (ownL c own) && ((ownL c own).map (·.2) == own && (tg.slots.all (fun i => own.contains i) &&
      (chkT { c with sc := sc, top := false } tg t && (chkI es k t c it && (chkC cnd { c with sc := sc, top := false } ifs && chkE elt { c with sc := sc, top := false } xe)))))))
    | _ => false
  | .glb g => fun c x => match x with
    | .Name x _ => c.gn g == some x && c.glo x
    | _ => false
  | .fun_ f => fun c x => match x with
    | .Name x _ => c.fn f == some x && c.glo x
    | _ => false
  | .chain o1 o2 a b d => fun c x => match x with
    | .Compare x [p, q] [y, z] _ => chOk p y && chOk q z && (p == o1.ast && (q == o2.ast && (chkE a c x && (chkE b c y && chkE d c z))))
    | _ => false
  | .dct _ t es => fun c x => match x with
    | .Dict ks vs _ => (es.isEmpty && (ks.isEmpty && vs.isEmpty)) || (!t && (decide (es.length ≤ 30) && (decide (es.length % 2 = 0) && (!es.isEmpty && chkPs es c ks vs))))
    | _ => false
  | .cut _ a lo hi => fun c x => match x with
    | .Subscript x (.Slice l h none _) _ => chkE a c x && (chkO lo c l && chkO hi c h)
    | _ => false
  | .rev _ a => fun c x => match x with
    | .Subscript x (.Slice none none (some (.UnaryOp .USub (.Constant (.int 1) _ _) _)) _) _ => chkE a c x
    | _ => false
  | .callv _ _ => fun _ _ => false
  | .dcomp _ _ _ _ _ _ _ _ _ => fun _ _ => false
  | .xattr i f => fun c x => match x with
    | .Attribute (.Name y _) n _ => c.ex == some i && (n == Str.ofString f && (c.ns[i]? == some y && c.vis y))
    | _ => false
  | .xisa i k => fun c x => match x with
    | .Call (.Name x _) [.Name y _, .Name z _] [] _ => c.ex == some i && (x == Str.ofString "isinstance" && (c.glo x && (c.ns[i]? == some y && (c.vis y && (c.xn k == some z && c.glo z)))))
    | _ => false
def chkEs : List E → Ck → List Expr → Bool
  | [] => fun _ xs => xs.isEmpty
  | e :: es => fun c xs => match xs with
    | x :: xs => nst x && (chkE e c x && chkEs es c xs)
    | [] => false
/-- the pairs of a display -/
def chkPs : List E → Ck → List (Option Expr) → List Expr → Bool
  | [] => fun _ ks vs => ks.isEmpty && vs.isEmpty
  | [_] => fun _ _ _ => false
  | e :: f :: r => fun c ks vs => match ks, vs with
    | some k :: ks, v :: vs => chkE e c k && (chkE f c v && chkPs r c ks vs)
    | _, _ => false
/-- what is walked -/
def chkI : List E → IK → Expr → Ck → Expr → Bool
  | [e] => fun k tg c x => match k with
    | .seq => notRange x && chkE e c x
    | .rng => match x with
      | .Call (.Name x _) [y] [] _ => x == Str.ofString "range" && (c.glo x && (nst y && chkE e c y))
      | _ => false
    | .rlen => match x with
      | .Call (.Name x _) [.Call (.Name w _) [y] [] _] [] _ => x == Str.ofString "range" && (w == Str.ofString "len" && (c.glo x && (c.glo w && (nst y && chkE e c y))))
      | _ => false
    | .enum => match x, tg with
      | .Call (.Name x _) [y] [] _, .Tuple _ _ _ => x == Str.ofString "enumerate" && (c.glo x && (nst y && chkE e c y))
      | _, _ => false
    | .rev => match x with
      | .Call (.Name x _) [y] [] _ => x == Str.ofString "reversed" && (c.glo x && (nst y && chkE e c y))
      | _ => false
    | _ => false
  | [e, f] => fun k tg c x => match k with
    | .rng => match x with
      | .Call (.Name x _) [y, z] [] _ => x == Str.ofString "range" && (c.glo x && (nst y && (nst z && (chkE e c y && chkE f c z))))
      | _ => false
    | .zip => match x, tg with
      | .Call (.Name x _) [y, z] [] _, .Tuple _ _ _ => x == Str.ofString "zip" && (c.glo x && (nst y && (nst z && (chkE e c y && chkE f c z))))
      | _, _ => false
    | _ => false
  | [e, f, g] => fun k tg c x => match k with
    | .rng => match x with
      | .Call (.Name x _) [y, z, w] [] _ => x == Str.ofString "range" && (c.glo x && (nst y && (nst z && (nst w && (chkE e c y && (chkE f c z && chkE g c w))))))
      | _ => false
    | .zip => match x, tg with
      | .Call (.Name x _) [y, z, w] [] _, .Tuple _ _ _ => x == Str.ofString "zip" && (c.glo x && (nst y && (nst z && (nst w && (chkE e c y && (chkE f c z && chkE g c w))))))
      | _, _ => false
    | _ => false
  | _ => fun _ _ _ _ => false
def chkO : Option E → Ck → Option Expr → Bool
  | none => fun _ x => x.isNone
  | some e => fun c x => match x with
    | some y => chkE e c y
    | none => false
def chkC : Option E → Ck → List Expr → Bool
  | none => fun _ xs => xs.isEmpty
  | some e => fun c xs => match xs with
    | [x] => notIf x && chkE e c x
    | _ => false
end
end Py

set_option autoImplicit false
set_option linter.all false
set_option Elab.async false
set_option maxRecDepth 100000
set_option maxHeartbeats 4000000
/-! PyX: more methods of lists. -/
namespace Py
open PySem
open L2 (V Hp HO Rd SqL SqT Cx Inv PE PT PA PS PSs PG PI TE TT TA TS Ends VK XK WX St Room upd upd_same upd_ne ne_of_none Key kV RelV Vals R2 OpR UnR CallR tOp Dp DpAll rI rI0 EP MtR IxR PSet DGet DPut valV putK dropK IsD)
section
variable {N : Nm} {X : Cx} {fz : Bool}
def rRef (N : Nm) (m : BM) : V → List V → Hp → VK → Prop := fun x xs H Q => ∃ n as s Z μ W σ, SR N.K N.fa N.cv Z μ s H ∧ VR N.K N.fa Z μ H (.ref n) x ∧ VRs N.K N.fa Z μ H as xs ∧ GoodE N W Z μ H σ (bmR m n as s) Q
/-- the list of the store -/
theorem cell_lst {s : Sto} {Z μ : List Addr} {H : Hp} {n : Nat} {v : V} {as : List A} (S : SR N.K N.fa N.cv Z μ s H) (r : VR N.K N.fa Z μ H (.ref n) v) (e : s[n]? = some (.lst as)) : ∃ p vs, v = .ref p ∧ μ[n]? = some p ∧ H p = some (.lst vs) ∧ VRs N.K N.fa Z μ H as vs := by
  simp only [VR] at r
  obtain ⟨p, rfl, hp⟩ := r
  obtain ⟨q, h2, vs, h3, h4⟩ := S.cell n _ e
  obtain rfl : p = q := Option.some.inj (hp.symm.trans h2)
  exact ⟨p, vs, rfl, hp, h3, h4⟩
def rExtL (K : PySem.W.Frag) : V → List V → Hp → VK → Prop := fun x vs H Q => ∃ l b xs zs, x = .ref l ∧ vs = [.ref b] ∧ H l = some (.lst xs) ∧ LL K H b zs ∧ xs.length + zs.length ≤ sizeLine ∧ Q .non (upd H l (.lst (xs ++ zs)))
theorem mt_extL : MtR X "list.extend" (rExtL X.K) := by
  intro pins s σ H x vs v us Q I rx rv h
  obtain ⟨l, b, xs, zs, rfl, rfl, hH, hB, hz, q⟩ := h
  cases rx
  obtain ⟨u, rfl, ru⟩ := L2.Vals.one rv
  cases ru
  obtain ⟨z, its, n, r, hl, e⟩ := I.lstM hH
  obtain ⟨its2, n2, r2, hl2, e2, z2⟩ := hB.at_ I
  have hsz : its.toArray.size + its2.toArray.size ≤ sizeLine := by rw [List.size_toArray, List.size_toArray]; omega
  have hlong : ¬ (!its.toArray.isEmpty && Builtin.List.listTooLong (its.toArray.size + its2.toArray.size)) = true := by
    rw [L2.notLongL hsz, Bool.and_false]
    exact Bool.false_ne_true
  refine call_meets F.slot_list_extend ⟨_, e, rfl⟩ F.entry_list_extend (F.args_list_extend_2 _ _)
    (AutoSeq1.list_extend_list_list_0 l its.toArray n b its2.toArray n2 hlong (by rw [List.size_toArray]; omega) (by omega)) ⟨e, e2, ?_⟩
  refine ⟨.non, _, I.lset (its' := its ++ its2) hH e (by simp) (r.append r2) ?_, rfl, q⟩
  rw [List.length_append]
  omega
theorem m_extend (hK : X.K = N.K) : MtR X "list.extend" (rRef N .extend) := by
  intro pins sh σ' H x xs v us Q I rx rxs h
  refine mt_extL pins sh σ' H x xs v us Q I rx rxs ?_
  rw [hK]
  obtain ⟨n, as, s, Z, μ, W, σ, S, ra, rs, G⟩ := h
  match as, rs, G with
  | [a], rs, G =>
    simp only [VRs] at rs
    obtain ⟨y, r, rfl, ry, rfl⟩ := rs
    replace G : GoodE N W Z μ H σ (kExt n s[n]? (lstOf s a) s) Q := G
    cases e : s[n]? with
    | none => rw [e] at G; exact False.elim G
    | some c =>
      cases c with
      | lst bs =>
        obtain ⟨p, vs, rfl, hp, h3, h4⟩ := cell_lst S ra e
        cases e2 : lstOf s a with
        | none => rw [e, e2] at G; exact False.elim G
        | some cs =>
          rw [e, e2] at G
          obtain ⟨hz, G⟩ := iteR G
          obtain ⟨q, ws, rfl, h5, h6⟩ := lst_read S ry e2
          exact ⟨p, q, vs, ws, rfl, rfl, h3, h5, by rw [h4.length, h6.length, ← big_line]; exact hz, Good.setL (α := A) S hp h3 (h4.append h6) (fun _ _ => by simp [VR]) G⟩
      | dct t ks => rw [e] at G; exact False.elim G
      | lck t ks => rw [e] at G; exact False.elim G
      | ins c fs => rw [e] at G; exact False.elim G
  | [], _, G => exact False.elim G
  | a :: b :: r, _, G => exact False.elim G
theorem VRs.dropLast {Z μ : List Addr} {H : Hp} {as : List A} {vs : List V} (h : VRs N.K N.fa Z μ H as vs) : VRs N.K N.fa Z μ H as.dropLast vs.dropLast := by
  rw [List.dropLast_eq_take, List.dropLast_eq_take, h.length]
  exact VRs.take _ h
theorem m_pop0 : MtR X "list.pop" (rRef N .pop0) := by
  intro pins sh σ' H x xs v us Q I rx rxs h
  refine L2.mt_pop pins sh σ' H x xs v us Q I rx rxs ?_
  obtain ⟨n, as, s, Z, μ, W, σ, S, ra, rs, G⟩ := h
  match as, rs, G with
  | [], rs, G =>
    simp only [VRs] at rs
    subst rs
    replace G : GoodE N W Z μ H σ (kPop0 n s[n]? s) Q := G
    cases e : s[n]? with
    | none => rw [e] at G; exact False.elim G
    | some c =>
      cases c with
      | lst bs =>
        obtain ⟨p, vs, rfl, hp, h3, h4⟩ := cell_lst S ra e
        rw [e] at G
        replace G : GoodE N W Z μ H σ (kPopd n bs.getLast? (.lst bs.dropLast) s) Q := G
        cases e3 : bs.getLast? with
        | none => rw [e3] at G; exact False.elim G
        | some a =>
          rw [e3] at G
          replace G : GoodE N W Z μ H σ (.ok a (s.set n (.lst bs.dropLast))) Q := G
          rw [List.getLast?_eq_getElem?] at e3
          obtain ⟨w, h5, h6⟩ := h4.get e3
          exact ⟨p, vs, w, rfl, rfl, h3, by rw [h4.length]; exact h5, Good.setL (α := A) S hp h3 (VRs.dropLast h4) (fun H' st => VR.stay st a w h6) G⟩
      | dct t ks => rw [e] at G; exact False.elim G
      | lck t ks => rw [e] at G; exact False.elim G
      | ins c fs => rw [e] at G; exact False.elim G
  | a :: r, _, G => exact False.elim G
theorem m_insert : MtR X "list.insert" (rRef N .insert) := by
  intro pins sh σ' H x xs v us Q I rx rxs h
  refine L2.mt_insert pins sh σ' H x xs v us Q I rx rxs ?_
  obtain ⟨n, as, s, Z, μ, W, σ, S, ra, rs, G⟩ := h
  match as, rs, G with
  | [.int i, a], rs, G =>
    simp only [VRs, VR] at rs
    obtain ⟨y0, r0, rfl, rfl, y, r, rfl, ry, rfl⟩ := rs
    replace G : GoodE N W Z μ H σ (kIns n i a s[n]? s) Q := G
    cases e : s[n]? with
    | none => rw [e] at G; exact False.elim G
    | some c =>
      cases c with
      | lst bs =>
        obtain ⟨p, vs, rfl, hp, h3, h4⟩ := cell_lst S ra e
        rw [e] at G
        obtain ⟨hz, G⟩ := iteR G
        exact ⟨p, vs, i, y, rfl, rfl, h3, by rw [h4.length, ← big_line]; exact hz.1, hz.2.1, by have := hz.2.2; omega, Good.setL (α := A) S hp h3 (((VRs.take _ h4).append (VRs.one ry)).append (VRs.drop _ h4)) (fun _ _ => by simp [VR]) G⟩
      | dct t ks => rw [e] at G; exact False.elim G
      | lck t ks => rw [e] at G; exact False.elim G
      | ins c fs => rw [e] at G; exact False.elim G
  | [], _, G => exact False.elim G
  | [a], _, G => cases a <;> exact False.elim G
  | [.non, _], _, G => exact False.elim G
  | [.bl _, _], _, G => exact False.elim G
  | [.str _, _], _, G => exact False.elim G
  | [.tup _, _], _, G => exact False.elim G
  | [.ctp _, _], _, G => exact False.elim G
  | [.lst _, _], _, G => exact False.elim G
  | [.dct _ _, _], _, G => exact False.elim G
  | [.ref _, _], _, G => exact False.elim G
  | [.fn _, _], _, G => exact False.elim G
  | a :: b :: c :: r, _, G => cases a <;> exact False.elim G
theorem findIdx_spec {α : Type} {p : α → Bool} : ∀ {xs : List α} {j : Nat}, xs.findIdx? p = some j → ∃ a, xs[j]? = some a ∧ p a = true ∧ ∀ m b, m < j → xs[m]? = some b → p b = false
  | [], j, h => by simp at h
  | x :: xs, j, h => by
    rw [List.findIdx?_cons] at h
    cases hx : p x with
    | true => rw [hx] at h; cases h; exact ⟨x, rfl, hx, fun m b hm => absurd hm (Nat.not_lt_zero m)⟩
    | false =>
      rw [hx] at h
      obtain ⟨k, e, rfl⟩ := Option.map_eq_some_iff.mp (show (xs.findIdx? p).map _ = some j from h)
      obtain ⟨a, h1, h2, h3⟩ := findIdx_spec e
      refine ⟨a, by simpa using h1, h2, fun m b hm hb => ?_⟩
      cases m with
      | zero => simp at hb; subst hb; exact hx
      | succ m => exact h3 m b (by omega) (by simpa using hb)
theorem toDs_get {ds : List A} {j : Nat} {z : PyData} (h : (toDs ds)[j]? = some z) : ∃ d, ds[j]? = some d ∧ z = toD d := by
  rw [toDs_map, List.getElem?_map] at h
  obtain ⟨d, h1, rfl⟩ := Option.map_eq_some_iff.mp h
  exact ⟨d, h1, rfl⟩
theorem purs_get {ds : List A} {j : Nat} {d : A} (h : purs ds = true) (e : ds[j]? = some d) : pur d = true := by
  induction ds generalizing j with
  | nil => simp at e
  | cons a ds ih =>
    have h' : pur a = true ∧ purs ds = true := Bool.and_eq_true_iff.mp h
    cases j with
    | zero => simp at e; subst e; exact h'.1
    | succ j => exact ih h'.2 (by simpa using e)
theorem m_lindex (hK : X.K = N.K) (hu : X.A.units + 65 < cLine) : MtR X "list.index" (rMt N .lindex fz) := by
  intro pins sh σ' H x xs v us Q I rx rxs h
  refine L2.mt_indexD hu pins sh σ' H x xs v us Q I rx rxs ?_
  rw [hK]
  obtain ⟨o, as, s, Z, μ, W, σ, S, ra, rs, G⟩ := h
  have key : ∀ a, as = [a] → GoodE N W Z μ H σ (kLix ((lstOf s o).bind (mapO (deep s 60))) (deep s 60 a) s) Q → L2.rIndexD N.K x xs H Q := by
    clear G
    rintro a rfl G
    simp only [VRs] at rs
    obtain ⟨y, r, rfl, ry, rfl⟩ := rs
    cases e1 : lstOf s o with
    | none => rw [e1] at G; exact False.elim G
    | some bs =>
      cases e2 : mapO (deep s 60) bs with
      | none => rw [e1] at G; simp only [Option.bind_some, e2] at G; exact False.elim G
      | some ds =>
        cases e3 : deep s 60 a with
        | none => rw [e1, e3] at G; simp only [Option.bind_some, e2] at G; exact False.elim G
        | some d =>
          rw [e1, e3] at G
          simp only [Option.bind_some, e2] at G
          replace G : GoodE N W Z μ H σ (kOpI ((ds.findIdx? (fun z => eqA z d)).map Int.ofNat) s) Q := G
          cases e4 : ds.findIdx? (fun z => eqA z d) with
          | none => rw [e4] at G; exact False.elim G
          | some j =>
            rw [e4] at G
            obtain ⟨p, vs, rfl, h1, h2⟩ := lst_read S ra e1
            have k1 := deep_ok S 60 a y d ry e3
            obtain ⟨q1, q2, q3, q4⟩ := mapO_dp (deep_ok S 60) bs vs ds h2 e2
            obtain ⟨b, f1, f2, f3⟩ := findIdx_spec e4
            refine ⟨p, y, toD d, toDs ds, j, toD b, rfl, rfl, .lst h1.sq q1, k1.dp, Bool.and_eq_true_iff.mpr ⟨q2, decide_eq_true ?_⟩, k1.shaped, ?_, ?_, ?_, Good.here (a := A.int j) G S (by simp [VR])⟩
            · show PyData.depthAll (toDs ds) + 1 ≤ 64
              omega
            · rw [toDs_map, List.getElem?_map, f1]; rfl
            · rw [← eqA_eqv b d (purs_get q4 f1) k1.pu]; exact f2
            · intro m z' hm hz
              obtain ⟨b', g1, rfl⟩ := toDs_get hz
              rw [← eqA_eqv b' d (purs_get q4 g1) k1.pu]
              exact f3 m b' hm g1
  match as, G with
  | [a], G => exact key a rfl (by cases o <;> first | exact G | exact False.elim G)
  | [], G => cases o <;> exact False.elim G
  | a :: b :: r, G => cases o <;> exact False.elim G
/-! ### methods of texts -/
def rTxt (N : Nm) (m : BM) (fz : Bool) : V → List V → Hp → VK → Prop := fun x xs H Q => ∃ z as s Z μ W σ, SR N.K N.fa N.cv Z μ s H ∧ VR N.K N.fa Z μ H (.str z) x ∧ VRs N.K N.fa Z μ H as xs ∧ GoodE N W Z μ H σ (bmS m fz z as s) Q
theorem strs_new {ys : List Str} {as : List A} {s : Sto} {Z μ : List Addr} {H : Hp} {W : WX} {σ : St} {Q : VK} (S : SR N.K N.fa N.cv Z μ s H) (e : as = ys.map fun z => A.str (ofS z)) (hy : ∀ z ∈ ys, strOk (ofS z)) (G : GoodE N W Z μ H σ (mkL fz as s) Q) : L2.rNewStrs ys H Q := by
  have r : ∀ ys : List Str, (∀ z ∈ ys, strOk (ofS z)) → VRs N.K N.fa Z μ H (ys.map fun z => A.str (ofS z)) (ys.map V.str) := by
    intro ys
    induction ys with
    | nil => intro _; simp [VRs]
    | cons y ys ih =>
      intro h
      simp only [List.map_cons, VRs, VR]
      exact ⟨_, _, rfl, ⟨rfl, h y (by simp)⟩, ih fun z hz => h z (by simp [hz])⟩
  subst e
  exact Good.mkL S (r ys hy) G
/-! ### methods of dicts -/
theorem isB_dict {Z μ : List Addr} {H : Hp} {s : Sto} {a : A} {v : V} (S : SR N.K N.fa N.cv Z μ s H) (r : VR N.K N.fa Z μ H a v) (h : isB .dict a s = true) : ∃ p, v = .ref p ∧ IsD H p := by
  have go : ∀ t ks, dctOf s a = some (t, ks) → ∃ p, v = .ref p ∧ IsD H p := fun t ks e => let ⟨p, e1, d⟩ := dct_read S r e; ⟨p, e1, d.isD⟩
  cases a <;> first | cases h | skip
  · exact go _ _ rfl
  · rename_i n
    replace h : isC .dict s[n]? = true := h
    cases e : s[n]? with
    | none => rw [e] at h; cases h
    | some c =>
      rw [e] at h
      cases c with
      | lst as => cases h
      | ins c fs => cases h
      | dct t ks => exact go t ks (by show kDct1 s[n]? = _; rw [e]; rfl)
      | lck t ks => exact go t ks (by show kDct1 s[n]? = _; rw [e]; rfl)
variable {Γ : Env} {W : WX}
theorem bmA_get {fz : Bool} {o k d : A} {s : Sto} : bmA .get fz o [k, d] s = kGet k d (dctOf s o) s ∨ bmA .get fz o [k, d] s = .bad := by
  cases o <;> first | exact .inl rfl | exact .inr rfl
theorem t_get {o k d : E} (σ : St) (H : Hp) (Q : VK) (h : tE N Γ W (.bm .get fz o [k, d]) σ H Q) : L2.tDGet2 (tE N Γ W o) (tE N Γ W k) (tE N Γ W d) σ H Q := by
  obtain ⟨l, s, Z, μ, S, L, G⟩ := h
  replace G : GoodE N W Z μ H σ ((evE Γ o l s).bind (kBm1 l (evEs Γ [k, d]) .get fz)) Q := G
  refine ⟨l, s, Z, μ, S, L, Good.bind G fun a s1 μ1 H1 v _ e1 S1 r1 G1 => ?_⟩
  have L1 := Good.lr S L e1
  replace G1 : GoodE N W Z μ1 H1 σ (if isB .dict a s1 = true then (evEs Γ [k, d] l s1).bind (kBm2 .get fz a) else .bad) Q := G1
  obtain ⟨hb, G1⟩ := iteR G1
  obtain ⟨p, rfl, hd⟩ := isB_dict S1 r1 hb
  refine ⟨p, rfl, hd, ?_⟩
  have as1 : (evEs Γ [k, d] l s1).bind (kBm2 .get fz a) = (evE Γ k l s1).bind fun x s => (evE Γ d l s).bind fun y s => bmA .get fz a [x, y] s := by
    show ((evE Γ k l s1).bind (kCons1 (evEs Γ [d]) l)).bind (kBm2 .get fz a) = _
    cases evE Γ k l s1 with
    | ok x s2 =>
      show (((evE Γ d l s2).bind (kCons1 (evEs Γ []) l)).bind (kCons2 x)).bind (kBm2 .get fz a) = (evE Γ d l s2).bind fun y s => bmA .get fz a [x, y] s
      cases evE Γ d l s2 <;> rfl
    | exc x s2 => rfl
    | bad => rfl
  rw [as1] at G1
  refine ⟨l, s1, Z, μ1, S1, L1, Good.bind G1 fun x s2 μ2 H2 y _ e2 S2 r2 G2 => ?_⟩
  have L2' := Good.lr S1 L1 e2
  refine ⟨l, s2, Z, μ2, S2, L2', Good.bind G2 fun z s3 μ3 H3 w _ e3 S3 r3 G3 => ?_⟩
  rcases bmA_get (fz := fz) (o := a) (k := x) (d := z) (s := s3) with e | e
  · rw [e] at G3
    cases ed : dctOf s3 a with
    | none => rw [ed] at G3; exact False.elim G3
    | some tk =>
      obtain ⟨t, ks⟩ := tk
      rw [ed] at G3
      replace G3 : GoodE N W Z μ3 H3 σ (if isKey t x = true then .ok ((dget ks x).getD z) s3 else .bad) Q := G3
      obtain ⟨hk, G3⟩ := iteR G3
      obtain ⟨q, e4, dr⟩ := dct_read S3 (VR.stay ((e2.trans e3).stay S1.noTup) _ _ r1) ed
      cases e4
      obtain ⟨ov, g, hg⟩ := dr.get hk (VR.stay (e3.stay S2.noTup) _ _ r2)
      refine ⟨ov, g, ?_⟩
      rcases hg with ⟨k1, rfl⟩ | ⟨a', v', k1, rfl, k2⟩
      · rw [k1] at G3; exact G3.here S3 r3
      · rw [k1] at G3; exact G3.here S3 k2
  · rw [e] at G3; exact False.elim G3
/-! ### clear, pop -/
theorem d_clearT {A : Around} {E : Value → Shared → Prop} {a : Addr} {kvs : List (List Key × V)} {pins : List (Addr × Obj)} {σ : St} {H : Hp} {s : Shared} {Q : Value → Shared → Prop} (I : Inv X pins σ H s) (e : H a = some (.dT kvs)) (h : ∀ s', Inv X pins σ (upd H a (.dT [])) s' → Q .none s') : wpAny (model X.prog X.w) A (call (.builtin "dict.clear") [.ref a]) Q E s := by
  obtain ⟨z, hd, xs, rel, o, es, ep, h1, h2, h3, h4, h5, h6⟩ := L2.dt_of I.hok e
  have hm : s.heap.DictRaw a es ep := ⟨o, h1, h2, h3⟩
  have hes : es.size ≤ sizeLine := by
    have l1 : es.size = xs.length := by
      have := congrArg List.length h4
      simpa using this
    rw [l1, ← Paired.length rel]
    exact z
  refine call_meetsIn PySem.F.slot_dict_clear hm.typeIs PySem.F.entry_dict_clear (PySem.F.args_dict_clear_1 _) (meets_dict_clear_raw a) ⟨es, ep, hm, hes, fun h' dd' hs => h _ ?_⟩
  obtain ⟨o', k1, k2, k3⟩ := dd'
  exact L2.d_write (t' := s.toks) I (by rw [e]; exact True.intro) hs ⟨o', k1⟩ ⟨Nat.zero_le _, hd, [], .nil, o', #[], _, k1, k2, k3, rfl, List.nodup_nil⟩
def rClrD : V → List V → Hp → VK → Prop := fun x vs H Q => ∃ a, x = .ref a ∧ vs = [] ∧ ((∃ kvs : List (Key × V), H a = some (.dK kvs) ∧ Q .non (upd H a (.dK []))) ∨ ∃ kvs : List (List Key × V), H a = some (.dT kvs) ∧ Q .non (upd H a (.dT [])))
theorem mt_clrD : MtR X "dict.clear" rClrD := by
  intro pins s σ H x xs v us Q I rx rxs h
  obtain ⟨a, rfl, rfl, h⟩ := h
  cases rx
  cases rxs
  rcases h with ⟨kvs, e, q⟩ | ⟨kvs, e, q⟩
  · exact L2.d_clear I e fun s' I' => ⟨.non, _, I', rfl, q⟩
  · exact d_clearT I e fun s' I' => ⟨.non, _, I', rfl, q⟩
theorem m_clear : MtR X "dict.clear" (rRef N .clear) := by
  intro pins sh σ' H x xs v us Q I rx rxs h
  obtain ⟨n, as, s, Z, μ, W, σ, S, ra, rs, G⟩ := h
  match as, rs, G with
  | a :: r, _, G => exact False.elim G
  | [], rs, G =>
    simp only [VRs] at rs
    subst rs
    replace G : GoodE N W Z μ H σ (kClr n s[n]? s) Q := G
    simp only [VR] at ra
    obtain ⟨p, rfl, hp⟩ := ra
    cases e : s[n]? with
    | none => rw [e] at G; exact False.elim G
    | some c =>
      obtain ⟨q, h2, hc⟩ := S.cell n _ e
      obtain rfl : p = q := Option.some.inj (hp.symm.trans h2)
      rw [e] at G
      cases c with
      | lst bs => exact False.elim G
      | lck t ks => exact False.elim G
      | ins c fs => exact False.elim G
      | dct t ks =>
        replace G : GoodE N W Z μ H σ (.ok .non (s.set n (.dct t []))) Q := G
        refine mt_clrD pins sh σ' H _ _ v us Q I rx rxs ⟨p, rfl, rfl, ?_⟩
        cases t with
        | false =>
          obtain ⟨kvs, h3, h4⟩ := hc
          refine .inl ⟨kvs, h3, G μ _ .non (Ext.mut (List.mem_of_getElem? hp) h3 rfl (by simp)) (S.mut hp h3 rfl (by simp) ⟨[], upd_same, by simp [VRk]⟩) (by simp [VR])⟩
        | true =>
          obtain ⟨kvs, h3, h4⟩ := hc
          refine .inr ⟨kvs, h3, G μ _ .non (Ext.mut (List.mem_of_getElem? hp) h3 rfl (by simp)) (S.mut hp h3 rfl (by simp) ⟨[], upd_same, by simp [VRt]⟩) (by simp [VR])⟩
end
end Py

set_option autoImplicit false
set_option linter.all false
set_option Elab.async false
set_option maxRecDepth 100000
set_option maxHeartbeats 4000000
/-! PyI: more walks. -/
namespace Py
open PySem
open L2 (V Hp HO Rd SqL SqT Cx Inv PE PT PA PS PSs PG PGs PI TE TT TA TS TG TGs TI It Ends VK XK WX St Room upd upd_same upd_ne ne_of_none Key kV RelV Vals R2 OpR UnR CallR tOp Itl Itt Itr)
section
variable {N : Nm} {Γ : Env} {W : WX} {Z μ μ' : List Addr} {H H' : Hp} {σ : St} {s : Sto} {l : Loc} {D : Ends}
/-- len(x), its bound known -/
def rLen (K : PySem.W.Frag) : List V → Hp → VK → Prop := fun xs H Q => ∃ x n, xs = [x] ∧ L2.LenV K x H n ∧ (n ≤ sizeLine → Q (.int n) H)
theorem call_lenB {X : Cx} : CallR X (.builtin "len") (rLen X.K) := by
  intro pins s σ H xs us Q I r h
  obtain ⟨x, n, rfl, hl, q⟩ := h
  refine L2.call_len pins s σ H [x] us Q I r ⟨x, n, rfl, hl, q ?_⟩
  cases x with
  | str y => obtain ⟨h1, h2⟩ := (show y.length ≤ sizeLine ∧ n = y.length from hl); omega
  | byt y => obtain ⟨h1, h2⟩ := (show y.size ≤ sizeLine ∧ n = y.size from hl); omega
  | ref p =>
    rcases (show (∃ xs, SqL X.K H p xs ∧ n = xs.length) ∨ ∃ xs, SqT X.K H p xs ∧ n = xs.length from hl) with ⟨vs, h1, rfl⟩ | ⟨vs, h1, rfl⟩
    · obtain ⟨_, _, _, h⟩ := I.list h1; exact h
    · obtain ⟨_, _, _, h⟩ := I.tuple h1; exact h
  | _ => exact False.elim hl
theorem rlen_read (S : SR N.K N.fa N.cv Z μ s H) {a : A} {v : V} {items : List A} (r : VR N.K N.fa Z μ H a v) (h : rlenA a s = some items) : ∃ n, items = upFrom 0 1 n ∧ L2.LenV N.K v H n := by
  have seq : ∀ xs, seqOf s a = some xs → ∃ n, upFrom 0 1 xs.length = upFrom 0 1 n ∧ L2.LenV N.K v H n := by
    intro xs e
    obtain ⟨p, vs, rfl, h1, h2⟩ := seq_read S r e
    refine ⟨vs.length, by rw [h2.length], ?_⟩
    rcases h1 with h1 | h1
    · exact .inl ⟨vs, h1, rfl⟩
    · exact .inr ⟨vs, h1, rfl⟩
  cases a with
  | str x =>
    cases h
    simp only [VR] at r
    obtain ⟨rfl, hx⟩ := r
    exact ⟨x.length, rfl, by rw [toS_len, ← big_line]; exact hx.1, (toS_len x).symm⟩
  | tup as => cases h; exact seq as rfl
  | ctp as => cases h; exact seq as rfl
  | lst as => cases h; exact seq as rfl
  | ref n =>
    obtain ⟨xs, e, rfl⟩ := Option.map_eq_some_iff.mp (show (seqOf s (.ref n)).map (fun xs => upFrom 0 1 xs.length) = some items from h)
    exact seq xs e
  | _ => cases h
theorem it_up {lo : Int} {as : List A} {k : IK} {n : Nat} : ItR N Z μ H k as (upFrom lo 1 n) (Itr lo n) := by
  intro Z' hz i μ s H e S hi
  refine ⟨fun q => by rw [upFrom_len] at q; exact q, fun a q => ?_⟩
  have hn : i < n := by have := (List.getElem?_eq_some_iff.mp q).1; rwa [upFrom_len] at this
  rw [upFrom_get 1 n i lo hn] at q
  cases q
  refine ⟨hn, fun x H' y => ?_⟩
  obtain ⟨rfl, rfl⟩ := y
  exact ⟨Ext.refl _ _, S, by simp [VR]⟩
theorem t_rlen {e : E} (σ : St) (H : Hp) (R : It → Hp → Prop) (h : tI N Γ W .rlen [e] σ H R) : L2.iRng1 (L2.tCons (L2.tCB (rLen N.K) (tEs N Γ W [e])) L2.tNil) σ H R := by
  obtain ⟨l, s, Z, μ, S, L, G⟩ := h
  refine ⟨l, s, Z, μ, S, L, ?_⟩
  revert G
  cases hc : evEs Γ [e] l s with
  | bad => exact fun G => G
  | exc x s => exact fun G => G
  | ok as s1 =>
    intro G μ1 H1 vs e1 S1 r1
    obtain ⟨s2, μ2, items, S2, r2, hi, hJ⟩ := G μ1 H1 (as, vs) e1 S1 ⟨rfl, r1⟩
    have hl := evEs_len [e] l s s1 as hc
    match as, hl, hi, hJ, r2 with
    | [a], _, hi, hJ, r2 =>
      simp only [VRs] at r2
      obtain ⟨v, r, e2, rv, rfl⟩ := r2
      obtain rfl : vs = [v] := e2
      obtain ⟨n, rfl, hv⟩ := rlen_read S2 rv hi
      refine ⟨v, n, rfl, hv, fun hb => ?_⟩
      refine ⟨n, rfl, by omega, by rw [sizeLine_eq] at hb; omega, ?_⟩
      exact hJ _ (it_up (n := n))
/-! ### range with a step -/
theorem it_upc {lo c : Int} {as : List A} {k : IK} {n : Nat} : ItR N Z μ H k as (upFrom lo c n) (L2.Itc lo c n) := by
  intro Z' hz i μ s H e S hi
  refine ⟨fun q => by rw [upFrom_len] at q; exact q, fun a q => ?_⟩
  have hn : i < n := by have := (List.getElem?_eq_some_iff.mp q).1; rwa [upFrom_len] at this
  rw [upFrom_get c n i lo hn] at q
  cases q
  refine ⟨hn, fun x H' y => ?_⟩
  obtain ⟨rfl, rfl⟩ := y
  exact ⟨Ext.refl _ _, S, by simp [VR]⟩
theorem size_up {i j c : Int} (h0 : 0 < c) : Builtin.Range.rangeSize i j c = turnsOf i j c := by
  unfold Builtin.Range.rangeSize turnsOf
  rw [if_pos h0, if_pos h0]
  by_cases h : i < j
  · rw [if_pos h]
    have e : j - i + c - 1 = (j - i - 1) + 1 * c := by omega
    rw [e, Int.add_mul_ediv_right _ _ (by omega)]
    have : 0 ≤ (j - i - 1) / c := Int.ediv_nonneg (by omega) (by omega)
    omega
  · rw [if_neg h]
    have : (j - i + c - 1) / c < 1 := Int.ediv_lt_of_lt_mul h0 (by omega)
    omega
theorem turns_le {i j c : Int} (hi : inB i) (hj : inB j) (h0 : 0 < c) : ((turnsOf i j c : Nat) : Int) < 2 ^ 63 := by
  obtain ⟨i0, i1⟩ := hi
  obtain ⟨j0, j1⟩ := hj
  unfold turnsOf
  rw [if_pos h0]
  by_cases h : i < j
  · have e : j - i + c - 1 = (j - i - 1) + 1 * c := by omega
    rw [e, Int.add_mul_ediv_right _ _ (by omega)]
    have h2 : (j - i - 1) / c ≤ j - i - 1 := Int.ediv_le_self _ (by omega)
    omega
  · have : (j - i + c - 1) / c < 1 := Int.ediv_lt_of_lt_mul h0 (by omega)
    omega
theorem rgc_up {i j c : Int} (hi : inB i) (hj : inB j) (h0 : 0 < c) (h1 : c < 2 ^ 30) : L2.RgC i j c (turnsOf i j c) := by
  have ht := turns_le hi hj h0
  obtain ⟨i0, i1⟩ := hi
  obtain ⟨j0, j1⟩ := hj
  refine ⟨by omega, by omega, ?_, size_up h0⟩
  unfold Builtin.Range.small
  rw [size_up h0]
  simp only [Builtin.Range.rangeFitsLong, Bool.and_eq_true, Bool.or_eq_true, decide_eq_true_eq, beq_iff_eq, show c > 0 by omega, if_true]
  omega
theorem t_rng3 {e f g : E} (σ : St) (H : Hp) (R : It → Hp → Prop) (h : tI N Γ W .rng [e, f, g] σ H R) : L2.iRng3 (tEs N Γ W [e, f, g]) σ H R := by
  obtain ⟨l, s, Z, μ, S, L, G⟩ := h
  refine ⟨l, s, Z, μ, S, L, ?_⟩
  revert G
  cases hc : evEs Γ [e, f, g] l s with
  | bad => exact fun G => G
  | exc x s => exact fun G => G
  | ok as s1 =>
    intro G μ1 H1 vs e1 S1 r1
    obtain ⟨s2, μ2, items, S2, r2, hi, hJ⟩ := G μ1 H1 (as, vs) e1 S1 ⟨rfl, r1⟩
    have hl := evEs_len [e, f, g] l s s1 as hc
    match as, hl, hi, hJ, r2 with
    | [a, b, d], _, hi, hJ, r2 =>
      cases a <;> first | (simp [itA] at hi; done) | skip
      cases b <;> first | (simp [itA] at hi; done) | skip
      cases d <;> first | (simp [itA] at hi; done) | skip
      rename_i i j c _
      simp only [VRs, VR] at r2
      obtain ⟨v, r, e2, rfl, v2, r', rfl, rfl, v3, r3, rfl, rfl, rfl⟩ := r2
      obtain rfl : vs = [.int i, .int j, .int c] := e2
      replace hi : (if inB i ∧ inB j ∧ 0 < c ∧ c < 2 ^ 30 then some (upFrom i c (turnsOf i j c)) else none) = some items := hi
      by_cases hb : inB i ∧ inB j ∧ 0 < c ∧ c < 2 ^ 30
      · rw [if_pos hb] at hi
        obtain rfl := Option.some.inj hi
        exact ⟨i, j, c, _, rfl, rgc_up hb.1 hb.2.1 hb.2.2.1 hb.2.2.2, hJ _ it_upc⟩
      · rw [if_neg hb] at hi; cases hi
/-! ### lists, walked -/
/-- the list that a stands for, later -/
theorem lst_later {Z' : List Addr} {a : A} {p : Addr} {as : List A} (nt : NoTup μ H) (r : VR N.K N.fa Z μ H a (.ref p)) (hz : ∀ p ∈ Z', p ∈ Z ∨ H p = none) (e : Ext μ H μ' H') (S : SR N.K N.fa N.cv Z' μ' s H') (h : lstOf s a = some as) : ∃ vs, LL N.K H' p vs ∧ VRs N.K N.fa Z' μ' H' as vs := by
  obtain ⟨q, vs, e1, h1, h2⟩ := lst_read S (VR.stay (e.stayZ nt hz) _ _ r) h
  cases e1
  exact ⟨vs, h1, h2⟩
theorem enumA_len : ∀ (n : Nat) (as : List A), (enumA n as).length = as.length
  | _, [] => rfl
  | n, a :: as => by simp [enumA, enumA_len (n + 1) as]
theorem enumA_get : ∀ (as : List A) (n i : Nat) (a : A), (enumA n as)[i]? = some a → ∃ b, as[i]? = some b ∧ a = .tup [.int ((n + i : Nat) : Int), b]
  | [], n, i, a, h => by simp [enumA] at h
  | b :: as, n, 0, a, h => by simp [enumA] at h; exact ⟨b, rfl, by simp [h]⟩
  | b :: as, n, i + 1, a, h => by
    obtain ⟨c, h1, h2⟩ := enumA_get as (n + 1) i a (by simpa [enumA] using h)
    exact ⟨c, by simpa using h1, by rw [h2]; congr 4; omega⟩
/-- one list walked, by its items -/
theorem t_one_list {k : IK} {f : List A → List A} {e : E} {J : Addr → List V → It} (hk : ∀ a s, itA k [a] s = (lstOf s a).map f)
    (hJ : ∀ (a : A) (s : Sto) (Z μ : List Addr) (H : Hp) (p : Addr) (vs : List V) (as : List A), SR N.K N.fa N.cv Z μ s H → VR N.K N.fa Z μ H a (.ref p) → LL N.K H p vs → VRs N.K N.fa Z μ H as vs → ItR N Z μ H k [a] (f as) (J p vs))
    (σ : St) (H : Hp) (R : It → Hp → Prop) (h : tI N Γ W k [e] σ H R) : tEs N Γ W [e] σ H fun vs H1 => ∃ a xs, vs = [.ref a] ∧ SqL N.K H1 a xs ∧ R (J a xs) H1 := by
  obtain ⟨l, s, Z, μ, S, L, G⟩ := h
  refine ⟨l, s, Z, μ, S, L, ?_⟩
  revert G
  cases hc : evEs Γ [e] l s with
  | bad => exact fun G => G
  | exc x s => exact fun G => G
  | ok as s1 =>
    intro G μ1 H1 vs e1 S1 r1
    obtain ⟨s2, μ2, items, S2, r2, hi, hR⟩ := G μ1 H1 (as, vs) e1 S1 ⟨rfl, r1⟩
    have hl := evEs_len [e] l s s1 as hc
    match as, hl, hi, hR, r2 with
    | [a], _, hi, hR, r2 =>
      simp only [VRs] at r2
      obtain ⟨v, r, e2, rv, rfl⟩ := r2
      obtain rfl : vs = [v] := e2
      replace hi : itA k [a] s2 = some items := hi
      rw [hk] at hi
      obtain ⟨xs, e3, rfl⟩ := Option.map_eq_some_iff.mp hi
      obtain ⟨p, ws, rfl, h1, h2⟩ := lst_read S2 rv e3
      exact ⟨p, ws, rfl, h1.sq, hR _ (hJ a s2 Z μ2 H1 p ws xs S2 rv h1 h2)⟩
theorem it_enum {a : A} {p : Addr} {as : List A} (nt : NoTup μ H) (r : VR N.K N.fa Z μ H a (.ref p)) : ItR N Z μ H .enum [a] (enumA 0 as) (L2.Ite N.K p) := by
  intro Z' hz i μ' s' H' e S hi
  replace hi : (lstOf s' a).map (enumA 0) = some (enumA 0 as) := hi
  obtain ⟨xs, e3, e4⟩ := Option.map_eq_some_iff.mp hi
  obtain ⟨vs, h1, h2⟩ := lst_later nt r hz e S e3
  rw [← e4]
  refine ⟨fun q => ⟨vs, h1.sq, by rw [h2.length]; rwa [enumA_len] at q⟩, fun b q => ?_⟩
  obtain ⟨c, q1, rfl⟩ := enumA_get xs 0 i b q
  obtain ⟨v, k1, k2⟩ := h2.get q1
  refine ⟨⟨vs, v, h1.sq, k1⟩, fun x H2 y => ?_⟩
  obtain ⟨T, x0, rfl, hT, rfl, hx⟩ := y
  have := hx vs h1.sq
  rw [k1] at this
  cases this
  have e5 : Ext μ' H' μ' (upd H' T (.tup [.int (i : Nat), v])) := Ext.new hT
  refine ⟨e5, S.new hT, ?_⟩
  simp only [VR]
  refine ⟨T, _, rfl, upd_same, ?_⟩
  simp only [VRs, VR]
  exact ⟨_, _, rfl, by simp, _, _, rfl, VR.stay (e5.stay S.noTup) _ _ k2, rfl⟩
theorem t_enum {e : E} (σ : St) (H : Hp) (R : It → Hp → Prop) (h : tI N Γ W .enum [e] σ H R) : L2.iEnum N.K (tEs N Γ W [e]) σ H R :=
  t_one_list (J := fun p _ => L2.Ite N.K p) (f := enumA 0) (fun _ _ => rfl) (fun a s Z μ H p vs as S r h1 h2 => it_enum S.noTup r) σ H R h
theorem it_rev {a : A} {p : Addr} {as : List A} {ws : List V} (nt : NoTup μ H) (r : VR N.K N.fa Z μ H a (.ref p)) (h0 : as.length = ws.length) : ItR N Z μ H .rev [a] as.reverse (L2.Itv N.K p ws.length) := by
  intro Z' hz i μ' s' H' e S hi
  replace hi : (lstOf s' a).map List.reverse = some as.reverse := hi
  obtain ⟨xs, e3, e4⟩ := Option.map_eq_some_iff.mp hi
  have e4 : xs = as := List.reverse_inj.mp e4
  subst e4
  obtain ⟨vs, h1, h2⟩ := lst_later nt r hz e S e3
  refine ⟨fun q => by rw [List.length_reverse] at q; show ws.length ≤ i; omega, fun b q => ?_⟩
  have hl : i < xs.length := by have := (List.getElem?_eq_some_iff.mp q).1; rwa [List.length_reverse] at this
  rw [List.getElem?_reverse hl] at q
  obtain ⟨v, k1, k2⟩ := h2.get q
  rw [h0] at k1
  refine ⟨⟨by omega, vs, v, h1.sq, k1⟩, fun x H2 y => ?_⟩
  obtain ⟨rfl, y⟩ := y
  have := y vs h1.sq
  rw [k1] at this
  cases this
  exact ⟨Ext.refl _ _, S, k2⟩
theorem t_rev {e : E} (σ : St) (H : Hp) (R : It → Hp → Prop) (h : tI N Γ W .rev [e] σ H R) : L2.iRev N.K (tEs N Γ W [e]) σ H R :=
  t_one_list (J := fun p ws => L2.Itv N.K p ws.length) (f := List.reverse) (fun _ _ => rfl) (fun a s Z μ H p vs as S r h1 h2 => it_rev S.noTup r h2.length.symm) σ H R h
theorem zip2A_get : ∀ (as bs : List A) (i : Nat) (c : A), (zip2A as bs)[i]? = some c → ∃ a b, as[i]? = some a ∧ bs[i]? = some b ∧ c = .tup [a, b]
  | [], _, i, c, h => by simp [zip2A] at h
  | _ :: _, [], i, c, h => by simp [zip2A] at h
  | a :: as, b :: bs, 0, c, h => by simp [zip2A] at h; exact ⟨a, b, rfl, rfl, h.symm⟩
  | a :: as, b :: bs, i + 1, c, h => by
    obtain ⟨x, y, h1, h2, h3⟩ := zip2A_get as bs i c (by simpa [zip2A] using h)
    exact ⟨x, y, by simpa using h1, by simpa using h2, h3⟩
theorem zip2A_len : ∀ (as bs : List A), (zip2A as bs).length = min as.length bs.length
  | [], bs => by simp [zip2A]
  | _ :: _, [] => by simp [zip2A]
  | a :: as, b :: bs => by simp [zip2A, zip2A_len as bs]
theorem t_zip {e f : E} (σ : St) (H : Hp) (R : It → Hp → Prop) (h : tI N Γ W .zip [e, f] σ H R) : L2.iZip N.K (tEs N Γ W [e, f]) σ H R := by
  obtain ⟨l, s, Z, μ, S, L, G⟩ := h
  refine ⟨l, s, Z, μ, S, L, ?_⟩
  revert G
  cases hc : evEs Γ [e, f] l s with
  | bad => exact fun G => G
  | exc x s => exact fun G => G
  | ok as s1 =>
    intro G μ1 H1 vs e1 S1 r1
    obtain ⟨s2, μ2, items, S2, r2, hi, hR⟩ := G μ1 H1 (as, vs) e1 S1 ⟨rfl, r1⟩
    have hl := evEs_len [e, f] l s s1 as hc
    match as, hl, hi, hR, r2 with
    | [a, b], _, hi, hR, r2 =>
      simp only [VRs] at r2
      obtain ⟨v, r, e2, rv, w, r', rfl, rw', rfl⟩ := r2
      obtain rfl : vs = [v, w] := e2
      replace hi : kZip2 (lstOf s2 a) (lstOf s2 b) = some items := hi
      cases e3 : lstOf s2 a with
      | none => rw [e3] at hi; cases hi
      | some xs =>
      cases e4 : lstOf s2 b with
      | none => rw [e3, e4] at hi; cases hi
      | some ys =>
      rw [e3, e4] at hi
      cases hi
      obtain ⟨p, ps, rfl, h1, h2⟩ := lst_read S2 rv e3
      obtain ⟨q, qs, rfl, h3, h4⟩ := lst_read S2 rw' e4
      refine ⟨p, q, ps, qs, rfl, h1.sq, h3.sq, hR _ ?_⟩
      intro Z' hz i μ' s' H' e S hi
      replace hi : kZip2 (lstOf s' a) (lstOf s' b) = some (zip2A xs ys) := hi
      cases e5 : lstOf s' a with
      | none => rw [e5] at hi; cases hi
      | some xs' =>
      cases e6 : lstOf s' b with
      | none => rw [e5, e6] at hi; cases hi
      | some ys' =>
      rw [e5, e6] at hi
      replace hi : zip2A xs' ys' = zip2A xs ys := Option.some.inj hi
      rw [← hi]
      obtain ⟨ps', k1, k2⟩ := lst_later S2.noTup rv hz e S e5
      obtain ⟨qs', k3, k4⟩ := lst_later S2.noTup rw' hz e S e6
      refine ⟨fun z => ⟨ps', qs', k1.sq, k3.sq, ?_⟩, fun c z => ?_⟩
      · rw [zip2A_len, ← k2.length, ← k4.length] at z
        omega
      · obtain ⟨x, y, z1, z2, rfl⟩ := zip2A_get _ _ i c z
        obtain ⟨u, m1, m2⟩ := k2.get z1
        obtain ⟨u', m3, m4⟩ := k4.get z2
        refine ⟨⟨ps', qs', u, u', k1.sq, k3.sq, m1, m3⟩, fun t H2 yy => ?_⟩
        obtain ⟨T, x0, y0, rfl, hT, rfl, q1, q2⟩ := yy
        have := q1 _ k1.sq
        rw [m1] at this
        cases this
        have := q2 _ k3.sq
        rw [m3] at this
        cases this
        have e7 : Ext μ' H' μ' (upd H' T (.tup [u, u'])) := Ext.new hT
        refine ⟨e7, S.new hT, ?_⟩
        simp only [VR]
        refine ⟨T, _, rfl, upd_same, ?_⟩
        simp only [VRs]
        exact ⟨_, _, rfl, VR.stay (e7.stay S.noTup) _ _ m2, _, _, rfl, VR.stay (e7.stay S.noTup) _ _ m4, rfl⟩
end
end Py

set_option autoImplicit false
set_option linter.all false
set_option Elab.async false
set_option maxRecDepth 100000
set_option maxHeartbeats 4000000
/-! PyJ: zip of three lists. -/
namespace Py
open PySem PyProof.Rows
open L2 (V Hp HO Rd SqL SqT Cx Inv PE PT PA PS PSs PG PGs PI TE TT TA TS TG TGs TI It Ends VK XK WX St Room upd upd_same upd_ne ne_of_none Key kV RelV Vals Turn FpOk ObjOk Gl)
/-- three lists as they stand at each turn -/
def Itz3 (K : PySem.W.Frag) (a b c : Addr) : It :=
  ⟨fun i H => ∃ (xs ys zs : List V) (x y z : V), (SqL K H a xs ∧ SqL K H b ys ∧ SqL K H c zs) ∧ xs[i]? = some x ∧ ys[i]? = some y ∧ zs[i]? = some z,
    fun i H v H' => ∃ T x y z, v = .ref T ∧ H T = none ∧ H' = upd H T (.tup [x, y, z]) ∧ (∀ xs, SqL K H a xs → xs[i]? = some x) ∧ (∀ ys, SqL K H b ys → ys[i]? = some y) ∧ ∀ zs, SqL K H c zs → zs[i]? = some z,
    fun i H => ∃ xs ys zs : List V, (SqL K H a xs ∧ SqL K H b ys ∧ SqL K H c zs) ∧ (xs.length ≤ i ∨ ys.length ≤ i ∨ zs.length ≤ i)⟩
/-- the cells of the iterator -/
structure Z3 (n a b c : Nat) : Prop where
  la : a < n
  lb : b < n
  lc : c < n
theorem Z3.sep {n a b c : Nat} (D : Z3 n a b c) : ZipSep3 (n + 5 : Nat) (n + 3 : Nat) (n + 4 : Nat) n (n + 1 : Nat) (n + 2 : Nat) [n, a] [(n + 1 : Nat), b] [(n + 2 : Nat), c] := by
  obtain ⟨h1, h2, h3⟩ := D
  have nm : ∀ {x y z : Nat}, x ≠ y → x ≠ z → x ∉ ([y, z] : List Nat) := fun h1 h2 => by simp [h1, h2]
  refine ⟨?_, ?_, ?_, ?_, List.mem_cons_self .., nm ?_ ?_, nm ?_ ?_, ?_, List.mem_cons_self .., nm ?_ ?_, nm ?_ ?_, ?_, List.mem_cons_self .., nm ?_ ?_, nm ?_ ?_, nm ?_ ?_, nm ?_ ?_, nm ?_ ?_, nm ?_ ?_, nm ?_ ?_, nm ?_ ?_⟩ <;> first | omega | (show @Ne Nat _ _; omega)
/-- a list's iterator at i, wherever its end is -/
theorem dr_any {prog : Program} {w : World} {A : Around} (hh : A.handled = none) (it l : Addr) (hne : l ≠ it) (items : Array Value) (i : Nat) :
    ∃ (m : Nat) (P : Nat → Value → Prop) (St : Nat → Heap → Prop), Draws prog w A it [it, l] m P St ∧ (∀ h, h.IsListIter it l i → h.IsList l items → St i h) ∧ i ≤ m ∧ (items.size ≤ i → i = m) := by
  by_cases hi : items.size ≤ i
  · refine ⟨i, fun _ _ => False, fun j h => j = i ∧ h.IsListIter it l i ∧ h.IsList l items, ⟨fun j h ⟨_, ⟨o, ho, _⟩, _⟩ => ⟨o, ho⟩, fun j h h' ⟨e, s1, s2⟩ k => ⟨e, s1.at fun o q => k it (by simp) o q, s2.at fun o q => k l (by simp) o q⟩, fun j s Q E hj ⟨e, _⟩ => absurd e (by omega), fun s Q E ⟨_, s1, s2⟩ hE => ?_⟩, fun h s1 s2 => ⟨rfl, s1, s2⟩, Nat.le_refl _, fun _ => rfl⟩
    exact wpAny_nextOf_list_end hh s1 s2 (Array.getElem?_eq_none hi) hE
  · exact ⟨items.size, _, _, Draws.list hh it l hne items, fun h s1 s2 => ⟨s1, s2⟩, by omega, fun z => absurd z hi⟩
abbrev tn3 (n a b c : Nat) (i : Nat) (h : Heap) : Prop := IsZip h (n + 5) (n + 3) (n + 4) .none ∧ IsTupOf3 h (n + 3) (.ref n) (.ref (n + 1)) (.ref (n + 2)) ∧ (∃ x y z, IsTupOf3 h (n + 4) x y z) ∧ h.IsListIter n a i ∧ h.IsListIter (n + 1) b i ∧ h.IsListIter (n + 2) c i
abbrev fp3 (n : Nat) : List Nat := [n + 5, n + 3, n + 4, n, n + 1, n + 2]
theorem fp3_mem {n x : Nat} (h : x ∈ fp3 n) : n ≤ x ∧ x < n + 6 := by
  simp only [fp3, List.mem_cons, List.not_mem_nil, or_false] at h
  omega
theorem turn_z3 {P : Program} {w : World} {K : PySem.W.Frag} {elts : List Expr} {kk : Nat} {tpos : Pos} {n a b c : Nat} (D : Z3 n a b c) : Turn P w K (.Tuple elts kk tpos) (Itz3 K a b c) (fp3 n) (n + 5) (tn3 n a b c) where
  mem := by simp
  obj := fun i h ⟨g1, g2, ⟨x, y, z, g3⟩, ⟨o1, u1, _, v1⟩, ⟨o2, u2, _, v2⟩, ⟨o3, u3, _, v3⟩⟩ m hm => by
    simp only [fp3, List.mem_cons, List.not_mem_nil, or_false] at hm
    rcases hm with rfl | rfl | rfl | rfl | rfl | rfl
    · exact ⟨_, g1, fun v q => nomatch q⟩
    · exact ⟨_, g2, fun v q => nomatch q⟩
    · exact ⟨_, g3, fun v q => nomatch q⟩
    · exact ⟨o1, u1, fun v q => by rw [v1] at q; cases q⟩
    · exact ⟨o2, u2, fun v q => by rw [v2] at q; cases q⟩
    · exact ⟨o3, u3, fun v q => by rw [v3] at q; cases q⟩
  keep := fun i h h' ⟨g1, g2, ⟨x, y, z, g3⟩, u1, u2, u3⟩ k =>
    ⟨k _ (by simp) _ g1, k _ (by simp) _ g2, ⟨x, y, z, k _ (by simp) _ g3⟩, u1.at fun o q => k _ (by simp) o q, u2.at fun o q => k _ (by simp) o q, u3.at fun o q => k _ (by simp) o q⟩
  item := by
    intro X hP hw hK hc i pins s σ H E I hf st ⟨xs, ys, zs, x, y, z, ⟨qx, qy, qz⟩, ex, ey, ez⟩
    subst hP hw hK
    obtain ⟨g1, g2, ⟨x0, y0, z0, g3⟩, u1, u2, u3⟩ := st
    obtain ⟨ax, rx, px, _⟩ := I.list qx
    obtain ⟨ay, ry, py, _⟩ := I.list qy
    obtain ⟨az, rz, pz, _⟩ := I.list qz
    obtain ⟨wx, kx, jx⟩ := rx.get ex
    obtain ⟨wy, ky, jy⟩ := ry.get ey
    obtain ⟨wz, kz, jz⟩ := rz.get ez
    have hd : X.A.in1.handled = none := I.ok.hd hc
    have big : n + 5 < s.heap.objs.size := Heap.lt_size g1
    have ne1 : ∀ k : Nat, k < 5 → n + k ≠ n + 5 := fun k hk => by omega
    have lt1 : ∀ {l : List Value} {m : Nat} {v : Value}, l[m]? = some v → m < l.toArray.size := fun {l m v} h => by
      have := (List.getElem?_eq_some_iff.mp h).1
      simpa using this
    refine wpAny_pyNext_zipD3_item D.sep (Draws.list hd n a (Nat.ne_of_lt D.la) ax.toArray) (Draws.list hd (n + 1) b (show @Ne Nat b (n + 1) from by have := D.lb; omega) ay.toArray) (Draws.list hd (n + 2) c (show @Ne Nat c (n + 2) from by have := D.lc; omega) az.toArray)
      g1 g2 g3 ⟨u1, px.isList⟩ ⟨u2, py.isList⟩ ⟨u3, pz.isList⟩ (lt1 kx) (lt1 ky) (lt1 kz) fun v1 v2 v3 h' tk e1 e2 e3 w1 w2 w3 w4 w5 hT hsz hk => ?_
    have f1 : v1 = wx := by
      have : ax[i]? = some v1 := by simpa using e1
      rw [kx] at this; exact (Option.some.inj this).symm
    have f2 : v2 = wy := by
      have : ay[i]? = some v2 := by simpa using e2
      rw [ky] at this; exact (Option.some.inj this).symm
    have f3 : v3 = wz := by
      have : az[i]? = some v3 := by simpa using e3
      rw [kz] at this; exact (Option.some.inj this).symm
    subst f1 f2 f3
    refine ⟨_, rfl, wpAny_letOwnedTupleGo_zip (s := { s with heap := h', toks := tk }) w1 fun h'' z'' sb => ?_⟩
    have hT2 : h''.get? s.heap.objs.size = some { cls := .type "tuple", data := .seq #[v1, v2, v3] } := (sb.2 _ (Nat.ne_of_gt big)).trans hT
    have out : ∀ m o, m ∉ fp3 n → s.heap.get? m = some o → h''.get? m = some o := fun (m : Nat) o hm q => by
      simp only [fp3, List.mem_cons, List.not_mem_nil, or_false, not_or] at hm
      exact (sb.2 m hm.1).trans (hk m o hm.1 hm.2.2.1 hm.2.2.2.1 hm.2.2.2.2.1 hm.2.2.2.2.2 q)
    have I1 : Inv X pins σ (upd H s.heap.objs.size (.tup [x, y, z])) { s with heap := h'', toks := tk } :=
      I.turnedNew (t' := tk) (ch := fp3 n) out hf (Nat.le_refl _) ⟨by show 3 ≤ sizeLine; decide, [v1, v2, v3], .cons jx (.cons jy (.cons jz .nil)), ⟨_, hT2, rfl, _, rfl⟩⟩
    have sx : ∀ m, m ≠ n + 5 → h''.get? m = h'.get? m := fun m hm => sb.2 m hm
    refine ⟨.ref s.heap.objs.size, _, I1, rfl, ⟨_, x, y, z, rfl, I.hok.fresh (Nat.le_refl _), rfl, fun l hl => by rw [I.list_inj hl qx]; exact ex, fun l hl => by rw [I.list_inj hl qy]; exact ey, fun l hl => by rw [I.list_inj hl qz]; exact ez⟩,
      ⟨z'', (sx _ (ne1 3 (by omega))).trans (hk _ _ (ne1 3 (by omega)) D.sep.TITO D.sep.TIi1 D.sep.TIi2 D.sep.TIi3 g2), ⟨v1, v2, v3, (sx _ (ne1 4 (by omega))).trans w2⟩, w3.1.at fun o q => (sx _ (ne1 0 (by omega))).trans q, w4.1.at fun o q => (sx _ (ne1 1 (by omega))).trans q, w5.1.at fun o q => (sx _ (ne1 2 (by omega))).trans q⟩, fun (m : Nat) hm => ?_⟩
    · have := fp3_mem hm
      rw [upd_ne (show m ≠ s.heap.objs.size from by have : m < n + 6 := this.2; omega)]
      exact (hf m hm).1
  done := by
    intro X hP hw hK hc i pins s σ H E I hf st ⟨xs, ys, zs, ⟨qx, qy, qz⟩, hend⟩
    subst hP hw hK
    obtain ⟨g1, g2, ⟨x0, y0, z0, g3⟩, u1, u2, u3⟩ := st
    obtain ⟨ax, rx, px, _⟩ := I.list qx
    obtain ⟨ay, ry, py, _⟩ := I.list qy
    obtain ⟨az, rz, pz, _⟩ := I.list qz
    have hd : X.A.in1.handled = none := I.ok.hd hc
    have sx : ax.toArray.size = xs.length := by simp [rx.length]
    have sy : ay.toArray.size = ys.length := by simp [ry.length]
    have sz : az.toArray.size = zs.length := by simp [rz.length]
    obtain ⟨m1, P1, S1, d1, b1, c1, l1⟩ := dr_any (prog := X.prog) (w := X.w) (A := X.A.in1) hd n a (Nat.ne_of_lt D.la) ax.toArray i
    obtain ⟨m2, P2, S2, d2, b2, c2, l2⟩ := dr_any (prog := X.prog) (w := X.w) (A := X.A.in1) hd (n + 1) b (show @Ne Nat b (n + 1) from by have := D.lb; omega) ay.toArray i
    obtain ⟨m3, P3, S3, d3, b3, c3, l3⟩ := dr_any (prog := X.prog) (w := X.w) (A := X.A.in1) hd (n + 2) c (show @Ne Nat c (n + 2) from by have := D.lc; omega) az.toArray i
    refine wpAny_pyNext_zipD3_end D.sep d1 d2 d3 g1 g2 g3 (b1 _ u1 px.isList) (b2 _ u2 py.isList) (b3 _ u3 pz.isList) c1 c2 c3 (by rcases hend with q | q | q <;> omega) fun h' tk hk => ⟨rfl, ?_⟩
    refine I.turnedL (t' := tk) (ch := fp3 n) (fun (m : Nat) o hm q => ?_) hf
    simp only [fp3, List.mem_cons, List.not_mem_nil, or_false, not_or] at hm
    exact hk m o hm.1 hm.2.2.1 hm.2.2.2.1 hm.2.2.2.2.1 hm.2.2.2.2.2 q
  self := fun A i s Q E st h => wpAny_pyIter_zip st.1 h
section
variable {X : Cx}
def iZip3 (K : PySem.W.Frag) (ta : TA) : TI := fun σ H R => ta σ H fun vs H1 => ∃ a b c xs ys zs, vs = [.ref a, .ref b, .ref c] ∧ (SqL K H1 a xs ∧ SqL K H1 b ys ∧ SqL K H1 c zs) ∧ R (Itz3 K a b c) H1
theorem pi_zip3 {e e2 e3 : Expr} {ta : TA} {p pos tpos : Pos} {elts : List Expr} {kk : Nat} (hg : Gl X "zip") (hm : X.mg "zip" = none) (ha : PA X [e, e2, e3] ta)
    (hs : starEach [e, e2, e3] X.env = (false, eval e X.env) :: starEach [e2, e3] X.env) (hpl : (backTo pos (starEach [e2, e3] X.env)).any (·.1) = false) : PI X (.Tuple elts kk tpos) (.Call (.Name "zip" p) [e, e2, e3] [] pos) (iZip3 X.K ta) := by
  constructor
  intro pins s σ H R I h
  refine Call_ (L2.ld_blt I hg hm PyProof.Rows.boot_zip (PyProof.Rows.callWith_type1 (L2.thn (ha.run pos pins s σ H _ I h) ?_) hs hpl))
  rintro us s1 ⟨vs, H1, I1, r1, a, b, c, xs, ys, zs, rfl, ⟨qx, qy, qz⟩, q⟩
  cases r1 with
  | cons ra rr =>
  cases rr with
  | cons rb rr =>
  cases rr with
  | cons rc rr =>
  cases rr
  cases ra
  cases rb
  cases rc
  obtain ⟨ax, rx, px, _⟩ := I1.list qx
  obtain ⟨ay, ry, py, _⟩ := I1.list qy
  obtain ⟨az, rz, pz, _⟩ := I1.list qz
  refine zip_begins3 (begins_list a ax.toArray) (begins_list b ay.toArray) (begins_list c az.toArray) px.isList py.isList pz.isList fun h' hz hT hO i1 i2 i3 hsz hk => wpAny_pyIter_zip hz ?_
  refine ⟨s1.heap.objs.size + 5, fp3 s1.heap.objs.size, _, _, H1, rfl, I1.kept (t' := s1.toks) hk, turn_z3 ⟨px.lt, py.lt, pz.lt⟩, ⟨hz, hT, ⟨_, _, _, hO⟩, ⟨_, i1, rfl, rfl⟩, ⟨_, i2, rfl, rfl⟩, ⟨_, i3, rfl, rfl⟩⟩, fun m hm => ?_, q⟩
  have hle : s1.heap.objs.size ≤ m := (fp3_mem hm).1
  exact I1.fpOk hle (I1.hok.fresh hle)
end
theorem zip3A_get : ∀ (as bs cs : List A) (i : Nat) (d : A), (zip3A as bs cs)[i]? = some d → ∃ a b c, as[i]? = some a ∧ bs[i]? = some b ∧ cs[i]? = some c ∧ d = .tup [a, b, c]
  | [], _, _, i, d, h => by simp [zip3A] at h
  | _ :: _, [], _, i, d, h => by simp [zip3A] at h
  | _ :: _, _ :: _, [], i, d, h => by simp [zip3A] at h
  | a :: as, b :: bs, c :: cs, 0, d, h => by simp [zip3A] at h; exact ⟨a, b, c, rfl, rfl, rfl, h.symm⟩
  | a :: as, b :: bs, c :: cs, i + 1, d, h => by
    obtain ⟨x, y, z, h1, h2, h3, h4⟩ := zip3A_get as bs cs i d (by simpa [zip3A] using h)
    exact ⟨x, y, z, by simpa using h1, by simpa using h2, by simpa using h3, h4⟩
theorem zip3A_len : ∀ (as bs cs : List A), (zip3A as bs cs).length = min as.length (min bs.length cs.length)
  | [], bs, cs => by simp [zip3A]
  | _ :: _, [], _ => by simp [zip3A]
  | _ :: _, _ :: _, [] => by simp [zip3A]
  | a :: as, b :: bs, c :: cs => by simp [zip3A, zip3A_len as bs cs]
section
variable {N : Nm} {Γ : Env} {W : WX}
theorem t_zip3 {e f g : E} (σ : L2.St) (H : Hp) (R : It → Hp → Prop) (h : tI N Γ W .zip [e, f, g] σ H R) : iZip3 N.K (tEs N Γ W [e, f, g]) σ H R := by
  obtain ⟨l, s, Z, μ, S, L, G⟩ := h
  refine ⟨l, s, Z, μ, S, L, ?_⟩
  revert G
  cases hc : evEs Γ [e, f, g] l s with
  | bad => exact fun G => G
  | exc x s => exact fun G => G
  | ok as s1 =>
    intro G μ1 H1 vs e1 S1 r1
    obtain ⟨s2, μ2, items, S2, r2, hi, hR⟩ := G μ1 H1 (as, vs) e1 S1 ⟨rfl, r1⟩
    have hl := evEs_len [e, f, g] l s s1 as hc
    match as, hl, hi, hR, r2 with
    | [a, b, c], _, hi, hR, r2 =>
      simp only [VRs] at r2
      obtain ⟨v, r, e2, rv, w, r', rfl, rw', u, r'', rfl, ru, rfl⟩ := r2
      obtain rfl : vs = [v, w, u] := e2
      replace hi : kZip3 (lstOf s2 a) (lstOf s2 b) (lstOf s2 c) = some items := hi
      cases e3 : lstOf s2 a with
      | none => rw [e3] at hi; cases hi
      | some xs =>
      cases e4 : lstOf s2 b with
      | none => rw [e3, e4] at hi; cases hi
      | some ys =>
      cases e5 : lstOf s2 c with
      | none => rw [e3, e4, e5] at hi; cases hi
      | some zs =>
      rw [e3, e4, e5] at hi
      cases hi
      obtain ⟨p, ps, rfl, h1, h2⟩ := lst_read S2 rv e3
      obtain ⟨q, qs, rfl, h3, h4⟩ := lst_read S2 rw' e4
      obtain ⟨m, ms, rfl, h5, h6⟩ := lst_read S2 ru e5
      refine ⟨p, q, m, ps, qs, ms, rfl, ⟨h1.sq, h3.sq, h5.sq⟩, hR _ ?_⟩
      intro Z' hz i μ' s' H' e S hi
      replace hi : kZip3 (lstOf s' a) (lstOf s' b) (lstOf s' c) = some (zip3A xs ys zs) := hi
      cases e6 : lstOf s' a with
      | none => rw [e6] at hi; cases hi
      | some xs' =>
      cases e7 : lstOf s' b with
      | none => rw [e6, e7] at hi; cases hi
      | some ys' =>
      cases e8 : lstOf s' c with
      | none => rw [e6, e7, e8] at hi; cases hi
      | some zs' =>
      rw [e6, e7, e8] at hi
      replace hi : zip3A xs' ys' zs' = zip3A xs ys zs := Option.some.inj hi
      rw [← hi]
      obtain ⟨ps', k1, k2⟩ := lst_later S2.noTup rv hz e S e6
      obtain ⟨qs', k3, k4⟩ := lst_later S2.noTup rw' hz e S e7
      obtain ⟨ms', k5, k6⟩ := lst_later S2.noTup ru hz e S e8
      refine ⟨fun z => ⟨ps', qs', ms', ⟨k1.sq, k3.sq, k5.sq⟩, ?_⟩, fun d z => ?_⟩
      · rw [zip3A_len, ← k2.length, ← k4.length, ← k6.length] at z
        omega
      · obtain ⟨x, y, t, z1, z2, z3, rfl⟩ := zip3A_get _ _ _ i d z
        obtain ⟨u1, m1, n1⟩ := k2.get z1
        obtain ⟨u2, m2, n2⟩ := k4.get z2
        obtain ⟨u3, m3, n3⟩ := k6.get z3
        refine ⟨⟨ps', qs', ms', u1, u2, u3, ⟨k1.sq, k3.sq, k5.sq⟩, m1, m2, m3⟩, fun t H2 yy => ?_⟩
        obtain ⟨T, x0, y0, z0, rfl, hT, rfl, q1, q2, q3⟩ := yy
        have := q1 _ k1.sq
        rw [m1] at this
        cases this
        have := q2 _ k3.sq
        rw [m2] at this
        cases this
        have := q3 _ k5.sq
        rw [m3] at this
        cases this
        have ee : Ext μ' H' μ' (upd H' T (.tup [u1, u2, u3])) := Ext.new hT
        refine ⟨ee, S.new hT, ?_⟩
        simp only [VR]
        refine ⟨T, _, rfl, upd_same, ?_⟩
        simp only [VRs]
        exact ⟨_, _, rfl, VR.stay (ee.stay S.noTup) _ _ n1, _, _, rfl, VR.stay (ee.stay S.noTup) _ _ n2, _, _, rfl, VR.stay (ee.stay S.noTup) _ _ n3, rfl⟩
end
end Py

set_option autoImplicit false
set_option linter.all false
set_option Elab.async false
set_option maxRecDepth 100000
set_option maxHeartbeats 4000000
/-! PyQ: dict displays. -/
namespace Py
open PySem
open L2 (V Hp HO Rd SqL SqT Cx Inv PE PT PA PS PSs PG PGs PI TE TT TA TS TG TGs TI It Ends VK XK WX St Room upd upd_same upd_ne ne_of_none Key kV RelV Vals R2 OpR UnR CallR tOp putK mergeK tPairs)
section
variable {N : Nm} {Γ : Env} {W : WX} {Z μ μ' : List Addr} {H H' : Hp} {σ : St} {s : Sto} {l : Loc}
/-- {} -/
theorem t_dct0 {fz : Bool} (σ : St) (H : Hp) (Q : VK) (h : tE N Γ W (.dct fz false []) σ H Q) : L2.tDNewK σ H Q := by
  obtain ⟨l, s, Z, μ, S, L, G⟩ := h
  replace G : GoodE N W Z μ H σ (mkD fz false [] s) Q := G
  intro p hp
  cases fz with
  | true =>
    have e : Ext μ H μ (upd H p (.dK [])) := Ext.new hp
    refine G _ _ _ e (S.new hp) ?_
    simp only [VR]
    exact ⟨p, [], rfl, .inl upd_same, fun z => S.tracked z hp, fun z => S.res p z hp, by simp [VRk]⟩
  | false =>
    have e : Ext μ H (μ ++ [p]) (upd H p (.dK [])) := Ext.push hp
    refine G _ _ _ e (S.push hp ⟨[], upd_same, by simp [VRk]⟩) ?_
    simp only [VR]
    exact ⟨p, rfl, by rw [← S.len]; simp⟩
theorem t_dct0T {fz : Bool} (σ : St) (H : Hp) (Q : VK) (h : tE N Γ W (.dct fz true []) σ H Q) : L2.tDNewT σ H Q := by
  obtain ⟨l, s, Z, μ, S, L, G⟩ := h
  replace G : GoodE N W Z μ H σ (mkD fz true [] s) Q := G
  intro p hp
  cases fz with
  | true =>
    have e : Ext μ H μ (upd H p (.dT [])) := Ext.new hp
    refine G _ _ _ e (S.new hp) ?_
    simp only [VR]
    exact ⟨p, [], rfl, .inl upd_same, fun z => S.tracked z hp, fun z => S.res p z hp, by simp [VRt]⟩
  | false =>
    have e : Ext μ H (μ ++ [p]) (upd H p (.dT [])) := Ext.push hp
    refine G _ _ _ e (S.push hp ⟨[], upd_same, by simp [VRt]⟩) ?_
    simp only [VR]
    exact ⟨p, rfl, by rw [← S.len]; simp⟩
/-- the readings of the pairs -/
def trs (N : Nm) (Γ : Env) (W : WX) : List E → List (TE × TE)
  | k :: v :: r => (tE N Γ W k, tE N Γ W v) :: trs N Γ W r
  | _ => []
def pairV : List V → Option (List (V × V))
  | [] => some []
  | k :: v :: r => (pairV r).map ((k, v) :: ·)
  | [_] => none
theorem pairs_run : ∀ (n : Nat) (es : List E), es.length = 2 * n → ∀ (l : Loc) (s : Sto) (Z μ : List Addr) (H : Hp) (Q : List (V × V) → Hp → Prop), SR N.K N.fa N.cv Z μ s H → LR N Z μ H l σ →
    Good N (VRs N.K N.fa Z) W Z μ H σ (evEs Γ es l s) (fun vs H' => ∃ ps, pairV vs = some ps ∧ Q ps H') → tPairs (trs N Γ W es) σ H Q
  | 0, es, hn, l, s, Z, μ, H, Q, S, L, G => by
    have : es = [] := List.length_eq_zero_iff.mp hn
    subst this
    replace G : Good N (VRs N.K N.fa Z) W Z μ H σ (.ok [] s) (fun vs H' => ∃ ps, pairV vs = some ps ∧ Q ps H') := G
    obtain ⟨ps, e, q⟩ := G.here (b := []) S (by simp [VRs])
    cases e
    exact q
  | n + 1, [], hn, _, _, _, _, _, _, _, _, _ => by simp at hn
  | n + 1, [k], hn, _, _, _, _, _, _, _, _, _ => by simp at hn; omega
  | n + 1, k :: v :: r, hn, l, s, Z, μ, H, Q, S, L, G => by
    replace G : Good N (VRs N.K N.fa Z) W Z μ H σ ((evE Γ k l s).bind (kCons1 (evEs Γ (v :: r)) l)) (fun vs H' => ∃ ps, pairV vs = some ps ∧ Q ps H') := G
    refine ⟨l, s, Z, μ, S, L, Good.bind G fun x s1 μ1 H1 kv _ e1 S1 r1 G1 => ?_⟩
    have L1 := Good.lr S L e1
    replace G1 : Good N (VRs N.K N.fa Z) W Z μ1 H1 σ (((evE Γ v l s1).bind (kCons1 (evEs Γ r) l)).bind (kCons2 x)) (fun vs H' => ∃ ps, pairV vs = some ps ∧ Q ps H') := G1
    have assoc : ((evE Γ v l s1).bind (kCons1 (evEs Γ r) l)).bind (kCons2 x) = (evE Γ v l s1).bind fun y s => ((evEs Γ r l s).bind (kCons2 y)).bind (kCons2 x) := by
      cases evE Γ v l s1 <;> rfl
    rw [assoc] at G1
    refine ⟨l, s1, Z, μ1, S1, L1, Good.bind G1 fun y s2 μ2 H2 vv _ e2 S2 r2 G2 => ?_⟩
    have L2' := Good.lr S1 L1 e2
    have assoc2 : ((evEs Γ r l s2).bind (kCons2 y)).bind (kCons2 x) = (evEs Γ r l s2).bind fun zs s => .ok (x :: y :: zs) s := by
      cases evEs Γ r l s2 <;> rfl
    rw [assoc2] at G2
    refine pairs_run n r (by simp at hn; omega) l s2 Z μ2 H2 _ S2 L2' (Good.bind G2 fun zs s3 μ3 H3 vs _ e3 S3 r3 G3 => ?_)
    have G4 := G3.here (b := kv :: vv :: vs) S3 (by
      simp only [VRs]
      exact ⟨_, _, rfl, VR.stay ((e2.trans e3).stay S1.noTup) _ _ r1, _, _, rfl, VR.stay (e3.stay S2.noTup) _ _ r2, r3⟩)
    obtain ⟨ps, e, q⟩ := G4
    replace e : (pairV vs).map ((kv, vv) :: ·) = some ps := e
    obtain ⟨ps', e', rfl⟩ := Option.map_eq_some_iff.mp e
    exact ⟨ps', e', q⟩
theorem pairs_len : ∀ {as : List A} {ps : List (A × A)}, pairs as = some ps → as.length = 2 * ps.length
  | [], ps, h => by cases h; rfl
  | [_], ps, h => by cases h
  | k :: v :: r, ps, h => by
    obtain ⟨q, e, rfl⟩ := Option.map_eq_some_iff.mp (show (pairs r).map ((k, v) :: ·) = some ps from h)
    have := pairs_len e
    simp
    omega
/-- the pairs by keys -/
theorem pairs_keys : ∀ {as : List A} {ps : List (A × A)} {vs : List V}, pairs as = some ps → ps.all (fun kv => isKey false kv.1) = true → VRs N.K N.fa Z μ H as vs →
    ∃ kvs : List (Key × V), pairV vs = some (kvs.map fun kv => (kV kv.1, kv.2)) ∧ kvs.length = ps.length ∧ ∀ ks lvs, VRk N.K N.fa Z μ H ks lvs → VRk N.K N.fa Z μ H (ps.foldl (fun d kv => dput d kv.1 kv.2) ks) (mergeK lvs kvs)
  | [], ps, vs, h, _, r => by
    cases h
    simp only [VRs] at r
    subst r
    exact ⟨[], rfl, rfl, fun ks lvs h => h⟩
  | [_], ps, vs, h, _, _ => by cases h
  | k :: v :: as, ps, vs, h, hk, r => by
    obtain ⟨q, e, rfl⟩ := Option.map_eq_some_iff.mp (show (pairs as).map ((k, v) :: ·) = some ps from h)
    rw [List.all_cons, Bool.and_eq_true] at hk
    simp only [VRs] at r
    obtain ⟨x, _, rfl, r1, y, ws, rfl, r2, r3⟩ := r
    obtain ⟨kvs, h1, h2, h3⟩ := pairs_keys e hk.2 r3
    obtain ⟨kk, e1, rfl⟩ := key_val hk.1 r1
    refine ⟨(kk, y) :: kvs, ?_, by simp [h2], fun ks lvs h => ?_⟩
    · show (pairV ws).map _ = _
      rw [h1]
      rfl
    · exact h3 _ _ (VRk.put h e1 r2)
/-- {k: v, ..} -/
theorem t_dct {fz : Bool} {es : List E} (hn : es.length ≤ 30) (he : es.length % 2 = 0) (σ : St) (H : Hp) (Q : VK) (h : tE N Γ W (.dct fz false es) σ H Q) : L2.tDisp (trs N Γ W es) σ H Q := by
  obtain ⟨l, s, Z, μ, S, L, G⟩ := h
  replace G : GoodE N W Z μ H σ ((evEs Γ es l s).bind (kDct fz false)) Q := G
  intro p hp
  have S0 := S.enter (o := .dK []) hp
  have hpz : p ∉ Z := fun z => S.res p z hp
  have st0 : Stay (K := N.K) Z μ H (p :: Z) μ (upd H p (.dK [])) := (Ext.new hp).stayZ S.noTup fun q hq => by
    rcases List.mem_cons.mp hq with e | e
    · subst e; exact .inr hp
    · exact .inl e
  refine pairs_run (es.length / 2) es (by omega) l s (p :: Z) μ _ _ S0 (L.stay st0) ?_
  cases hev : evEs Γ es l s with
  | bad => rw [hev] at G; exact False.elim G
  | exc x s1 =>
    rw [hev] at G
    intro μ1 H1 c d e1 S1 x1
    refine G μ1 H1 c d ((Ext.new hp).trans e1) S1.leave ?_
    exact x1.stay (Stay.leave Z fun q h => List.mem_cons_of_mem _ h)
  | ok as s1 =>
    rw [hev] at G
    replace G : GoodE N W Z μ H σ (kDct2 fz false (pairs as) s1) Q := G
    have hl := evEs_len es l s s1 as hev
    cases hps : pairs as with
    | none => rw [hps] at G; exact False.elim G
    | some ps =>
      rw [hps] at G
      replace G : GoodE N W Z μ H σ (if ps.all (fun kv => isKey false kv.1) = true then mkD fz false (ps.foldl (fun d kv => dput d kv.1 kv.2) []) s1 else .bad) Q := G
      obtain ⟨hk, G⟩ := iteR G
      intro μ1 H1 vs e1 S1 r1
      have hpm : p ∉ μ1 := fun z => S1.apart p z (List.mem_cons_self ..)
      have D1 : H1 p = some (.dK []) := e1.keep p _ upd_same (fun z => S.tracked z hp)
      obtain ⟨kvs, h1, h2, h3⟩ := pairs_keys hps hk r1
      refine ⟨_, h1, D1, kvs, rfl, by rw [h2]; have := pairs_len hps; omega, ?_⟩
      have hr := h3 [] [] (by simp [VRk])
      have st := Stay.res (N := N) (μ := μ1) (o1 := .dK (mergeK [] kvs)) (List.mem_cons_self (a := p) (l := Z)) D1 (by simp)
      have S2 := S1.resW (o1 := .dK (mergeK [] kvs)) (List.mem_cons_self ..) D1 (by simp)
      have hr2 := VRk.stay st _ _ hr
      have eX : Ext μ H μ1 (upd H1 p (.dK (mergeK [] kvs))) := ((Ext.new hp).trans e1).res hp
      cases fz with
      | true =>
        replace G : GoodE N W Z μ H σ (.ok (.dct false (ps.foldl (fun d kv => dput d kv.1 kv.2) [])) s1) Q := G
        refine G μ1 _ (.ref p) eX S2.leave ?_
        simp only [VR]
        exact ⟨p, _, rfl, .inl upd_same, hpm, hpz, VRk.stay (Stay.leave Z fun q h => List.mem_cons_of_mem _ h) _ _ hr2⟩
      | false =>
        replace G : GoodE N W Z μ H σ (.ok (.ref s1.length) (s1 ++ [.dct false (ps.foldl (fun d kv => dput d kv.1 kv.2) [])])) Q := G
        refine G (μ1 ++ [p]) _ (.ref p) ?_ (S2.adoptC ⟨_, upd_same, VRk.stay Stay.adopt _ _ hr2⟩ hpz) ?_
        · obtain ⟨⟨ν, q1, q2⟩, q3, q4, q5⟩ := eX
          refine ⟨⟨ν ++ [p], by rw [q1, List.append_assoc], fun q hq => ?_⟩, q3, q4, q5⟩
          rcases List.mem_append.mp hq with z | z
          · exact q2 q z
          · rw [List.mem_singleton.mp z]; exact hp
        · simp only [VR]
          exact ⟨p, rfl, by rw [← S2.len]; simp⟩
end
end Py

set_option autoImplicit false
set_option linter.all false
set_option Elab.async false
set_option maxRecDepth 100000
set_option maxHeartbeats 4000000
/-! PyR: the text's exceptions: their making. -/
namespace Py
open PySem PyProof.Rows
open L2 (V Hp HO Rd SqL SqT Cx Inv PE PT PA PS PSs PG PGs PI TE TT TA TS TG TGs TI It Ends VK XK WX St Room upd upd_same upd_ne ne_of_none Key kV RelV Vals R2 OpR UnR CallR tOp Gl FnOk Binds Sp OexC exo exd PMk XfC Takes Passes)
section
variable {X : Cx}
/-- what the written part says of the class whose __init__ is ValueError's -/
structure SwC (K : PySem.W.Frag) (S : Addr) : Prop where
  g1 : PySem.W.specialIn K (.ref S) "__getattribute__" = some (some (.builtin "type.__getattribute__"))
  g2 : PySem.W.readsIn K S (.type "type") = true
  g3 : PySem.W.findCls K (.ref S) (.type "type") "__init__" = some (.val (.builtin "ValueError.__init__"))
/-- S.__init__(self, ..) -/
theorem pe_swi {o : Str} {S : Addr} {e : Expr} {es : List Expr} {ta : TA} {p1 p2 pos : Pos} {pl : Sem Bool} (hg : Gl X o) (hm : X.mg o = some (.ref S)) (T : SwC X.K S) (hdb : (o == ("__debug__" : Str)) = false) (ha : PA X (e :: es) ta)
    (hc : eval (.Call (.Attribute (.Name o p1) "__init__" p2) (e :: es) [] pos) X.env = (do
      let f0 ← eval (.Name o p1) X.env
      standAt p2.atName
      let (f, first) ← holding [f0] (getMethod f0 "__init__" pl)
      callWith pos f first (backTo pos (starEach (e :: es) X.env)) (backToKw pos (keywordEach [] X.env))))
    (he : starEach (e :: es) X.env = (false, eval e X.env) :: starEach es X.env) (hpl : (backTo pos (starEach es X.env)).any (·.1) = false) :
    PE X (.Call (.Attribute (.Name o p1) "__init__" p2) (e :: es) [] pos) (L2.tVeI X.K ta) := by
  refine ⟨fun pins s σ H Q I h => PySem.W.methodCall_KW (L2.ld_glob I hg hm ?_ hdb) hc⟩
  refine PySem.W.method_cls I.kIn T.g1 (PySem.W.cls_value I.kIn T.g2 T.g3 rfl ?_)
  show wpAny _ _ (callWith pos (Value.builtin "ValueError.__init__") [] (backTo pos (starEach (e :: es) X.env)) []) _ _ _
  refine PyProof.Rows.callWith_method1 (L2.thn (ha.run pos pins _ σ H _ (I.tok _) h) fun us s1 ⟨vs, H1, J, rv, a, C, ws, ev, hl, TC, ea, q⟩ => ?_) he hpl
  subst ev
  cases rv with
  | @cons _ u0 _ ur r0 rw' =>
    obtain rfl : u0 = Value.ref a := r0
    refine L2.oinit_ok TC J ea ?_ fun s' J' => ⟨.non, H1, J', rfl, q⟩
    rw [← Paired.length rw', sizeLine_eq]
    omega
/-- the defs' own promises -/
def spI (C : Addr) : Sp := fun vs H Q _ => ∃ a y, vs = [.ref a, y] ∧ H a = some (exo a C none) ∧ ∀ dx f, H dx = none → dx ≠ a → Q .non (upd (upd H dx (exd dx [(f, y)])) a (exo a C (some dx)))
def spIf (C : Addr) (f : Str) : Sp := fun vs H Q _ => ∃ a y, vs = [.ref a, y] ∧ H a = some (exo a C none) ∧ ∀ dx, H dx = none → dx ≠ a → Q .non (upd (upd H dx (exd dx [(f, y)])) a (exo a C (some dx)))
def spI0 (C : Addr) : Sp := fun vs H Q _ => ∃ a, vs = [.ref a] ∧ H a = some (exo a C none) ∧ Q .non H
/-- the text of such a def -/
def initB (sc : Scope) (sw s x f : Str) : List Stmt → Bool
  | [.Expr (.Call (.Attribute (.Name o p1) m ap) [.Name a p2, .Constant (.str z) k p3] [] p) p4, .Assign [.Attribute (.Name b p5) g p6] (.Name y p7) p8] =>
    o == sw && (m == Str.ofString "__init__" && (ap.endLine == p.line && (a == s && (b == s && (y == x && (g == f && (sc.names.lookup sw == some .globalImplicit && (!(sw == ("__debug__" : Str)) && ((sc.names.lookup s == some .local) && ((sc.names.lookup x == some .local) &&
      (!(s == ("__debug__" : Str)) && (!(s == ("__classdict__" : Str)) && (!(x == ("__debug__" : Str)) && !(x == ("__classdict__" : Str)))))))))))))))
  | _ => false
def initB0 (sc : Scope) (sw s : Str) : List Stmt → Bool
  | [.Expr (.Call (.Attribute (.Name o p1) m ap) [.Name a p2, .Constant (.str z) k p3] [] p) p4] =>
    o == sw && (m == Str.ofString "__init__" && (ap.endLine == p.line && (a == s && (sc.names.lookup sw == some .globalImplicit && (!(sw == ("__debug__" : Str)) && ((sc.names.lookup s == some .local) && (!(s == ("__debug__" : Str)) && !(s == ("__classdict__" : Str)))))))))
  | _ => false
theorem meth_ev {x : Expr} {m : Str} {ap q : Pos} {a b : Expr} {env : PySem.Env} (hx : attributeBase x m env (eval x env) = eval x env) (hl : (ap.endLine == q.line) = true) (ha : starEach [a, b] env = [(false, eval a env), (false, eval b env)]) :
    eval (.Call (.Attribute x m ap) [a, b] [] q) env = (do
      let f0 ← eval x env
      standAt ap.atName
      let (f, first) ← holding [f0] (getMethod f0 m (do return (← importBound x env).getD true))
      callWith q f first (backTo q (starEach [a, b] env)) (backToKw q (keywordEach [] env))) := by
  have e : methodCallForm (([a, b] : List Expr).length + ([] : List Keyword).length) (backTo q (starEach [a, b] env)) (backToKw q (keywordEach [] env)) = true := by
    unfold methodCallForm
    rw [ha]
    rfl
  have e2 : eval (.Call (.Attribute x m ap) [a, b] [] q) env = (do
      let f0 ← attributeBase x m env (eval x env)
      standAt ap.atName
      methodCall x m ap q env f0 (([a, b] : List Expr).length + ([] : List Keyword).length) (backTo q (starEach [a, b] env)) (backToKw q (keywordEach [] env))) := rfl
  rw [e2, hx]
  unfold methodCall calleeOf methodCallPos
  rw [e]
  simp only [Bool.not_true, Bool.false_or, hl, if_true]
  rfl
end
section
variable {P : Program} {w : World} {K : PySem.W.Frag} {mg : Str → Option Value} {base : Heap} {f C S : Addr} {name qual : Str} {params : Arguments} {body : List Stmt} {scope : Scope} {dV kV doc pm cdv ct oc : Value} {an od : Option Addr} {osl : Array (Option Value)} {sw s x g : Str}
theorem init_fn (lk : K.lookup f = some ⟨oc, od, .func (PySem.W.fnOf name qual params body scope dV kV doc pm an cdv ct), osl⟩) (hcd : PySem.W.codeIn K cdv qual = true) (SC : L2.FnScope [s, x] [s, x] scope)
    (hb : initB scope sw s x g body = true) (hm : mg sw = some (.ref S)) (T : SwC K S) (O : OexC K C) (ho : PySem.W.findIn K (.ref C) g = some none) :
    FnOk P w K mg base (L2.CX P w) 1 f (PySem.W.fnOf name qual params body scope dV kV doc pm an cdv ct) [s, x] (spIf C g) := by
  refine L2.fn_of lk hcd SC (fun vs H Q E ⟨a, y, e, _⟩ => by rw [e]; rfl) fun A outer sh H vs Q E hr h => ?_
  obtain ⟨a, y, rfl, ha, q⟩ := h
  unfold initB at hb
  split at hb <;> first | cases hb | skip
  simp only [Bool.and_eq_true, beq_iff_eq, Bool.not_eq_true'] at hb
  obtain ⟨rfl, rfl, h1, rfl, rfl, rfl, rfl, h2, h3, h4, h5, h6, h7, h8, h9⟩ := hb
  refine ⟨_, L2.pss_cons (L2.ps_expr (pe_swi (pl := _) h2 hm T h3 (L2.pa_cons (L2.pe_var (i := 0) rfl (.inl h4) h6 h7) (L2.pa_cons L2.pe_str L2.pa_nil rfl) rfl) (meth_ev rfl (by simpa using h1) rfl) rfl rfl) rfl)
    (L2.pss_one (L2.ps_ost (L2.pe_var (i := 0) rfl (.inl h4) h6 h7) (L2.pe_var (i := 1) rfl (.inl h5) h8 h9) rfl)), ?_⟩
  refine ⟨.ref a, rfl, a, C, _, rfl, by simp, O, ha, ?_⟩
  refine ⟨y, rfl, .ref a, rfl, a, C, rfl, O, ho, .inl ⟨ha, fun dx h1 h2 => q dx h1 h2⟩⟩
theorem init_fn0 (lk : K.lookup f = some ⟨oc, od, .func (PySem.W.fnOf name qual params body scope dV kV doc pm an cdv ct), osl⟩) (hcd : PySem.W.codeIn K cdv qual = true) (SC : L2.FnScope [s] [s] scope)
    (hb : initB0 scope sw s body = true) (hm : mg sw = some (.ref S)) (T : SwC K S) (O : OexC K C) :
    FnOk P w K mg base (L2.CX P w) 1 f (PySem.W.fnOf name qual params body scope dV kV doc pm an cdv ct) [s] (spI0 C) := by
  refine L2.fn_of lk hcd SC (fun vs H Q E ⟨a, e, _⟩ => by rw [e]; rfl) fun A outer sh H vs Q E hr h => ?_
  obtain ⟨a, rfl, ha, q⟩ := h
  unfold initB0 at hb
  split at hb <;> first | cases hb | skip
  simp only [Bool.and_eq_true, beq_iff_eq, Bool.not_eq_true'] at hb
  obtain ⟨rfl, rfl, h1, rfl, h2, h3, h4, h6, h7⟩ := hb
  refine ⟨_, L2.pss_one (L2.ps_expr (pe_swi (pl := _) h2 hm T h3 (L2.pa_cons (L2.pe_var (i := 0) rfl (.inl h4) h6 h7) (L2.pa_cons L2.pe_str L2.pa_nil rfl) rfl) (meth_ev rfl (by simpa using h1) rfl) rfl rfl) rfl), ?_⟩
  exact ⟨.ref a, rfl, a, C, _, rfl, by simp, O, ha, q⟩
end
section
variable {X : Cx} {W : WX}
theorem del_upds {H1 : Hp} {a dx : Addr} {o1 o2 o3 o4 : HO} (h : dx ≠ a) (ha : H1 a = none) : upd (L2.del (upd (upd (upd H1 a o1) dx o2) a o3) a) dx o4 = upd H1 dx o4 := by
  funext b
  by_cases h1 : b = dx
  · subst h1; rw [upd_same, upd_same]
  · rw [upd_ne h1, upd_ne h1]
    by_cases h2 : b = a
    · subst h2; rw [L2.del_same, ha]
    · rw [L2.del_ne h2, upd_ne h2, upd_ne h1, upd_ne h2]
theorem del_upd1 {H1 : Hp} {a : Addr} {o1 : HO} (ha : H1 a = none) : L2.del (upd H1 a o1) a = H1 := by
  funext b
  by_cases h2 : b = a
  · subst h2; rw [L2.del_same, ha]
  · rw [L2.del_ne h2, upd_ne h2]
/-- C(e, ..) by its own promise -/
theorem pmk1 {x : Str} {C fI : Addr} {k : Nat} {fd : FuncData} {ps : List Str} {g : Str} {e : Expr} {es : List Expr} {ta : TA} {p pos : Pos} (tk : Takes X W) (T : OexC X.K C) (iC : PySem.W.findIn X.K (.ref C) "__init__" = some (some (.ref fI))) (tI : PySem.W.typeIn X.K (.ref fI) = some (.type "function"))
    (F1 : FnOk X.prog X.w X.K X.mg X.base (L2.CX X.prog X.w) k fI fd ps (spIf C g)) (hr : Room (k + 1) X.A) (hb : Binds X.K fd ps []) (hg : Gl X x) (hm : X.mg x = some (.ref C)) (hdb : (x == ("__debug__" : Str)) = false) (ha : PA X (e :: es) ta) (hs : starEach (e :: es) X.env = (false, eval e X.env) :: starEach es X.env)
    (hpl : (backTo pos (starEach es X.env)).any (·.1) = false) :
    PMk X (.Call (.Name x p) (e :: es) [] pos) (L2.tMkO C (spIf C g) [] ta) :=
  L2.pmk_oex (ds := []) (dvs := []) T iC tI F1 hr hb .nil (fun pins σ H s e s' I c => L2.passes_call tk (fun _ _ _ _ z => z.elim) pins σ H s e s' I c) hg hm ha hdb hs hpl
/-- what such a making leaves -/
theorem mk1_end {C : Addr} {g : Str} {y : V} {H1 : Hp} {Q : XK} (q : ∀ d, H1 d = none → Q (.ref C) (some d) (upd H1 d (.xd [(g, y)]))) :
    ([y] : List V).length ≤ 1000 ∧ ∀ a, H1 a = none → spIf C g (.ref a :: ([y] ++ [])) (upd H1 a (exo a C none))
      (fun v H2 => v = .non ∧ ∃ (d : Addr) (fs : List (Str × V)), H2 a = some (exo a C (some d)) ∧ H2 d = some (exd d fs) ∧ H1 d = none ∧ Q (.ref C) (some d) (upd (L2.del H2 a) d (.xd fs))) (fun _ _ _ => False) := by
  refine ⟨by simp, fun a ha => ⟨a, y, rfl, upd_same, fun dx hdx hne => ?_⟩⟩
  have hd : H1 dx = none := by rw [← hdx, upd_ne hne]
  refine ⟨rfl, dx, [(g, y)], upd_same, ?_, hd, ?_⟩
  · rw [upd_ne hne, upd_same]
  · rw [del_upds hne ha]
    exact q dx hd
/-- an exception without a dict is let go -/
theorem mk_end00 {pins : List (Addr × Obj)} {σ : L2.St} {H1 H2 : Hp} {hp hp2 h2 : Heap} {g1 g2 : Array GenState} {d1 d2 : Drawn} {t1 t2 : Nat} {os1 os2 : OsState} {a C : Addr} (I1 : Inv X pins σ H1 ⟨hp, g1, d1, t1, os1⟩) (ha : hp.objs.size ≤ a)
    (kp : ∀ b o, hp.get? b = some o → hp2.get? b = some o) (un : L2.Un (L2.frs X.stack) [] (upd H1 a (exo a C none)) H2 hp2 h2) (hok : L2.HOk X.prog X.w H2 h2) (ho : os2 = os1) (hb : AllBare g2) (ea : H2 a = some (exo a C none)) :
    ∃ (t0 : Addr) (G : Heap), Inv X pins σ (L2.del H2 a) ⟨G, g2, d2, t2, os2⟩ ∧ (∀ b o, G.get? b = some o → h2.get? b = some o) ∧ G.get? a = none ∧ h2.get? a = some ({ cls := .ref C, dict := none, data := .fields #[.ref t0, .none, .none, .none, .bool false, .none] } : Obj) := by
  obtain ⟨t0, hoe⟩ := L2.exo_at hok ea
  have hn : H1 a = none := I1.hok.fresh ha
  obtain ⟨G, k1, k2⟩ := L2.restrict h2 fun b => !decide (b = a)
  have gk : ∀ b, b ≠ a → G.get? b = h2.get? b := fun b z => k1 b (by simp [z])
  have ge : G.get? a = none := k2 a (by simp)
  have ne : ∀ {b : Addr} {o : Obj}, hp.get? b = some o → b ≠ a := fun {b o} z => Nat.ne_of_lt (Nat.lt_of_lt_of_le (Heap.lt_size z) ha)
  have up : ∀ {b : Addr}, b ≠ a → upd H1 a (exo a C none) b = H1 b := fun z => upd_ne z
  have neH : ∀ {b : Addr} {o : HO}, H1 b = some o → b ≠ a := fun {b o} z => ne_of_none z hn
  have U : L2.Un (L2.frs X.stack) [] H1 (L2.del H2 a) hp G := by
    refine ⟨fun b o z n hf hx => ?_, fun b o z n hf hx => ?_, fun b o z n hx => ?_, fun b o z hx => ?_, fun b xs z => ?_, fun b o v z => ?_, fun b ps z => ?_⟩
    · rw [gk b (ne z)]; exact un.keep b o (kp b o z) ((up (ne z)).trans n) hf hx
    · rw [gk b (ne z)]; exact un.slot b o (kp b o z) ((up (ne z)).trans n) hf hx
    · rw [L2.del_ne (ne z)]; exact un.free b o (kp b o z) ((up (ne z)).trans n) hx
    · rw [gk b (ne z)]; exact un.there b o (kp b o z) hx
    · rw [L2.del_ne (neH z)]; exact un.tups b xs ((up (neH z)).trans z)
    · rw [L2.del_ne (neH z)]; exact un.frzs b o v ((up (neH z)).trans z)
    · rw [L2.del_ne (neH z)]; exact un.tbls b ps ((up (neH z)).trans z)
  have hk : L2.HOk X.prog X.w (L2.del H2 a) G := fun b o z => by
    have hba : b ≠ a := fun e => by rw [e, L2.del_same] at z; cases z
    rw [L2.del_ne hba] at z
    have noa : ∀ {c : Addr}, H2 c = some (.own b) → c ≠ a := fun {c} hc => L2.at_ne ea hc L2.exo_own
    refine (hok b o z).stay (fun c v hc y => ?_) (fun c hc => ?_) fun c xs hc => ?_
    · have hca : c ≠ a := by rcases hc with hc | hc; exact hc ▸ hba; exact noa hc
      rw [gk c hca]; exact y
    · rw [L2.del_ne (noa hc)]; exact hc
    · rw [L2.del_ne (L2.at_ne ea hc L2.exo_tup)]; exact hc
  refine ⟨t0, G, I1.call' (ch := []) ho U hk hb (fun b z => absurd z (by simp)), fun b o z => ?_, ge, hoe⟩
  by_cases hba : b = a
  · rw [hba, ge] at z; cases z
  · exact (gk b hba).symm.trans z
/-- C() -/
theorem pmk0 {x : Str} {C fI : Addr} {k : Nat} {fd : FuncData} {ps : List Str} {p pos : Pos} (tk : Takes X W) (T : OexC X.K C) (iC : PySem.W.findIn X.K (.ref C) "__init__" = some (some (.ref fI))) (tI : PySem.W.typeIn X.K (.ref fI) = some (.type "function"))
    (F1 : FnOk X.prog X.w X.K X.mg X.base (L2.CX X.prog X.w) k fI fd ps (spI0 C)) (hr : Room (k + 1) X.A) (hb : Binds X.K fd ps []) (hg : Gl X x) (hm : X.mg x = some (.ref C)) (hdb : (x == ("__debug__" : Str)) = false) :
    PMk X (.Call (.Name x p) [] [] pos) (fun σ H Q => Q (.ref C) none H) := by
  intro pins s σ H Q I h
  obtain ⟨nm, q, N, bs, bm, sn, sub, ab, col, dd, k0, k1, k2, k3, k5, hC, hbm⟩ := T.cls
  refine wpAny_Call_Name_kw (L2.ld_glob I hg hm (PySem.W.callWith_K0 I.kIn T.kC ?_) hdb)
  obtain ⟨hp, g, dr, tk', os⟩ := s
  have hsz : hp.objs.size ≤ hp.objs.size + 1 := Nat.le_succ _
  have hn : H (hp.objs.size + 1) = none := I.hok.fresh hsz
  have kk : ∀ b o, hp.get? b = some o → ((hp.push (PySem.W.kdv_tup [])).push (PySem.HandSPX.excO C hp.objs.size)).get? b = some o := fun b o z => Heap.get?_push_of_some _ (Heap.get?_push_of_some _ z)
  have hget : ((hp.push (PySem.W.kdv_tup [])).push (PySem.HandSPX.excO C hp.objs.size)).get? (hp.objs.size + 1) = some (PySem.HandSPX.excO C hp.objs.size) := by heap_get
  have I2 := I.laid (t' := tk') (a := hp.objs.size + 1) (o := exo (hp.objs.size + 1) C none) (h' := (hp.push (PySem.W.kdv_tup [])).push (PySem.HandSPX.excO C hp.objs.size)) kk hsz (L2.exo_ok hget)
  have hq : spI0 C [.ref (hp.objs.size + 1)] (upd H (hp.objs.size + 1) (exo (hp.objs.size + 1) C none)) (fun v H2 => v = .non ∧ H2 (hp.objs.size + 1) = some (exo (hp.objs.size + 1) C none) ∧ Q (.ref C) none (L2.del H2 (hp.objs.size + 1))) (fun _ _ _ => False) :=
    ⟨_, rfl, upd_same, rfl, upd_same, by rw [del_upd1 hn]; exact h⟩
  have hl : ([Value.ref (hp.objs.size + 1)] : List Value).length = ps.length := F1.len _ _ _ _ hq
  refine wpAny_call (PySem.HandSPX.call_own F.excBase_ValueError (fun Y => PySem.HandSPX.refsVE_contains Y bm hbm) (I.kIn _ _ hC) (PySem.W.looks_findIn I.kIn iC) (fun self => PySem.W.bind_fn I.kIn self tI) (Nat.zero_le _) ?_)
  refine codeAny_mono (F1.run _ X.stack _ _ ⟨[.ref (hp.objs.size + 1)], []⟩ [.ref (hp.objs.size + 1)] [.ref (hp.objs.size + 1)] _ (fun _ _ _ => False) (hr.make C [] []) (I2.env0.make C [] []) ?_ (.cons rfl .nil) hq) fun r s' hq' => ?_
  · have bb := hb _ [Value.ref (hp.objs.size + 1)] I2.kIn (by rw [List.append_nil]; exact hl)
    rw [List.append_nil] at bb
    exact bb
  · cases r with
    | error er => exact L2.passes_call (E := fun _ _ _ => False) tk (fun _ _ _ _ z => False.elim z) pins _ _ _ er _ I2 hq'
    | ok fl =>
      cases fl with
      | ret u =>
        obtain ⟨v, H2, os2, bare2, un2, hok2, rv, ev, ea, q2⟩ := hq'
        subst ev
        obtain ⟨h2, g2, d2, t2, os'⟩ := s'
        obtain ⟨t0, G, J, kG, ge, hoe⟩ := mk_end00 (d2 := d2) (t2 := t2) I hsz kk un2 hok2 os2 bare2 ea
        exact ⟨rv, hp.objs.size + 1, _, _, ⟨G, g2, d2, t2, os'⟩, _, .ref C, none, rfl, J, kG, ge, hoe, ⟨rfl, rfl⟩, rfl, rfl, L2.del_same, rfl, bare2, L2.raises_own T.exC T.tyC, q2⟩
      | next => exact False.elim hq'
      | brk => exact False.elim hq'
      | cont => exact False.elim hq'
end
end Py

set_option autoImplicit false
set_option linter.all false
set_option Elab.async false
set_option maxRecDepth 100000
set_option maxHeartbeats 4000000
/-! PyY: raise, try. -/
namespace Py
open PySem
open L2 (V Hp HO Rd SqL SqT Cx Inv PE PT PA PS PSs PG PGs PI TE TT TA TS TG TGs TI It Ends VK XK WX St Room upd upd_same upd_ne ne_of_none Key kV RelV Vals R2 OpR UnR CallR tOp PMk Takes Gl FnOk Binds)
section
variable {N : Nm} {Γ : Env} {W : WX} {Z μ μ' : List Addr} {H H' : Hp} {σ : St} {s : Sto} {l : Loc} {D : Ends} {X : Cx}
theorem pmk_imp {e : Expr} {t t' : St → Hp → XK → Prop} (h : PMk X e t) (i : ∀ σ H Q, t' σ H Q → t σ H Q) : PMk X e t' := fun pins s σ H Q I q => h pins s σ H Q I (i σ H Q q)
/-- raise C(e) -/
theorem t_rais1 {c : Nat} {e : E} {g : String} {C : Addr} (hc : N.cv c = some (.ref C)) (hk : N.xk c = true) (ha : N.xa c = some g) (D : Ends) (σ : St) (H : Hp) (h : tS1 N Γ W (.rais c [e]) D σ H) : L2.tMkO C (spIf C (Str.ofString g)) [] (tEs N Γ W [e]) σ H fun cls d H' => W cls d σ H' := by
  obtain ⟨l, s, Z, μ, S, L, G⟩ := h
  replace G : GoodF N W Z μ H ((evEs Γ [e] l s).fl l (kRais l c)) D := G
  refine ⟨l, s, Z, μ, S, L, GoodF.fl G S L fun as s1 μ1 H1 vs eq e1 S1 r1 L1 G1 => ?_⟩
  have hl := evEs_len [e] l s s1 as eq
  match as, hl, r1, G1 with
  | [a], _, r1, G1 =>
    simp only [VRs] at r1
    obtain ⟨y, r, rfl, ry, rfl⟩ := r1
    refine mk1_end (C := C) (g := Str.ofString g) (y := y) (H1 := H1) (Q := fun cls d H2 => W cls d σ H2) fun d hd => ?_
    have eX : Ext μ1 H1 μ1 (upd H1 d (.xd [(Str.ofString g, y)])) := Ext.new hd
    refine G1 μ1 _ σ (.ref C) (some d) eX (S1.new hd) (Good.lr S1 L1 eX) ⟨⟨hc, hk⟩, ?_⟩
    show match N.xa c with
      | none => some d = none
      | some f => ∃ a' as dd fs v, [a] = a' :: as ∧ some d = some dd ∧ _ ∧ _ ∧ _ ∧ _ ∧ _
    rw [ha]
    exact ⟨a, [], d, _, y, rfl, rfl, upd_same, fun z => S1.tracked z hd, fun z => S1.res d z hd, by simp [List.lookup], VR.stay (eX.stay S1.noTup) _ _ ry⟩
/-- raise C() -/
theorem t_rais0 {c : Nat} {C : Addr} (hc : N.cv c = some (.ref C)) (hk : N.xk c = true) (ha : N.xa c = none) (D : Ends) (σ : St) (H : Hp) (h : tS1 N Γ W (.rais c []) D σ H) : W (.ref C) none σ H := by
  obtain ⟨l, s, Z, μ, S, L, G⟩ := h
  replace G : GoodF N W Z μ H (.exc ⟨c, []⟩ l s) D := G
  refine G μ H σ (.ref C) none (Ext.refl _ _) S L ⟨⟨hc, hk⟩, ?_⟩
  show match N.xa c with
    | none => (none : Option Addr) = none
    | some f => _
  rw [ha]
/-! ### try -/
abbrev Nm.hot (N : Nm) (i : Option Nat) (a : Addr) (cls : Value) (d : Option Addr) (e : Exn) : Nm := { N with xs := some ⟨i, a, cls, d, e⟩ }
/-- what a clause's suite wishes -/
def tsH (N : Nm) (Γ : Env) (i : Option Nat) (b : List S) (a : Addr) (cls : Value) (d : Option Addr) : TS := fun D σ H => ∃ e, tSs (N.hot i a cls d e) (Γ.with (i.map fun j => (j, e))) WF b D σ H
theorem LR.hotI {i : Nat} {a : Addr} {cls : Value} {d : Option Addr} {e : Exn} (hn : N.xs = none) (L : LR N Z μ H l σ) (hi : i < l.length) (x : XR N Z μ H e cls d) : LR (N.hot (some i) a cls d e) Z μ H (l.set i none) (σ.set i (some (.ref a))) := by
  refine ⟨by simp [L.len], fun j b q => ?_, ?_⟩
  · by_cases hj : i = j
    · subst hj
      rw [List.getElem?_set_self hi] at q
      cases q
    · rw [List.getElem?_set_ne hj] at q ⊢
      exact L.at_ j b q
  · show XR (N.hot (some i) a cls d e) Z μ H e cls d ∧ _
    refine ⟨x, fun j hj => ?_⟩
    cases hj
    exact ⟨List.getElem?_set_self (by rw [← L.len]; exact hi), List.getElem?_set_self hi⟩
theorem LR.hotN {a : Addr} {cls : Value} {d : Option Addr} {e : Exn} (L : LR N Z μ H l σ) (x : XR N Z μ H e cls d) : LR (N.hot none a cls d e) Z μ H l σ :=
  ⟨L.len, L.at_, ⟨x, fun j hj => nomatch hj⟩⟩
theorem LR.cool {i : Option Nat} {a : Addr} {cls : Value} {d : Option Addr} {e : Exn} (hn : N.xs = none) (L : LR (N.hot i a cls d e) Z μ H l σ) : LR N Z μ H l σ :=
  ⟨L.len, L.at_, by unfold XF; rw [hn]; trivial⟩
theorem LR.gone {i : Nat} {o : Option V} (hn : N.xs = none) (L : LR N Z μ H l σ) : LR N Z μ H (l.set i none) (σ.set i o) :=
  ⟨by simp [L.len], fun j b q => by
    by_cases hj : i = j
    · subst hj
      by_cases hl : i < l.length
      · rw [List.getElem?_set_self hl] at q; cases q
      · rw [List.getElem?_eq_none (by simpa using hl)] at q; cases q
    · rw [List.getElem?_set_ne hj] at q ⊢
      exact L.at_ j b q, by unfold XF; rw [hn]; trivial⟩
/-- the end behind 'as n' -/
abbrev goneD (i : Nat) (D : Ends) : Ends := { nx := fun σ' H' => D.nx (σ'.set i none) H', rt := D.rt, bk := fun σ' H' => D.bk (σ'.set i none) H', ct := fun σ' H' => D.ct (σ'.set i none) H' }
theorem GoodF.gone {i : Nat} {j : Option Nat} {a : Addr} {cls : Value} {d : Option Addr} {e : Exn} {r : Fl} (hn : N.xs = none) (G : GoodF N W Z μ H (kGone i r) D) : GoodF (N.hot j a cls d e) WF Z μ H r (goneD i D) := by
  cases r with
  | nx l s => exact fun μ' H' σ' e S L => G μ' H' (σ'.set i none) e S ((L.cool hn).gone hn)
  | brk l s => exact fun μ' H' σ' e S L => G μ' H' (σ'.set i none) e S ((L.cool hn).gone hn)
  | cnt l s => exact fun μ' H' σ' e S L => G μ' H' (σ'.set i none) e S ((L.cool hn).gone hn)
  | ret a s => exact G
  | exc x l s => exact False.elim G
  | bad => exact G
theorem GoodF.calm {j : Option Nat} {a : Addr} {cls : Value} {d : Option Addr} {e : Exn} {r : Fl} (hn : N.xs = none) (G : GoodF N W Z μ H (kCalm r) D) : GoodF (N.hot j a cls d e) WF Z μ H r D := by
  cases r with
  | nx l s => exact fun μ' H' σ' e S L => G μ' H' σ' e S (L.cool hn)
  | brk l s => exact fun μ' H' σ' e S L => G μ' H' σ' e S (L.cool hn)
  | cnt l s => exact fun μ' H' σ' e S L => G μ' H' σ' e S (L.cool hn)
  | ret a s => exact G
  | exc x l s => exact False.elim G
  | bad => exact G
/-- the clauses, one after the other: what they wish of an exception -/
def wH (N : Nm) (Γ : Env) (W : WX) (D : Ends) : List Hd → WX
  | [] => W
  | .mk c i b :: r => fun cls d σ H => ∃ u bb, N.cv c = some u ∧ PySem.W.exmOne N.K cls u = some bb ∧
      (bb = true → ∀ a, H a = none → match i with
        | some j => tsH N Γ i b a cls d (goneD j D) (σ.set j (some (.ref a))) H
        | none => tsH N Γ i b a cls d D σ H) ∧ (bb = false → wH N Γ W D r cls d σ H)
theorem wH_ok (hn : N.xs = none) {hk : Nat → Prop} (hx : ∀ cc kk v u, hk kk → N.xk cc = true → N.cv cc = some v → N.cv kk = some u → PySem.W.exmOne N.K v u = some (Γ.sub cc kk)) {e : Exn} {cls : Value} {d : Option Addr} (S : SR N.K N.fa N.cv Z μ s H) (L : LR N Z μ H l σ) (x : XR N Z μ H e cls d) :
    ∀ (hs : List Hd), (∀ c i b, Hd.mk c i b ∈ hs → ∃ u, N.cv c = some u ∧ hk c) → GoodF N W Z μ H (evH Γ hs e l s) D → wH N Γ W D hs cls d σ H
  | [], _, G => G μ H σ cls d (Ext.refl _ _) S L x
  | .mk c i b :: r, hv, G => by
    obtain ⟨u, hu, hkc⟩ := hv c i b (List.mem_cons_self ..)
    refine ⟨u, Γ.sub e.c c, hu, hx e.c c cls u hkc x.1.2 x.1.1 hu, fun hb a ha => ?_, fun hb => ?_⟩
    · cases i with
      | none =>
        have G' : GoodF N W Z μ H (kCalm (evSs (Γ.with none) b l s)) D := by
          have := G
          simpa [hb] using this
        exact ⟨e, l, s, Z, μ, S, L.hotN x, G'.calm hn⟩
      | some j =>
        have G' : GoodF N W Z μ H (if j < l.length then kGone j (evSs (Γ.with (some (j, e))) b (l.set j none) s) else .bad) D := by
          have := G
          simpa [hb] using this
        by_cases hj : j < l.length
        · rw [if_pos hj] at G'
          exact ⟨e, l.set j none, s, Z, μ, S, L.hotI hn hj x, G'.gone hn⟩
        · rw [if_neg hj] at G'
          exact False.elim G'
    · refine wH_ok hn hx S L x r (fun c i b h => hv c i b (List.mem_cons_of_mem _ h)) ?_
      cases i with
      | none => have := G; simpa [hb] using this
      | some j => have := G; simpa [hb] using this
theorem t_try {b : List S} {hs : List Hd} (hn : N.xs = none) {hk : Nat → Prop} (hx : ∀ cc kk v u, hk kk → N.xk cc = true → N.cv cc = some v → N.cv kk = some u → PySem.W.exmOne N.K v u = some (Γ.sub cc kk)) (hv : ∀ c i b, Hd.mk c i b ∈ hs → ∃ u, N.cv c = some u ∧ hk c) (D : Ends) (σ : St) (H : Hp)
    (h : tS1 N Γ W (.tryy b hs) D σ H) : tSs N Γ (wH N Γ W D hs) b D σ H := by
  obtain ⟨l, s, Z, μ, S, L, G⟩ := h
  replace G : GoodF N W Z μ H (kTry (evH Γ hs) (evSs Γ b l s)) D := G
  refine ⟨l, s, Z, μ, S, L, ?_⟩
  cases e : evSs Γ b l s with
  | nx l s => rw [e] at G; exact G
  | brk l s => rw [e] at G; exact G
  | cnt l s => rw [e] at G; exact G
  | ret a s => rw [e] at G; exact G
  | bad => rw [e] at G; exact G
  | exc x l2 s2 =>
    rw [e] at G
    replace G : GoodF N W Z μ H (evH Γ hs x l2 s2) D := G
    exact fun μ' H' σ' c d e1 S1 L1 x1 => wH_ok hn hx S1 L1 x1 hs hv (GoodF.later e1 G)
end
end Py

set_option autoImplicit false
set_option linter.all false
set_option Elab.async false
set_option maxRecDepth 100000
set_option maxHeartbeats 4000000
/-! PyZ: try with clauses of both kinds. -/
namespace Py
open PySem PySem.Spec PyProof.Rows
open L2 (V Hp HO Cx PSs PS TS Ends WX upd Names Takes Zc Inv SP)
abbrev HdT : Type := Value × Option Nat × (Addr → Value → Option Addr → TS)
/-- what the clauses wish of an exception of the body -/
def wMix (K : PySem.W.Frag) (Wo : WX) (D : Ends) : List HdT → WX
  | [] => Wo
  | (c, i, ts) :: r => fun cls d σ H => ∃ b, PySem.W.exmOne K cls c = some b ∧ (b = true → ∀ a, H a = none → match i with
      | some j => ts a cls d (goneD j D) (σ.set j (some (.ref a))) H
      | none => ts a cls d D σ H) ∧ (b = false → wMix K Wo D r cls d σ H)
/-- the clauses' suites -/
inductive HsOk (X : Cx) : List ExceptHandler → List HdT → Prop
  | nil : HsOk X [] []
  | none {x : Str} {c : Value} {ts : Addr → Value → Option Addr → TS} {b₀ : Stmt} {bs : List Stmt} {np hp : Pos} {hds : List ExceptHandler} {l : List HdT} (hc : Names X x c)
      (go : ∀ (a : Addr) (oe : Obj) (cls : Value) (d : Option Addr) (pn : List (Addr × Obj)), Zc cls d oe → (∃ vs, oe.data = .fields vs) → PSs (X.suite a ((a, oe) :: pn)) (b₀ :: bs) (ts a cls d)) (r : HsOk X hds l) :
      HsOk X (.ExceptHandler (some (.Name x np)) Option.none (b₀ :: bs) hp :: hds) ((c, Option.none, ts) :: l)
  | some {x n : Str} {c : Value} {i : Nat} {ts : Addr → Value → Option Addr → TS} {b₀ : Stmt} {bs : List Stmt} {np hp : Pos} {hds : List ExceptHandler} {l : List HdT} (hc : Names X x c) (hi : X.N[i]? = Option.some n) (hl : X.env.kindOf n = Option.some .local)
      (go : ∀ (a : Addr) (oe : Obj) (cls : Value) (d : Option Addr) (pn : List (Addr × Obj)), Zc cls d oe → (∃ vs, oe.data = .fields vs) → PSs (X.suite a ((a, oe) :: pn)) (b₀ :: bs) (ts a cls d)) (r : HsOk X hds l) :
      HsOk X (.ExceptHandler (Option.some (.Name x np)) (Option.some n) (b₀ :: bs) hp :: hds) ((c, Option.some i, ts) :: l)
section
variable {X : Cx} {body : List Stmt} {h₀ : ExceptHandler} {hds : List ExceptHandler} {l : List HdT} {pos : Pos} {tb : WX → TS} {Wo : WX}
theorem ps_mix (hs : X.stack = X.env :: X.outer) (hf : X.env.frame = some X.env.locals) (hN : X.N.Nodup) (tk : Takes X Wo)
    (hb : ∀ (W : WX) (pn : List (Addr × Obj)) (xe : Value → Shared → Prop), Takes (X.tr pn xe) W → PassesOwn (model X.prog X.w) X.A X.env xe → PSs (X.tr pn xe) body (tb W)) (hh : HsOk X (h₀ :: hds) l) :
    PS X (.Try body (h₀ :: hds) [] [] pos) (fun D σ H => tb (wMix X.K Wo D l) D σ H) := by
  refine ⟨fun pins s σ H D I h => wpAny_Try_except ?_⟩
  have ok := I.ok
  have hfr : X.A.frames = some (X.env :: X.outer) := by rw [ok.frames, hs]
  have catch_ : ∀ (u : Value) (sx : Shared), L2.XE (X.tr (X.pn ++ pins) (fun e s₁ => wpAny (model X.prog X.w) X.A (noteFrame e X.env) (fun _ s₂ => wpAny (model X.prog X.w) X.A (setFlight e none) (fun _ s₃ => wpAny (model X.prog X.w) X.A (handleBy e X.env (h₀ :: hds)) (SP X pins D) X.xe s₃) X.xe s₂) X.xe s₁)) (wMix X.K Wo D l) u sx →
      wpAny (model X.prog X.w) X.A (noteFrame u X.env) (fun _ s₂ => wpAny (model X.prog X.w) X.A (setFlight u none) (fun _ s₃ => wpAny (model X.prog X.w) X.A (handleBy u X.env (h₀ :: hds)) (SP X pins D) X.xe s₃) X.xe s₂) X.xe sx := by
    rintro u sx ⟨a, B, sI, pn', σx, Hx, cls, d, rfl, J0, nb, up, sky, na, os, ag, wx⟩
    have J : Inv X pins σx Hx sI := J0.ofTry ok
    refine L2.Sky.land Zc.steady hfr hf (by rw [← hs]; exact sky) fun hp3 fl up3 => ?_
    have JL : Inv X pins σx Hx { sx with heap := hp3 } := J.landed nb fl.1 (up.trans up3) os ag
    obtain ⟨ob, vs, eo, zo, fo⟩ := fl.there
    have nfr : a ∉ L2.frs (X.env :: X.outer) := fun hm => by
      obtain ⟨_, o2, e2, nf⟩ := fl.2.2.1.mem hm
      rw [eo] at e2
      cases e2
      exact nf _ fo
    have nL : a ≠ X.env.locals := fun z => nfr (List.mem_filterMap.mpr ⟨X.env, List.mem_cons_self, z ▸ hf⟩)
    have nF : a ∉ X.fs := fun hm => let ⟨e, m1, m2⟩ := List.mem_filterMap.mp hm; nfr (List.mem_filterMap.mpr ⟨e, List.mem_cons_of_mem _ m1, m2⟩)
    have S3 := JL.suite eo fo na nL nF
    have step : ∀ {hz : List ExceptHandler} {lz : List HdT}, HsOk X hz lz → wMix X.K Wo D lz cls d σx Hx → wpAny (model X.prog X.w) X.A (handleBy (.ref a) X.env hz) (SP X pins D) X.xe { sx with heap := hp3 } := by
      intro hz lz hk
      have nm : ∀ {x : Str} {np : Pos} {c : Value} {Q : Value → Shared → Prop} {E : Value → Shared → Prop}, Names X x c → Q c { sx with heap := hp3 } → wpAny (model X.prog X.w) (X.A.mark (some (.ref a))) (eval (.Name x np) X.env) Q E { sx with heap := hp3 } := by
        rintro x np c Q E ⟨hg, hd, hm | ⟨hm, hv, hn⟩⟩ q
        · exact L2.ld_glob (X := X.suite a ((a, ob) :: (X.pn ++ pins))) S3 hg hm q hd
        · exact L2.ld_blt (X := X.suite a ((a, ob) :: (X.pn ++ pins))) S3 hg hm hv q hn hd
      have LT : PySem.W.Looks (model X.prog X.w) hp3 (typeOf (.ref a)) cls := fun A Q E s k q => wpAny_typeOf_ref (k _ _ eo) (by rw [zo.1]; exact q)
      induction hk with
      | nil =>
        intro wx
        refine wpAny_handleBy_nil ?_
        obtain ⟨_, _, _, ox, vx, Tx, oT, tx, ex, _, dx, x1, _⟩ := id fl
        unfold PySem.passOn
        refine wpAny_bind (wpAny_field ex dx x1 ?_)
        rw [if_neg (show ¬ ((Value.ref Tx == Value.none) = true) from by simp)]
        have last : wpAny (model X.prog X.w) X.A (setFlight (.ref a) X.env.frame) (fun _ s4 => wpAny (model X.prog X.w) X.A (throw (.ref a) : Sem Flow) (SP X pins D) X.xe s4) X.xe { sx with heap := hp3 } := by
          rw [hf]
          exact HandSPX.setFlight_upZ fl fun h4 k4 up4 => wpAny_throw (tk _ _ ⟨a, B, sI, pins, σx, Hx, cls, d, rfl, J, nb, (up.trans up3).trans up4, .inr (.inr (hs ▸ k4)), na, os, ag, wx⟩)
        first
          | exact wpAny_bind (wpAny_pure (wpAny_bind last))
          | exact wpAny_bind last
      | @none x c ts b₀ bs np hp hds2 l2 hc go r ih =>
        rintro ⟨b, eb, yes, no⟩
        refine wpAny_handleBy_cons (codeAny_handlers_test (nm hc ((PySem.W.exm_one (M := model X.prog X.w) JL.kIn LT eb).here ?_))) (by intro q; cases q)
        cases b with
        | false => exact ih (no rfl)
        | true =>
          refine codeAny_handlers_suite (HandSPX.lands_againZ fl fun h4 fl4 up4 => ?_)
          have J4 : Inv X pins σx Hx { sx with heap := h4 } := J.landed nb fl4.1 ((up.trans up3).trans up4) os ag
          obtain ⟨o4, v4, e4, z4, f4⟩ := fl4.there
          refine wpAny_mono ((go a o4 cls d (X.pn ++ pins) z4 ⟨_, f4⟩).run [] _ _ Hx _ (J4.suite e4 f4 na nL nF) (yes rfl a na)) (fun f s6 hsp => ?_) (fun _ _ z => False.elim z)
          cases f with
          | next => exact let ⟨σ6, H6, S6, q6⟩ := hsp; ⟨σ6, H6, S6.unsuite ok, q6⟩
          | brk => exact let ⟨σ6, H6, S6, q6⟩ := hsp; ⟨σ6, H6, S6.unsuite ok, q6⟩
          | cont => exact let ⟨σ6, H6, S6, q6⟩ := hsp; ⟨σ6, H6, S6.unsuite ok, q6⟩
          | ret u => exact let ⟨v6, σ6, H6, S6, r6, q6⟩ := hsp; ⟨v6, σ6, H6, S6.unsuite ok, r6, q6⟩
      | @some x n c i ts b₀ bs np hp hds2 l2 hc hi hln go r ih =>
        rintro ⟨b, eb, yes, no⟩
        refine wpAny_handleBy_cons (codeAny_handlers_test (nm hc ((PySem.W.exm_one (M := model X.prog X.w) JL.kIn LT eb).here ?_))) (by intro q; cases q)
        cases b with
        | false => exact ih (no rfl)
        | true =>
          refine codeAny_handlers_suite_as (HandSPX.lands_againZ fl fun h4 fl4 up4 => ?_)
          have J4 : Inv X pins σx Hx { sx with heap := h4 } := J.landed nb fl4.1 ((up.trans up3).trans up4) os ag
          obtain ⟨o4, v4, e4, z4, f4⟩ := fl4.there
          refine L2.store_ok (X := X.suite a ((a, o4) :: (X.pn ++ pins))) (v := .ref a) (J4.suite e4 f4 na nL nF) hN hi (.inl hln) rfl (fun s5 S5 => ?_) (.inr hln)
          refine wpAny_mono ((go a o4 cls d (X.pn ++ pins) z4 ⟨_, f4⟩).run [] s5 _ Hx _ S5 (yes rfl a na)) (fun f s6 hsp => ?_) (fun _ _ z => False.elim z)
          have fin : ∀ {σ6 : L2.St} {H6 : Hp} {Q : Shared → Prop}, Inv (X.suite a ((a, o4) :: (X.pn ++ pins))) [] σ6 H6 s6 → (∀ s7, Inv X pins (σ6.set i Option.none) H6 s7 → Q s7) →
              wpAny (model X.prog X.w) X.A (do bindName X.env n .none; unbindBehindTheSuite X.env n hp) (fun _ s7 => Q s7) X.xe s6 := fun S6 hq => L2.gone_ok (S6.unsuite ok) hN hi hln hq
          cases f with
          | next => exact let ⟨_, _, S6, q6⟩ := hsp; fin S6 fun s7 J7 => ⟨_, _, J7, q6⟩
          | brk => exact let ⟨_, _, S6, q6⟩ := hsp; fin S6 fun s7 J7 => ⟨_, _, J7, q6⟩
          | cont => exact let ⟨_, _, S6, q6⟩ := hsp; fin S6 fun s7 J7 => ⟨_, _, J7, q6⟩
          | ret u => exact let ⟨_, _, _, S6, r6, q6⟩ := hsp; fin S6 fun s7 J7 => ⟨_, _, _, J7, r6, q6⟩
    exact step hh wx
  refine wpAny_mono ((hb (wMix X.K Wo D l) (X.pn ++ pins) _ (fun u sx x => catch_ u sx x) PassesOwn.looking).run [] s σ H D (I.toTry _) h) (fun f s1 hsp => ?_) (fun e s1 he => he)
  cases f with
  | next => exact let ⟨_, _, J, q⟩ := hsp; wpAny_execs_nil ⟨_, _, J.ofTry ok, q⟩
  | brk => exact let ⟨_, _, J, q⟩ := hsp; ⟨_, _, J.ofTry ok, q⟩
  | cont => exact let ⟨_, _, J, q⟩ := hsp; ⟨_, _, J.ofTry ok, q⟩
  | ret u => exact let ⟨_, _, _, J, r, q⟩ := hsp; ⟨_, _, _, J.ofTry ok, r, q⟩
end
end Py

set_option autoImplicit false
set_option linter.all false
set_option Elab.async false
set_option maxRecDepth 100000
set_option maxHeartbeats 4000000
/-! PyT: isinstance of a caught exception with a dict; x[::-1]. -/
namespace Py
open PySem PySem.Calls PyProof.Rows
section
variable {prog : Program} {w : World} {A : Around} {E : Value → Shared → Prop} {s : Shared} {K : PySem.W.Frag} {x D : Addr} {ox : Obj} {od : Option Obj}
theorem obj_data {C : Addr} {nm : Str} {a g : Value} (hc : (PySem.W.clsIn K C).isSome = true) (ha : PySem.W.findIn K (.ref C) nm = some (some a)) (hg : PySem.W.specialIn K a "__get__" = some (some g)) (ht : PySem.W.takesIn K a = some true) : PySem.W.findObj K C od nm = some (.bind g a) := by
  obtain ⟨cd, e⟩ := Option.isSome_iff_exists.mp hc
  simp [PySem.W.findObj, e, ha, hg, ht]
theorem exc_class {Q : Option Value → Shared → Prop} (T : L2.ExcC K D) (X : K.In s.heap) (I : PySem.W.InstAt s.heap x ox D od) (h : Q (some (.ref D)) { s with toks := s.toks + 1 }) : wpAny (model prog w) A (getAttr? (.ref x) "__class__") Q E s := by
  have fo : PySem.W.findObj K D od "__class__" = some (.bind (.builtin "getset_descriptor.__get__") (.builtin "object.__class__")) := obj_data (by obtain ⟨cd, e, _⟩ := PySem.W.any_some T.hd; rw [e]; rfl) T.ha T.hn T.ht
  obtain ⟨hp, gs, dr, tk, os⟩ := s
  have A0 := I.type (M := model prog w)
  have A1 := PySem.W.looks_findIn (M := model prog w) X T.hg
  have A2 := PySem.W.looks_findIn (M := model prog w) X T.hk
  have A3 := PySem.W.looks_find (M := model prog w) X I fo
  have n2 : (Value.builtin "BaseException.__getattribute__" == Value.builtin "object.__getattribute__") = false := by decide +kernel
  have n1 : (onTheHeap (Value.ref D) && Value.builtin "BaseException.__getattribute__" == Value.builtin "object.__getattribute__") = false := by rw [n2] <;> rfl
  have n0 : (false && onTheHeap (Value.builtin "BaseException.__getattribute__")) = false := rfl
  have bs : PySem.W.Looks (model prog w) hp (isInstance (.ref x) (.type "BaseException")) true := A0.andThen (PySem.W.looks_subIn X T.hs)
  unfold getAttr? getAttrBy? getAttrBy
  refine wpAny_bind (wpAny_mkText (wpAny_bind (wpAny_attempt (wpAny_holding (wpAny_bind (A0.at (wpAny_bind (A1.at ?_))))))))
  show wpAny _ _ (if (onTheHeap (Value.ref D) && Value.builtin "BaseException.__getattribute__" == Value.builtin "object.__getattribute__") = true then _ else _) _ _ _
  rw [n1, if_neg Bool.false_ne_true]
  unfold getAttrByItsOwn hookBefore
  refine wpAny_bind ?_
  rw [if_pos (show onTheHeap (Value.ref D) = true from rfl)]
  refine A2.at (wpAny_bind (wpAny_attempt (wpAny_holding ?_)))
  unfold callGetattribute
  rw [n0, if_neg Bool.false_ne_true]
  unfold boundAndCalled
  rw [PySem.F.excAttr_ValueError.ga.bind (.ref x)]
  refine wpAny_bind (wpAny_pure ?_)
  show wpAny _ _ (call (.builtin "BaseException.__getattribute__") [.ref x, .str "__class__" tk]) _ _ _
  refine wpAny_call (codeAny_call_builtin PySem.F.excAttr_ValueError.ga.plain PySem.F.entry_bexc_ga ?_)
  refine @PySem.W.check_slot (model prog w) _ _ ⟨hp, gs, dr, tk + 1, os⟩ "BaseException.__getattribute__" "BaseException" "__getattribute__" (.ref x) [.str "__class__" tk] [] _ (by decide +kernel) (by decide +kernel) bs (PySem.F.args_bexc_ga (.ref x) (.str "__class__" tk)) ?_
  unfold Builtin.«object.__getattribute__»
  refine wpAny_bind (wpAny_of_eq (a := ((Value.ref x : Value), [Value.str "__class__" tk])) (by first | rfl | (simp only [slotArgs]; rfl)) ?_)
  refine wpAny_bind (wpAny_pure (wpAny_bind (A0.at (wpAny_bind (A3.at ?_)))))
  show wpAny _ _ (holding [Value.builtin "object.__class__"] (call (.builtin "getset_descriptor.__get__") [.builtin "object.__class__", .ref x, .ref D]) >>= ret) _ _ _
  refine wpAny_bind (wpAny_holding (wpAny_call (PySem.W.class_get (s := ⟨hp, gs, dr, tk + 1, os⟩) (ox := ox) (od := od) X I T.hm ?_)))
  refine wpAny_pure ?_
  show wpAny _ _ (handedOut (.ref D)) _ _ _
  rw [PySem.W.handedOut_of (v := .ref D) rfl]
  first
    | exact wpAny_pure (wpAny_pure h)
    | exact wpAny_pure h
    | exact wpAny_pure (wpAny_bind (wpAny_pure (wpAny_pure h)))
theorem exc_kit (T : L2.ExcC K D) : PySem.W.KitX K (.ref x) (.ref D) (fun h => PySem.W.InstAt h x ox D od) where
  ty := fun _ _ _ I => I.type
  it := fun _ _ X _ => by
    obtain ⟨cd, hc, _⟩ := PySem.W.any_some T.hd
    unfold PySem.W.clsIn at hc
    split at hc
    · rename_i _ _ _ _ ho
      intro A' Q' E' s' k q
      unfold isType loadHead
      exact wpAny_bind (wpAny_loadPart (k _ _ (X _ _ ho)) (wpAny_pure q))
    · cases hc
  ne := fun h tp dd its n sl X htp => by
    obtain ⟨cd, hc, _⟩ := PySem.W.any_some T.hd
    by_cases q : D = tp
    · subst q
      exfalso
      unfold PySem.W.clsIn at hc
      split at hc
      · rename_i _ _ _ _ ho
        cases (X _ _ ho).symm.trans htp
      · cases hc
    · exact beq_eq_false_iff_ne.mpr fun z => q (Value.ref.inj z)
  ca := fun X I k => exc_class T X I k
end
section
open L2 (V Hp HO Cx Inv CallR VK RelV Vals)
def rIsX (K : PySem.W.Frag) (D a : Addr) (d : Option Addr) : List V → Hp → VK → Prop := fun xs H Q => ∃ (c : V) (cv : Value) (b : Bool), xs = [.ref a, c] ∧ (∀ u, RelV c u → u = cv) ∧ PySem.W.kitOne K (.ref D) cv = some b ∧ (∀ dd, d = some dd → ∃ fs, H dd = some (.xd fs)) ∧ Q (.bl b) H
theorem call_isX {X : Cx} {a D : Addr} {oe : Obj} {d : Option Addr} {pn : List (Addr × Obj)} (C : L2.ExcC X.K D) (hz : L2.Zc (.ref D) d oe) (hf : ∃ vs, oe.data = .fields vs) : CallR (X.suite a ((a, oe) :: pn)) (.builtin "isinstance") (rIsX X.K D a d) := by
  intro pins s σ H xs us Q I r h
  obtain ⟨c, cv, b, rfl, hcv, e, hd, q⟩ := h
  cases r with
  | cons rx rr =>
    cases rr with
    | cons rt rr =>
      cases rr
      cases rx
      have ec := hcv _ rt
      subst ec
      obtain ⟨hget, _⟩ := I.pin (a, oe) (List.mem_append.mpr (.inl List.mem_cons_self))
      obtain ⟨vs, hv⟩ := hf
      obtain ⟨oc, ood, oda, osl⟩ := oe
      obtain ⟨h1, h2⟩ := hz
      dsimp only at h1 h2 hv
      subst h1 h2 hv
      cases ood with
      | none => exact PySem.W.kia_one (exc_kit (od := none) C) I.kIn ⟨hget, rfl, rfl, trivial⟩ e (fun z => nomatch z) fun tk => ⟨.bl b, H, I.kept (t' := tk) fun _ _ z => z, rfl, q⟩
      | some dd =>
        obtain ⟨fs, hx⟩ := hd dd rfl
        obtain ⟨mA, hns, _⟩ := (show L2.ObjOk X.prog X.w H s.heap dd (.xd fs) from I.hok dd _ hx)
        obtain ⟨o, _, _, ho, _⟩ := hns
        exact PySem.W.kia_one (exc_kit (od := some o) C) I.kIn ⟨hget, rfl, rfl, ho⟩ e (fun z => nomatch z) fun tk => ⟨.bl b, H, I.kept (t' := tk) fun _ _ z => z, rfl, q⟩
end
section
open L2 (V Hp HO Cx Inv CallR VK RelV Vals)
variable {N : Nm} {Γ : Env} {W : L2.WX}
theorem VRs.rev {Z μ : List Addr} {H : Hp} : ∀ {as : List A} {vs : List V}, VRs N.K N.fa Z μ H as vs → VRs N.K N.fa Z μ H as.reverse vs.reverse
  | [], vs, h => by simp only [VRs] at h; subst h; simp [VRs]
  | a :: as, vs, h => by
    simp only [VRs] at h
    obtain ⟨v, r, rfl, h1, h2⟩ := h
    rw [List.reverse_cons, List.reverse_cons]
    exact (VRs.rev h2).append (VRs.one h1)
theorem t_revL {fz : Bool} {a : E} (σ : L2.St) (H : Hp) (Q : VK) (h : tE N Γ W (.rev fz a) σ H Q) : L2.tRevL N.K (tE N Γ W a) σ H Q := by
  refine t_one (f := kRev fz) (t := fun x H1 Q => ∃ p xs, x = .ref p ∧ L2.SqL N.K H1 p xs ∧ ∀ q, H1 q = none → Q (.ref q) (L2.upd H1 q (.lst xs.reverse))) (fun l s => rfl) (fun x s v Z μ H σ Q S r G => ?_) σ H Q h
  replace G : GoodE N W Z μ H σ (kRev2 fz (lstOf s x) s) Q := G
  cases e : lstOf s x with
  | none => rw [e] at G; exact False.elim G
  | some as =>
    rw [e] at G
    obtain ⟨p, vs, rfl, h1, h2⟩ := lst_read S r e
    exact ⟨p, vs, rfl, h1.sq, Good.mkL S h2.rev G⟩
theorem kd_mut {Z μ : List Addr} {H : Hp} {s : Sto} {k : BK} {a : A} {v : V} (hk : k = .mut) (S : SR N.K N.fa N.cv Z μ s H) (r : VR N.K N.fa Z μ H a v) (h : isB k a s = true) : L2.tyV N.K "dict" v H := by
  subst hk
  cases a <;> first | cases h | skip
  rename_i n
  simp only [VR] at r
  obtain ⟨p, rfl, hp⟩ := r
  replace h : isC .mut s[n]? = true := h
  cases e : s[n]? with
  | none => rw [e] at h; cases h
  | some c =>
    rw [e] at h
    obtain ⟨q, h2, hc⟩ := S.cell n c e
    obtain rfl : p = q := Option.some.inj (hp.symm.trans h2)
    cases c with
    | lst as => cases h
    | ins c fs => cases h
    | lck t ks => cases h
    | dct t ks =>
      cases t with
      | false => obtain ⟨kvs, h3, _⟩ := hc; exact .inr (.inr (.inl ⟨rfl, .inl ⟨kvs, h3⟩⟩))
      | true => obtain ⟨kvs, h3, _⟩ := hc; exact .inr (.inr (.inl ⟨rfl, .inr ⟨kvs, h3⟩⟩))
end
end Py

set_option autoImplicit false
set_option linter.all false
set_option Elab.async false
set_option maxRecDepth 100000
set_option maxHeartbeats 4000000
/-! PyS9: what the checker lets, holds. -/
namespace Py
open PySem PyProof.Rows
open L2 (V Hp HO Rd SqL SqT Cx Inv PE PT PA PS PSs PG PGs PI TE TT TA TS TG TGs TI It Ends VK XK WX St Room upd upd_same upd_ne ne_of_none Key kV RelV Vals R2 OpR UnR CallR tOp Dp DpAll rI rI0 EP MtR IxR PSet PW Gl tB tAndV tOrV tNotV tAnd tOr tNot Takes FnOk Binds Sp PassesAt WE gName gNil gCons gTup gLst Itl Itt Itr PTs Vis)
/-- the built-ins that a text may use -/
def bltL : List String := ["len", "abs", "int", "list", "range", "isinstance", "bool", "str", "tuple", "dict", "max", "min", "sum", "all", "any", "sorted", "repr", "ord", "enumerate", "zip", "reversed", "ValueError", "Exception"]
/-- what the text's exceptions are -/
structure XOk (N : Nm) (xn : Nat → Option Str) (xr : Nat → Option Nat) (sub : Nat → Nat → Bool) (xat : Nat → String → Bool) (mg : Str → Option Value) : Prop where
  ini : ∀ cc x n, xn cc = some x → xr cc = some n → N.xk cc = true ∧ ∃ C fI, N.cv cc = some (.ref C) ∧ mg x = some (.ref C) ∧ L2.OexC N.K C ∧ PySem.W.findIn N.K (.ref C) "__init__" = some (some (.ref fI)) ∧ PySem.W.typeIn N.K (.ref fI) = some (.type "function") ∧
    match N.xa cc with
      | some g => n = 1 ∧ ∀ P w base, ∃ fd ps, FnOk P w N.K mg base (L2.CX P w) 1 fI fd ps (spIf C (Str.ofString g)) ∧ Binds N.K fd ps []
      | none => n = 0 ∧ ∀ P w base, ∃ fd ps, FnOk P w N.K mg base (L2.CX P w) 1 fI fd ps (spI0 C) ∧ Binds N.K fd ps []
  xat : ∀ cc f, xat cc f = true → N.xa cc = some f
  fld : ∀ cc C f, N.xk cc = true → N.cv cc = some (.ref C) → N.xa cc = some f → L2.XfC N.K C ∧ PySem.W.findIn N.K (.ref C) (Str.ofString f) = some none
  exc : ∀ cc v, N.xk cc = true → N.cv cc = some v → ∃ C, v = .ref C ∧ L2.ExcC N.K C
  isx : ∀ cc C kk v x, N.xk cc = true → N.cv cc = some (.ref C) → xn kk = some x → N.cv kk = some v → PySem.W.kitOne N.K (.ref C) v = some (sub cc kk)
  exm : ∀ cc kk v u, xn kk ≠ none → N.xk cc = true → N.cv cc = some v → N.cv kk = some u → PySem.W.exmOne N.K v u = some (sub cc kk)
  nam : ∀ kk x, xn kk = some x → (∃ C, N.cv kk = some (.ref C) ∧ mg x = some (.ref C)) ∨ (x = Str.ofString "ValueError" ∧ N.cv kk = some (.type "ValueError"))
/-- within a suite -/
structure HotX (N : Nm) (Γ : Env) (X : Cx) (i : Nat) : Prop where
  ex : ∃ (Xb : Cx) (oe : Obj) (pn : List (Addr × Obj)) (x : XI), N.xs = some x ∧ x.i = some i ∧ X = Xb.suite x.a ((x.a, oe) :: pn) ∧ L2.Zc x.cls x.d oe ∧ (∃ vs, oe.data = .fields vs) ∧ Γ.exn = some (i, x.e)
structure CokE (N : Nm) (c : Ck) (Γ : Env) (k : Nat) (W : WX) (X : Cx) : Prop where
  K : X.K = N.K
  ns : X.N = c.ns
  sc : c.top = true → X.env.scope = c.sc
  sglo : ∀ x, c.sc.names.lookup x = some .globalImplicit → X.env.scope.names.lookup x = some .globalImplicit
  sloc : ∀ x, c.sc.names.lookup x = some .local → X.env.scope.names.lookup x = some .local
  scel : ∀ x, c.sc.names.lookup x = some .cell → X.env.scope.names.lookup x = some .cell ∧ X.fn x = true
  sfre : ∀ x, c.sc.names.lookup x = some .free → X.env.scope.names.lookup x = some .free ∨ X.env.scope.names.lookup x = some .cell
  nd : X.N.Nodup
  calm : c.hot = false → X.calm = true
  room : c.hot = false → Room (k + 1) X.A
  un : X.A.units + 200 < cLine
  lev : 1 ≤ k
  cool : c.hot = false → N.xs = none
  free : ∀ i, ¬ c.ex = some i → N.free i
  hotx : ∀ i, c.ex = some i → HotX N Γ X i
  xok : XOk N c.xn c.xr Γ.sub Γ.xat X.mg
  tk : Takes X W
  blt : ∀ n ∈ bltL, X.mg (Str.ofString n) = none
  fns : ∀ f x, c.fn f = some x → ∃ a fd ps, X.mg x = some (.ref a) ∧ N.fa f = some a ∧ PySem.W.keepIn X.K (.ref a) = true ∧ FnOk X.prog X.w X.K X.mg X.base (L2.CX X.prog X.w) k a fd ps (spF N (Γ.call f)) ∧ Binds X.K fd ps []
  gls : ∀ g x, c.gn g = some x → ∃ a v u, Γ.glb g = some a ∧ X.mg x = some u ∧ RelV v u ∧ ∀ Z μ H, VR N.K N.fa Z μ H a v
  mks : ∀ kk x, c.cn kk = some x → ∃ f C a fd ps, Γ.init kk = some f ∧ X.mg x = some (.ref C) ∧ N.cv kk = some (.ref C) ∧ L2.Mk X.K C a ∧ L2.Cls N.K C ∧ FnOk X.prog X.w X.K X.mg X.base (L2.CX X.prog X.w) k a fd ps (spF N (Γ.call f)) ∧ Binds X.K fd ps []
  mts : MethsOk N Γ X k
  flds : ∀ f ∈ c.flds, ∀ cc C, N.cv cc = some (.ref C) → L2.NoAttr N.K C (Str.ofString f)
section
variable {N : Nm} {Γ : Env} {k : Nat} {c : Ck} {W : WX} {X : Cx}
theorem CokE.glo (o : CokE N c Γ k W X) {x : Str} (h : c.glo x = true) : Gl X x ∧ (x == ("__debug__" : Str)) = false := by
  simp only [Ck.glo, Bool.and_eq_true, Bool.not_eq_true', beq_iff_eq] at h
  exact ⟨o.sglo x h.1, h.2⟩
theorem CokE.vis (o : CokE N c Γ k W X) {x : Str} (h : c.vis x = true) : Vis X.env.scope x ∧ (x == ("__debug__" : Str)) = false ∧ (x == ("__classdict__" : Str)) = false := by
  simp only [Ck.vis, Bool.and_eq_true, Bool.or_eq_true, Bool.not_eq_true', beq_iff_eq] at h
  refine ⟨?_, h.2.1, h.2.2⟩
  rcases h.1 with (h | h) | h
  · exact .inl (o.sloc x h)
  · exact .inr (.inl (o.scel x h).1)
  · rcases o.sfre x h with h | h
    · exact .inr (.inr h)
    · exact .inr (.inl h)
theorem CokE.noex (o : CokE N c Γ k W X) (h : c.hot = false) : c.ex = none := by
  cases e : c.ex with
  | none => rfl
  | some i =>
    obtain ⟨_, _, _, x, h1, _⟩ := (o.hotx i e).ex
    rw [o.cool h] at h1
    cases h1
theorem CokE.pass (o : CokE N c Γ k W X) : ∀ σ, PassesAt (L2.CX X.prog X.w) X σ (WE W σ) := fun σ => L2.passAt o.tk σ
theorem star_ok {e : Expr} {es : List Expr} {env : PySem.Env} (h : nst e = true) : starEach (e :: es) env = (false, eval e env) :: starEach es env := by
  cases e <;> first | rfl | cases h
theorem nst_all {Γ' : PySem.Env} : ∀ {es : List E} {xs : List Expr}, chkEs es c xs = true → (∀ pos, (backTo pos (starEach xs Γ')).any (·.1) = false) ∧ (∀ pos, (backTo pos (starEach xs Γ')).all (fun x => !x.1) = true) ∧ xs.length = es.length
  | [], xs, h => by
    unfold chkEs at h
    cases xs with
    | nil => exact ⟨fun _ => rfl, fun _ => rfl, rfl⟩
    | cons x xs => cases h
  | e :: es, xs, h => by
    unfold chkEs at h
    cases xs with
    | nil => cases h
    | cons x xs =>
      simp only [Bool.and_eq_true] at h
      obtain ⟨h1, h2, h3⟩ := nst_all (Γ' := Γ') h.2.2
      refine ⟨fun pos => ?_, fun pos => ?_, by simp [h3]⟩
      · rw [star_ok h.1]
        show (false || (backTo pos (starEach xs Γ')).any (·.1)) = false
        rw [h1]
        rfl
      · rw [star_ok h.1]
        show (true && (backTo pos (starEach xs Γ')).all (fun x => !x.1)) = true
        rw [h2]
        rfl
theorem nocall_ab {x : Expr} {f : Str} {env : PySem.Env} (h : notCall x = true) : attributeBase x f env (eval x env) = eval x env := by
  cases x <;> first | rfl | cases h
theorem ofS_eq {n : Str} {m : String} (h : (n == Str.ofString m) = true) : n = Str.ofString m := beq_iff_eq.mp h
/-- the three judgements -/
def Three (N : Nm) (Γ : Env) (W : WX) (X : Cx) (e : E) (x : Expr) : Prop := PE X x (tE N Γ W e) ∧ (notIf x = true → PT X x (tB (tE N Γ W e))) ∧ (∀ op vs p, x = .BoolOp op vs p → PW X x (tB (tE N Γ W e)))
def plainX : Expr → Bool
  | .BoolOp .. => false
  | .UnaryOp .. => false
  | .IfExp .. => false
  | .Compare .. => false
  | _ => true
theorem three {e : E} {x : Expr} (h : PE X x (tE N Γ W e)) (hp : plainX x = true) : Three N Γ W X e x := by
  refine ⟨h, fun _ => L2.pt_val h ?_, ?_⟩
  · cases x <;> first | (intro _; rfl) | cases hp
  · rintro op vs p rfl
    cases hp
theorem pe_and2 {a b x y : Expr} {A B : TE} {pos : Pos} (ha : PE X a A) (hb : PE X b B) : PE X (.BoolOp .And [a, b] pos) (tAndV A B) := L2.pe_and ha (L2.pe_one hb)
theorem binop_ok (o : CokE N c Γ k W X) {op : BOp} {fz : Bool} (h : op.ok = true) : OpR X (binaryOp op.ast) (rV2 N (binA op fz)) := by
  cases op with
  | add => exact o_add o.K
  | sub => exact o_sub
  | mul => exact o_mul o.K
  | fdiv => exact o_fdiv
  | mod => exact o_mod
  | band => exact o_band
  | bor => exact o_bor
  | bxor => exact o_bxor
  | shl => exact o_shl
  | shr => exact o_shr
theorem cmpop_ok (o : CokE N c Γ k W X) {op : COp} (h : op.ok = true) : OpR X (compareOp op.ast) (rV2 N (cmpA op)) := by
  cases op with
  | eq => exact o_eq o.K (by have := o.un; omega)
  | ne => exact o_ne o.K (by have := o.un; omega)
  | lt => exact o_lt
  | le => exact o_le
  | gt => exact o_gt o.K (by have := o.un; omega)
  | ge => exact o_ge
  | inn => exact o_in o.K (by have := o.un; omega)
  | nin => exact o_nin o.K (by have := o.un; omega)
theorem cmp_mark {e : E} {y : Expr} (op : CmpOp) (h : chkE e c y = true) : behindInMarks op y = false := by
  cases y <;> first | rfl | skip
  cases e <;> cases h
theorem pe_is {a : Expr} {op : CmpOp} {r : R2} {A : TE} {p q : Pos} {j : Nat} (ho : OpR X (compareOp op) r) (ha : PE X a A) : PE X (.Compare a [op] [.Constant .none j q] p) (tOp r A (L2.tC .non)) := L2.pe_cmpR ho ha L2.pe_non rfl
theorem fold_ok {it : Expr} {env : PySem.Env} (h : notRange it = true) : ∀ x, foldedSetIterable it env x = pure x := by
  intro x
  cases it <;> first | rfl | cases h
theorem plainIx {y : Expr} (h : notSl y = true) : L2.PlainIx y := by
  intro o i
  cases y <;> first | rfl | cases h
theorem t_pe {A A' : TE} {x : Expr} (h : PE X x A) (e : A = A') : PE X x A' := e ▸ h
/-- a target -/
theorem pg_nm (o : CokE N c Γ k W X) {i : Nat} {x : Str} {p : Pos} (h : (c.ns[i]? == some x && (c.sc.names.lookup x == some .local || c.sc.names.lookup x == some .cell)) = true) : PG X (.Name x p) (gName i) := by
  simp only [Bool.and_eq_true, Bool.or_eq_true, beq_iff_eq] at h
  refine L2.pg_name (i := i) o.nd (by rw [o.ns]; exact h.1) ?_ ?_
  · rcases h.2 with h | h
    · exact .inl (o.sloc x h)
    · exact .inr (o.scel x h).1
  · rcases h.2 with h | h
    · exact .inr (o.sloc x h)
    · exact .inl (o.scel x h).2
theorem pgs_ok (o : CokE N c Γ k W X) : ∀ (is : List Nat) (xs : List Expr), chkNs c is xs = true → PGs X xs (gs is)
  | [], [], _ => L2.pgs_nil
  | i :: is, .Name x p :: xs, h => by
    simp only [chkNs, Bool.and_eq_true] at h
    exact L2.pgs_cons (pg_nm (W := W) o (by simpa using h.1)) (pgs_ok o is xs h.2)
  | [], _ :: _, h => by simp [chkNs] at h
  | _ :: _, [], h => by simp [chkNs] at h
  | _ :: _, .BoolOp .. :: _, h => by simp [chkNs] at h
  | _ :: _, .NamedExpr .. :: _, h => by simp [chkNs] at h
  | _ :: _, .BinOp .. :: _, h => by simp [chkNs] at h
  | _ :: _, .UnaryOp .. :: _, h => by simp [chkNs] at h
  | _ :: _, .Lambda .. :: _, h => by simp [chkNs] at h
  | _ :: _, .IfExp .. :: _, h => by simp [chkNs] at h
  | _ :: _, .Dict .. :: _, h => by simp [chkNs] at h
  | _ :: _, .Set .. :: _, h => by simp [chkNs] at h
  | _ :: _, .ListComp .. :: _, h => by simp [chkNs] at h
  | _ :: _, .SetComp .. :: _, h => by simp [chkNs] at h
  | _ :: _, .DictComp .. :: _, h => by simp [chkNs] at h
  | _ :: _, .GeneratorExp .. :: _, h => by simp [chkNs] at h
  | _ :: _, .Await .. :: _, h => by simp [chkNs] at h
  | _ :: _, .Yield .. :: _, h => by simp [chkNs] at h
  | _ :: _, .YieldFrom .. :: _, h => by simp [chkNs] at h
  | _ :: _, .Compare .. :: _, h => by simp [chkNs] at h
  | _ :: _, .Call .. :: _, h => by simp [chkNs] at h
  | _ :: _, .FormattedValue .. :: _, h => by simp [chkNs] at h
  | _ :: _, .JoinedStr .. :: _, h => by simp [chkNs] at h
  | _ :: _, .Constant .. :: _, h => by simp [chkNs] at h
  | _ :: _, .Attribute .. :: _, h => by simp [chkNs] at h
  | _ :: _, .Subscript .. :: _, h => by simp [chkNs] at h
  | _ :: _, .Starred .. :: _, h => by simp [chkNs] at h
  | _ :: _, .List .. :: _, h => by simp [chkNs] at h
  | _ :: _, .Tuple .. :: _, h => by simp [chkNs] at h
  | _ :: _, .Slice .. :: _, h => by simp [chkNs] at h
theorem chkNs_len : ∀ (is : List Nat) (xs : List Expr), chkNs c is xs = true → xs.length = is.length
  | [], [], _ => rfl
  | [], _ :: _, h => by simp [chkNs] at h
  | _ :: _, [], h => by simp [chkNs] at h
  | i :: is, x :: xs, h => by
    cases x <;> first | (simp [chkNs] at h; done) | skip
    simp only [chkNs, Bool.and_eq_true] at h
    simp [chkNs_len is xs h.2]
theorem each_ok {env : PySem.Env} : ∀ (is : List Nat) (xs : List Expr), chkNs c is xs = true → (assignEach xs env).length = xs.length ∧ (assignEach xs env).findIdx? (·.1) = none
  | [], [], _ => ⟨rfl, rfl⟩
  | [], _ :: _, h => by simp [chkNs] at h
  | _ :: _, [], h => by simp [chkNs] at h
  | i :: is, x :: xs, h => by
    cases x <;> first | (simp [chkNs] at h; done) | skip
    rename_i nm p
    simp only [chkNs, Bool.and_eq_true] at h
    obtain ⟨h1, h2⟩ := each_ok (env := env) is xs h.2
    have e : assignEach (.Name nm p :: xs) env = (false, assign (.Name nm p) env) :: assignEach xs env := rfl
    rw [e]
    refine ⟨by simp [h1], ?_⟩
    rw [List.findIdx?_cons, h2]
    rfl
theorem chkT_ok (o : CokE N c Γ k W X) {t : T} {x : Expr} (h : chkT c t x = true) : PG X x (gT N t) := by
  cases t with
  | nm i =>
    cases x <;> first | cases h | skip
    obtain ⟨h1, h2⟩ := Bool.and_eq_true_iff.mp h
    exact pg_imp (pg_nm o h2) (g_nm (o.free i (by simpa using h1)))
  | tp is =>
    cases x <;> first | cases h | skip
    rename_i xs kk p
    obtain ⟨h0, h⟩ := Bool.and_eq_true_iff.mp (show (!c.hot && chkNs c is xs) = true from h)
    have h0 : c.hot = false := by simpa using h0
    have fr : ∀ i ∈ is, N.free i := fun i _ x hx => by rw [o.cool h0] at hx; cases hx
    have hl := chkNs_len is xs h
    have gsok := pgs_ok o is xs h
    refine pg_imp (pg_or (t := gTup N.K is.length (gs is)) (t' := gLst N.K is.length (gs is)) ?_ ?_) (g_tp fr)
    · rw [← o.K, ← hl]
      exact L2.pg_tup (o.calm h0) gsok (each_ok is xs h).1 (each_ok is xs h).2
    · rw [← o.K, ← hl]
      exact L2.pg_lst (o.calm h0) gsok (each_ok is xs h).1 (each_ok is xs h).2
theorem relS_free {sc : Scope} : ∀ {names : List (Str × NameKind)} {x : Str}, names.lookup x = some .free →
    (names.map fun (n, k) => if (k == NameKind.free && sc.kind == .function && sc.names.lookup n == some .cell) then (n, NameKind.cell) else (n, k)).lookup x = some .free ∨
    (names.map fun (n, k) => if (k == NameKind.free && sc.kind == .function && sc.names.lookup n == some .cell) then (n, NameKind.cell) else (n, k)).lookup x = some .cell
  | [], _, h => by simp at h
  | (n, k0) :: r, x, h => by
    have ih := @relS_free sc r x
    show List.lookup x ((if (k0 == NameKind.free && sc.kind == .function && sc.names.lookup n == some .cell) = true then (n, NameKind.cell) else (n, k0)) :: (r.map _)) = _ ∨ List.lookup x ((if (k0 == NameKind.free && sc.kind == .function && sc.names.lookup n == some .cell) = true then (n, NameKind.cell) else (n, k0)) :: (r.map _)) = _
    cases hx : x == n with
    | true =>
      simp only [List.lookup_cons, hx] at h
      cases h
      by_cases hc : (NameKind.free == NameKind.free && sc.kind == .function && sc.names.lookup n == some .cell) = true
      · right
        rw [if_pos hc]
        simp only [List.lookup_cons, hx]
      · left
        rw [if_neg hc]
        simp only [List.lookup_cons, hx]
    | false =>
      simp only [List.lookup_cons, hx] at h
      by_cases hc : (k0 == NameKind.free && sc.kind == .function && sc.names.lookup n == some .cell) = true
      · rw [if_pos hc]; simp only [List.lookup_cons, hx]; exact ih h
      · rw [if_neg hc]; simp only [List.lookup_cons, hx]; exact ih h
theorem meth_eval {x : Expr} {m : Str} {ap q : Pos} {xs : List Expr} {env : PySem.Env} (h0 : notCall x = true) (hl : (ap.endLine == q.line) = true) (hf : (backTo q (starEach xs env)).all (fun x => !x.1) = true) (hn : xs.length < 30) :
    eval (.Call (.Attribute x m ap) xs [] q) env = (do
      let ov ← eval x env
      standAt ap.atName
      let (f, first) ← holding [ov] (getMethod ov m (do return (← importBound x env).getD true))
      callWith q f first (backTo q (starEach xs env)) (backToKw q (keywordEach [] env))) := by
  have e : methodCallForm (xs.length + ([] : List Keyword).length) (backTo q (starEach xs env)) (backToKw q (keywordEach [] env)) = true := by
    unfold methodCallForm
    rw [hf]
    show (true && true && decide (xs.length + 0 + (if true = true then 0 else 1) < 30)) = true
    simp
    exact hn
  have e2 : eval (.Call (.Attribute x m ap) xs [] q) env = (do
      let ov ← attributeBase x m env (eval x env)
      standAt ap.atName
      methodCall x m ap q env ov (xs.length + ([] : List Keyword).length) (backTo q (starEach xs env)) (backToKw q (keywordEach [] env))) := rfl
  rw [e2, nocall_ab h0]
  unfold methodCall calleeOf methodCallPos
  rw [e]
  simp only [Bool.not_true, Bool.false_or, hl, if_true]
  rfl
/-- the comprehension's own block -/
theorem CokE.blk (o : CokE N c Γ k W X) (hc : c.ex = none) {sc : Scope} (s : Shared) (H : Hp) (C : Addr) (cl : List (Str × Addr)) (fp : List Addr) : CokE N { c with sc := sc, top := false } Γ k WF (X.blk s H sc (compEnvC sc cl C X.env) fp) where
  K := o.K
  ns := o.ns
  sc := fun h => (by cases h)
  sglo := fun x h => L2.lookup_relS_keep (sc := X.env.scope) (by decide) h
  sloc := fun x h => L2.lookup_relS_keep (sc := X.env.scope) (by decide) h
  scel := fun x h => ⟨L2.lookup_relS_keep (sc := X.env.scope) (by decide) h, beq_iff_eq.mpr h⟩
  sfre := fun x h => relS_free h
  nd := o.nd
  calm := o.calm
  room := o.room
  un := o.un
  lev := o.lev
  cool := o.cool
  free := o.free
  hotx := fun i hi => absurd hi (by rw [hc]; simp)
  xok := o.xok
  tk := L2.takes_none5
  blt := o.blt
  fns := o.fns
  gls := o.gls
  mks := o.mks
  mts := o.mts
  flds := o.flds
theorem bc_ok (o : CokE N c Γ k W X) (h0 : c.hot = false) {f : BF} {fz : Bool} {n : String} (h : f.nm = some n) : (∃ id, bootBuiltins (Str.ofString n) = some (.builtin id) ∧ CallR X (.builtin id) (rVs N (bcA f fz))) ∨ ∃ id, bootBuiltins (Str.ofString n) = some (.type id) ∧ CallR X (.type id) (rVs N (bcA f fz)) := by
  cases f <;> first | cases h | skip
  · exact .inl ⟨"len", by rfl, c_len o.K⟩
  · exact .inl ⟨"abs", by rfl, c_abs⟩
  · exact .inr ⟨"int", by rfl, c_int⟩
  · exact .inr ⟨"str", by rfl, c_str⟩
  · exact .inl ⟨"ord", by rfl, c_ord⟩
  · exact .inl ⟨"max", by rfl, c_max1 o.K (o.calm h0)⟩
  · exact .inl ⟨"max", by rfl, c_max2 (o.calm h0)⟩
  · exact .inl ⟨"min", by rfl, c_min1 o.K (o.calm h0)⟩
  · exact .inl ⟨"min", by rfl, c_min2 (o.calm h0)⟩
  · exact .inl ⟨"sum", by rfl, c_sum o.K (o.calm h0)⟩
  · exact .inl ⟨"all", by rfl, c_all o.K (o.calm h0)⟩
  · exact .inl ⟨"any", by rfl, c_any o.K (o.calm h0)⟩
  · exact .inr ⟨"list", by rfl, c_list o.K⟩
theorem bc_nm {f : BF} {n : String} (h : f.nm = some n) : n ∈ bltL ∧ Str.ofString n ≠ "__name__" := by
  cases f <;> cases h <;> exact ⟨by decide, by decide⟩
theorem chkI_nk {es : List E} {ik : IK} {c : Ck} {x tg : Expr} (h : chkI es ik tg c x = true) : ik ≠ .keys := by
  rintro rfl
  match es, h with
  | [], h => cases h
  | [_], h => cases h
  | [_, _], h => cases h
  | [_, _, _], h => cases h
  | _ :: _ :: _ :: _ :: _, h => cases h
mutual
theorem snd : ∀ (e : E) (c : Ck) (x : Expr) (W : WX) (X : Cx), chkE e c x = true → CokE N c Γ k W X → Three N Γ W X e x
  | .loc i => by
    intro c x W X h o
    unfold chkE at h
    split at h <;> first | cases h | skip
    simp only [Bool.and_eq_true, beq_iff_eq] at h
    obtain ⟨h1, h2⟩ := h
    obtain ⟨v1, v2, v3⟩ := o.vis h2
    exact three (pe_imp (L2.pe_var (i := i) (by rw [o.ns]; exact h1) v1 v2 v3) t_loc) rfl
  | .non => by
    intro c x W X h o
    unfold chkE at h
    split at h <;> first | cases h | skip
    exact three (pe_imp L2.pe_non (t_con (fun l s => rfl) (fun Z μ H => by simp [VR]))) rfl
  | .bl b => by
    intro c x W X h o
    unfold chkE at h
    split at h <;> first | cases h | skip
    rename_i d _ _
    simp only [beq_iff_eq] at h
    subst h
    exact three (pe_imp L2.pe_bl (t_con (a := .bl b) (fun l s => rfl) (fun Z μ H => by simp [VR]))) rfl
  | .int i => by
    intro c x W X h o
    unfold chkE at h
    split at h <;> first | cases h | skip
    simp only [beq_iff_eq] at h
    subst h
    exact three (pe_imp L2.pe_int (t_con (a := .int i) (fun l s => rfl) (fun Z μ H => by simp [VR]))) rfl
  | .str z => by
    intro c x W X h o
    unfold chkE at h
    split at h <;> first | cases h | skip
    rename_i y _ _
    simp only [Bool.and_eq_true, strC, sameS, beq_iff_eq, decide_eq_true_eq, List.all_eq_true] at h
    have e : y = toS z := by
      obtain ⟨y⟩ := y
      have h2 : z = y.toList := h.2
      subst h2
      simp [toS]
    subst e
    exact three (pe_imp L2.pe_str (t_con (a := .str z) (fun l s => rfl) (fun Z μ H => by
      simp only [VR]
      exact ⟨trivial, by simp only [big]; omega, h.1.2⟩))) rfl
  | .bin op fz a b => by
    intro c x W X h o
    unfold chkE at h
    split at h <;> first | cases h | skip
    simp only [Bool.and_eq_true, beq_iff_eq] at h
    obtain ⟨h0, h1, h2, h3⟩ := h
    subst h1
    exact three (pe_imp (L2.pe_op (binop_ok o h0) (snd a c _ W X h2 o).1 (snd b c _ W X h3 o).1) (t_two (f := binA op fz) fun l s => rfl)) rfl
  | .neg a => by
    intro c x W X h o
    unfold chkE at h
    split at h <;> first | cases h | skip
    rename_i x p
    have ih := snd a c x W X h o
    have pe : PE X (.UnaryOp .USub x p) (tE N Γ W (.neg a)) := pe_imp (L2.pe_un L2.un_neg ih.1) (t_one (f := kNeg) (t := fun v H Q => L2.rU (fun i => .int (-i)) v H Q) (fun l s => rfl) fun a s v Z μ H σ Q S r G => by
      cases a with
      | int i =>
        simp only [VR] at r
        exact ⟨i, r, Good.here (a := A.int (-i)) G S (by simp [VR])⟩
      | _ => exact False.elim G)
    refine ⟨pe, fun _ => L2.pt_val pe (by intro _; rfl), ?_⟩
    rintro op vs p q
    cases q
  | .not a => by
    intro c x W X h o
    unfold chkE at h
    split at h <;> first | cases h | skip
    simp only [Bool.and_eq_true] at h
    have ih := snd a c _ W X h.2 o
    refine ⟨pe_imp (L2.pe_not ih.1) t_not, fun _ => pt_imp (L2.pt_not (ih.2.1 h.1)) t_notT, ?_⟩
    rintro op vs p q
    cases q
  | .and a b => by
    intro c x W X h o
    unfold chkE at h
    split at h <;> first | cases h | skip
    rename_i x y r p
    simp only [Bool.and_eq_true] at h
    obtain ⟨n1, n2, h1, h2⟩ := h
    have ia := snd a c x W X h1 o
    cases r with
    | nil =>
      have ib := snd b c y W X h2 o
      have pw := pw_imp (L2.pw_and (pos := p) (ia.2.1 n1) (L2.pw_and1 (ib.2.1 n2))) (t_andT (N := N) (Γ := Γ) (W := W))
      refine ⟨pe_imp (L2.pe_and ia.1 (L2.pe_one ib.1)) t_and, fun _ => pw.pt, ?_⟩
      rintro op vs p' q
      cases q
      exact pw
    | cons z r =>
      have ib := snd b c _ W X h2 o
      have pw := pw_imp (L2.pw_and (pos := p) (ia.2.1 n1) (ib.2.2 _ _ _ rfl)) (t_andT (N := N) (Γ := Γ) (W := W))
      refine ⟨pe_imp (L2.pe_and ia.1 ib.1) t_and, fun _ => pw.pt, ?_⟩
      rintro op vs p' q
      cases q
      exact pw
  | .or a b => by
    intro c x W X h o
    unfold chkE at h
    split at h <;> first | cases h | skip
    rename_i x y r p
    simp only [Bool.and_eq_true] at h
    obtain ⟨n1, n2, h1, h2⟩ := h
    have ia := snd a c x W X h1 o
    cases r with
    | nil =>
      have ib := snd b c y W X h2 o
      have pw := pw_imp (L2.pw_or (pos := p) (ia.2.1 n1) (L2.pw_or1 (ib.2.1 n2))) (t_orT (N := N) (Γ := Γ) (W := W))
      refine ⟨pe_imp (L2.pe_or ia.1 (L2.pe_one ib.1)) t_or, fun _ => pw.pt, ?_⟩
      rintro op vs p' q
      cases q
      exact pw
    | cons z r =>
      have ib := snd b c _ W X h2 o
      have pw := pw_imp (L2.pw_or (pos := p) (ia.2.1 n1) (ib.2.2 _ _ _ rfl)) (t_orT (N := N) (Γ := Γ) (W := W))
      refine ⟨pe_imp (L2.pe_or ia.1 ib.1) t_or, fun _ => pw.pt, ?_⟩
      rintro op vs p' q
      cases q
      exact pw
  | .cmp op a b => by
    intro c x W X h o
    unfold chkE at h
    split at h <;> first | cases h | skip
    rename_i x op' y p
    simp only [Bool.and_eq_true, beq_iff_eq] at h
    obtain ⟨h0, h1, h2, h3⟩ := h
    subst h1
    have ia := (snd a c x W X h2 o).1
    have ib := (snd b c y W X h3 o).1
    have two := t_two (N := N) (Γ := Γ) (W := W) (e := .cmp op a b) (a := a) (b := b) (f := cmpA op) fun l s => rfl
    refine ⟨pe_imp (L2.pe_cmpR (cmpop_ok o h0) ia ib (cmp_mark _ h3)) two, fun _ => pt_imp (L2.pt_cmpR (cmpop_ok o h0) ia ib (cmp_mark _ h3)) fun σ H Q q => two σ H _ q, ?_⟩
    rintro op vs p q
    cases q
  | .isN a => by
    intro c x W X h o
    unfold chkE at h
    split at h <;> first | cases h | skip
    rename_i x j q p
    have ia := (snd a c x W X h o).1
    have key : ∀ σ H Q, tE N Γ W (.isN a) σ H Q → tOp L2.rIsN (tE N Γ W a) (L2.tC .non) σ H Q := fun σ H Q q => t_one (f := kIsN) (t := fun v H Q => L2.rIsN v .non H Q) (fun l s => rfl) (fun a s v Z μ H σ Q S r G => ⟨rfl, by
      have e : decide (v = V.non) = isNonA a := by
        cases a <;> first | (simp only [VR] at r; simp [r, isNonA]; done) | (simp only [VR] at r; obtain ⟨rfl, _⟩ := r; simp [isNonA]; done) | skip
        · simp only [VR] at r; obtain ⟨p, vs, rfl, _⟩ := r; simp [isNonA]
        · simp only [VR] at r; obtain ⟨p, vs, rfl, _⟩ := r; simp [isNonA]
        · rename_i t ks; cases t <;> (simp only [VR] at r; obtain ⟨p, vs, rfl, _⟩ := r; simp [isNonA])
        · simp only [VR] at r; obtain ⟨p, vs, rfl, _⟩ := r; simp [isNonA]
        · simp only [VR] at r; obtain ⟨p, rfl, _⟩ := r; simp [isNonA]
        · simp only [VR] at r; obtain ⟨p, rfl, _⟩ := r; simp [isNonA]
      rw [e]
      exact Good.here (a := A.bl (isNonA a)) G S (by simp [VR])⟩) σ H Q q
    refine ⟨pe_imp (pe_is L2.op_isN1 ia) key, fun _ => pt_imp (L2.pt_cmpR L2.op_isN1 ia L2.pe_non rfl) fun σ H Q q => key σ H _ q, ?_⟩
    rintro op vs p q
    cases q
  | .notN a => by
    intro c x W X h o
    unfold chkE at h
    split at h <;> first | cases h | skip
    rename_i x j q p
    have ia := (snd a c x W X h o).1
    have key : ∀ σ H Q, tE N Γ W (.notN a) σ H Q → tOp L2.rNotN (tE N Γ W a) (L2.tC .non) σ H Q := fun σ H Q q => t_one (f := kNotN) (t := fun v H Q => L2.rNotN v .non H Q) (fun l s => rfl) (fun a s v Z μ H σ Q S r G => ⟨rfl, by
      have e : decide (v = V.non) = isNonA a := by
        cases a <;> first | (simp only [VR] at r; simp [r, isNonA]; done) | (simp only [VR] at r; obtain ⟨rfl, _⟩ := r; simp [isNonA]; done) | skip
        · simp only [VR] at r; obtain ⟨p, vs, rfl, _⟩ := r; simp [isNonA]
        · simp only [VR] at r; obtain ⟨p, vs, rfl, _⟩ := r; simp [isNonA]
        · rename_i t ks; cases t <;> (simp only [VR] at r; obtain ⟨p, vs, rfl, _⟩ := r; simp [isNonA])
        · simp only [VR] at r; obtain ⟨p, vs, rfl, _⟩ := r; simp [isNonA]
        · simp only [VR] at r; obtain ⟨p, rfl, _⟩ := r; simp [isNonA]
        · simp only [VR] at r; obtain ⟨p, rfl, _⟩ := r; simp [isNonA]
      rw [e]
      exact Good.here (a := A.bl (!isNonA a)) G S (by simp [VR])⟩) σ H Q q
    refine ⟨pe_imp (pe_is L2.op_notN1 ia) key, fun _ => pt_imp (L2.pt_cmpR L2.op_notN1 ia L2.pe_non rfl) fun σ H Q q => key σ H _ q, ?_⟩
    rintro op vs p q
    cases q
  | .ite t a b => by
    intro c x W X h o
    unfold chkE at h
    split at h <;> first | cases h | skip
    rename_i w x y p
    simp only [Bool.and_eq_true] at h
    obtain ⟨⟨h0, h1⟩, h2, h3⟩ := h
    refine ⟨pe_imp (L2.pe_ifExp ((snd t c w W X h1 o).2.1 h0) (snd a c x W X h2 o).1 (snd b c y W X h3 o).1) t_ite, fun q => (by cases q), ?_⟩
    rintro op vs p q
    cases q
  | .tup es => by
    intro c x W X h o
    unfold chkE at h
    split at h <;> first | cases h | skip
    simp only [Bool.and_eq_true, decide_eq_true_eq] at h
    exact three (pe_imp (L2.pe_tup (sndEs es c _ W X h.2 o)) (t_tup h.1)) rfl
  | .lst fz es => by
    intro c x W X h o
    unfold chkE at h
    split at h <;> first | cases h | skip
    simp only [Bool.and_eq_true, decide_eq_true_eq] at h
    exact three (pe_imp (L2.pe_lst (sndEs es c _ W X h.2 o)) (t_lst h.1)) rfl
  | .idx a i => by
    intro c x W X h o
    unfold chkE at h
    split at h <;> first | cases h | skip
    simp only [Bool.and_eq_true] at h
    exact three (pe_imp (L2.pe_ix (x_idx o.K (by have := o.un; omega)) (snd a c _ W X h.2.1 o).1 (snd i c _ W X h.2.2 o).1 (plainIx h.1)) (t_two (f := idxA) fun l s => rfl)) rfl
  | .call f es => by
    intro c x W X h o
    unfold chkE at h
    split at h <;> first | cases h | skip
    rename_i x p xs q
    simp only [Bool.and_eq_true, beq_iff_eq, Bool.not_eq_true'] at h
    obtain ⟨hh, h1, h2, h3⟩ := h
    have oroom := o.room hh
    obtain ⟨a, fd, ps, m, _, kp, F, B⟩ := o.fns f x h1
    obtain ⟨g1, g2⟩ := o.glo h2
    have ih := sndEs es c xs W X h3 o
    obtain ⟨s1, s2, s3⟩ := nst_all (Γ' := X.env) h3
    cases es with
    | nil =>
      cases xs with
      | nil => exact three (pe_imp (pe_callS0 F (oroom.mono (Nat.le_succ k)) g1 m kp B o.pass g2) fun σ H Q q => t_nil σ H _ (t_call σ H Q q)) rfl
      | cons y ys => cases s3
    | cons e es =>
      cases xs with
      | nil => cases s3
      | cons y ys =>
        have hy : nst y = true := by unfold chkEs at h3; simp only [Bool.and_eq_true] at h3; exact h3.1
        have hb : ∀ pos, (backTo pos (starEach ys X.env)).any (·.1) = false := by
          unfold chkEs at h3
          simp only [Bool.and_eq_true] at h3
          exact (nst_all (Γ' := X.env) h3.2.2).1
        exact three (pe_imp (L2.pe_callS F (oroom.mono (Nat.le_succ k)) g1 m kp B o.pass ih g2 (star_ok hy) (hb q)) t_call) rfl
  | .make kk es => by
    intro c x W X h o
    unfold chkE at h
    split at h <;> first | cases h | skip
    rename_i x p xs q
    simp only [Bool.and_eq_true, beq_iff_eq, Bool.not_eq_true'] at h
    obtain ⟨hh, h1, h2, h3⟩ := h
    have oroom := o.room hh
    obtain ⟨g1, g2⟩ := o.glo h2
    have ih := sndEs es c xs W X h3 o
    obtain ⟨s1, s2, s3⟩ := nst_all (Γ' := X.env) h3
    obtain ⟨f, C, a, fd, ps, hi, m, cv, M, cl, F, B⟩ := o.mks kk x h1
    cases es with
    | nil =>
      cases xs with
      | nil => exact three (pe_imp (pe_mkS0 M F oroom g1 m B o.pass g2) fun σ H Q q => t_nil σ H _ (t_make hi cv cl σ H Q q)) rfl
      | cons y ys => cases s3
    | cons e es =>
      cases xs with
      | nil => cases s3
      | cons y ys =>
        have hy : nst y = true := by unfold chkEs at h3; simp only [Bool.and_eq_true] at h3; exact h3.1
        have hb : ∀ pos, (backTo pos (starEach ys X.env)).any (·.1) = false := by
          unfold chkEs at h3
          simp only [Bool.and_eq_true] at h3
          exact (nst_all (Γ' := X.env) h3.2.2).1
        exact three (pe_imp (pe_mkS M F oroom g1 m B o.pass ih g2 (star_ok hy) (hb q)) (t_make hi cv cl)) rfl
  | .meth m ob es => by
    intro c x W X h o
    unfold chkE at h
    split at h <;> first | cases h | skip
    rename_i x n ap xs q
    simp only [Bool.and_eq_true, Bool.not_eq_true'] at h
    obtain ⟨hh, hl, hn, h0, h1, h2, h3⟩ := h
    have oroom := o.room hh
    replace hn := of_decide_eq_true hn
    obtain rfl := ofS_eq h1
    have io := (snd ob c x W X h2 o).1
    have ih := sndEs es c xs W X h3 o
    obtain ⟨s1, s2, s3⟩ := nst_all (Γ' := X.env) h3
    cases es with
    | nil =>
      cases xs with
      | nil => exact three (pe_imp (pe_meS0 (pl := do return (← importBound x X.env).getD true) io (oroom.mono (Nat.le_succ k)) o.pass (meth_eval h0 hl (s2 q) (by simp))) fun σ H Q q => t_mono (t_meth (k := k) o.K o.mts σ H Q q) fun v H' ⟨a, C, dx, fs, f, fd, ps, sp, e1, e2, e3, e4, e5, e6, e7, e8⟩ => ⟨a, C, dx, fs, f, fd, ps, sp, e1, e2, e3, e4, e5, e6, e7, t_nil σ H' _ e8⟩) rfl
      | cons y ys => cases s3
    | cons e es =>
      cases xs with
      | nil => cases s3
      | cons y ys =>
        have hy : nst y = true := by unfold chkEs at h3; simp only [Bool.and_eq_true] at h3; exact h3.1
        have hb : ∀ pos, (backTo pos (starEach ys X.env)).any (·.1) = false := by
          unfold chkEs at h3
          simp only [Bool.and_eq_true] at h3
          exact (nst_all (Γ' := X.env) h3.2.2).1
        exact three (pe_imp (pe_meS (pl := do return (← importBound x X.env).getD true) io (oroom.mono (Nat.le_succ k)) o.pass ih (star_ok hy) (hb q) (meth_eval h0 hl (s2 q) (by rw [s3]; exact hn))) (t_meth (k := k) o.K o.mts)) rfl
  | .bc f fz es => by
    intro c x W X h o
    unfold chkE at h
    split at h <;> first | cases h | skip
    rename_i x p xs q
    simp only [Bool.and_eq_true, decide_eq_true_eq, Bool.not_eq_true'] at h
    obtain ⟨hh, h1, h2, h3, h4⟩ := h
    obtain ⟨g1, g2⟩ := o.glo h2
    have ih := sndEs es c xs W X h4 o
    obtain ⟨s1, s2, s3⟩ := nst_all (Γ' := X.env) h4
    cases hn : f.nm with
    | none => rw [hn] at h1; cases h1
    | some n =>
      rw [hn] at h1
      obtain rfl := ofS_eq (show (x == Str.ofString n) = true from h1)
      obtain ⟨b1, b2⟩ := bc_nm hn
      have hne : es ≠ [] := by
        rintro rfl
        cases f <;> cases h3
      cases es with
      | nil => exact absurd rfl hne
      | cons e es =>
        cases xs with
        | nil => cases s3
        | cons y ys =>
          have hy : nst y = true := by unfold chkEs at h4; simp only [Bool.and_eq_true] at h4; exact h4.1
          have hb : ∀ pos, (backTo pos (starEach ys X.env)).any (·.1) = false := by
            unfold chkEs at h4
            simp only [Bool.and_eq_true] at h4
            exact (nst_all (Γ' := X.env) h4.2.2).1
          rcases bc_ok (fz := fz) o hh hn with ⟨id, e1, e2⟩ | ⟨id, e1, e2⟩
          · exact three (pe_imp (L2.pe_callB e2 g1 (o.blt n b1) e1 ih b2 g2 (star_ok hy) (hb q)) (t_args (f := bcA f fz) fun l s => rfl)) rfl
          · exact three (pe_imp (L2.pe_callTy e2 g1 (o.blt n b1) e1 ih b2 g2 (star_ok hy) (hb q)) (t_args (f := bcA f fz) fun l s => rfl)) rfl
  | .bm m fz ob es => by
    intro c x W X h o
    unfold chkE at h
    split at h <;> first | cases h | skip
    rename_i x n ap xs q
    simp only [Bool.and_eq_true] at h
    obtain ⟨h0, h1, h2, h3, h4⟩ := h
    have io := (snd ob c x W X h3 o).1
    have ih := sndEs es c xs W X h4 o
    obtain ⟨s1, s2, s3⟩ := nst_all (Γ' := X.env) h4
    cases m <;> first | cases h0 | skip
    · obtain ⟨h5, h6⟩ := Bool.and_eq_true_iff.mp (show (n == Str.ofString "append" && decide (es.length = 1)) = true from h0)
      obtain rfl := ofS_eq h5
      match es, xs, of_decide_eq_true h6, s3, h4, ih with
      | [e], [y], _, _, h4, ih =>
        have hy : nst y = true := by unfold chkEs at h4; simp only [Bool.and_eq_true] at h4; exact h4.1
        exact three (pe_imp (t_pe (L2.pe_bm (r := rMt N .append fz) PySem.F.plainAttrs_list PySem.F.slot_list_append PySem.F.type_list_append (mt_ref (N := N) (fun x as s => by cases as <;> rfl) (fun ob as s => by cases as <;> rfl) (m_append)) io ih (nocall_ab h1) (by rw [star_ok hy]; rfl) h2 (star_ok hy) rfl) (by rw [o.K])) (t_bm (T := "list") fun S r hb => kd_list rfl S r hb)) rfl
    · obtain ⟨h5, h6⟩ := Bool.and_eq_true_iff.mp (show (n == Str.ofString "clear" && decide (es.length = 0)) = true from h0)
      obtain rfl := ofS_eq h5
      match es, xs, of_decide_eq_true h6, s3, h4, ih with
      | [], [], _, _, h4, ih =>
        exact three (pe_imp (t_pe (L2.pe_bm0 (r := rMt N .clear fz) PySem.F.plainAttrs_dict PySem.F.slot_dict_clear PySem.F.type_dict_clear (mt_ref (N := N) (by intro x as s; rcases as with _ | ⟨a, _ | ⟨b, _ | ⟨d, r⟩⟩⟩ <;> first | rfl | (cases a <;> rfl)) (by intro x as s; rcases as with _ | ⟨a, _ | ⟨b, _ | ⟨d, r⟩⟩⟩ <;> first | rfl | (cases a <;> rfl)) (m_clear)) io (nocall_ab h1) h2) (by rw [o.K])) (t_bm0 (T := "dict") fun S r hb => kd_mut rfl S r hb)) rfl
    · obtain ⟨h5, h6⟩ := Bool.and_eq_true_iff.mp (show (n == Str.ofString "extend" && decide (es.length = 1)) = true from h0)
      obtain rfl := ofS_eq h5
      match es, xs, of_decide_eq_true h6, s3, h4, ih with
      | [e], [y], _, _, h4, ih =>
        have hy : nst y = true := by unfold chkEs at h4; simp only [Bool.and_eq_true] at h4; exact h4.1
        exact three (pe_imp (t_pe (L2.pe_bm (r := rMt N .extend fz) PySem.F.plainAttrs_list PySem.F.slot_list_extend PySem.F.type_list_extend (mt_ref (N := N) (by intro x as s; rcases as with _ | ⟨a, _ | ⟨b, _ | ⟨d, r⟩⟩⟩ <;> first | rfl | (cases a <;> rfl)) (by intro x as s; rcases as with _ | ⟨a, _ | ⟨b, _ | ⟨d, r⟩⟩⟩ <;> first | rfl | (cases a <;> rfl)) (m_extend o.K)) io ih (nocall_ab h1) (by rw [star_ok hy]; rfl) h2 (star_ok hy) rfl) (by rw [o.K])) (t_bm (T := "list") fun S r hb => kd_list rfl S r hb)) rfl
    · obtain ⟨h5, h6⟩ := Bool.and_eq_true_iff.mp (show (n == Str.ofString "get" && decide (es.length = 2)) = true from h0)
      obtain rfl := ofS_eq h5
      match es, xs, of_decide_eq_true h6, s3, h4, ih with
      | [e, f], [y, z], _, _, h4, ih =>
        have hy : nst y = true ∧ nst z = true ∧ chkE e c y = true ∧ chkE f c z = true := by
          unfold chkEs at h4
          simp only [Bool.and_eq_true] at h4
          obtain ⟨k1, k2, k3⟩ := h4
          unfold chkEs at k3
          simp only [Bool.and_eq_true] at k3
          exact ⟨k1, k3.1, k2, k3.2.1⟩
        obtain ⟨k1, k2, k3, k4⟩ := hy
        have st : ∀ pos, backTo pos (starEach [y, z] X.env) = [(false, eval y X.env), (false, eval z X.env)] := fun pos => by rw [star_ok k1, star_ok k2]; rfl
        exact three (pe_imp (L2.pe_dget2 (by have := o.un; omega) io (snd e c y W X k3 o).1 (snd f c z W X k4 o).1 ⟨nocall_ab h1, by rw [st]; rfl, h2, st q⟩) t_get) rfl
    · obtain ⟨h5, h6⟩ := Bool.and_eq_true_iff.mp (show (n == Str.ofString "insert" && decide (es.length = 2)) = true from h0)
      obtain rfl := ofS_eq h5
      match es, xs, of_decide_eq_true h6, s3, h4, ih with
      | [e, f], [y, z], _, _, h4, ih =>
        have hy : nst y = true ∧ nst z = true := by
          unfold chkEs at h4
          simp only [Bool.and_eq_true] at h4
          obtain ⟨k1, k2, k3⟩ := h4
          unfold chkEs at k3
          simp only [Bool.and_eq_true] at k3
          exact ⟨k1, k3.1⟩
        obtain ⟨k1, k2⟩ := hy
        exact three (pe_imp (t_pe (L2.pe_bm (r := rMt N .insert fz) PySem.F.plainAttrs_list PySem.F.slot_list_insert PySem.F.type_list_insert (mt_ref (N := N) (by intro x as s; rcases as with _ | ⟨a, _ | ⟨b, _ | ⟨d, r⟩⟩⟩ <;> first | rfl | (cases a <;> rfl)) (by intro x as s; rcases as with _ | ⟨a, _ | ⟨b, _ | ⟨d, r⟩⟩⟩ <;> first | rfl | (cases a <;> rfl)) (m_insert)) io ih (nocall_ab h1) (by rw [star_ok k1, star_ok k2]; rfl) h2 (star_ok k1) (by rw [star_ok k2]; rfl)) (by rw [o.K])) (t_bm (T := "list") fun S r hb => kd_list rfl S r hb)) rfl
    · obtain ⟨h5, h6⟩ := Bool.and_eq_true_iff.mp (show (n == Str.ofString "index" && decide (es.length = 1)) = true from h0)
      obtain rfl := ofS_eq h5
      match es, xs, of_decide_eq_true h6, s3, h4, ih with
      | [e], [y], _, _, h4, ih =>
        have hy : nst y = true := by unfold chkEs at h4; simp only [Bool.and_eq_true] at h4; exact h4.1
        exact three (pe_imp (t_pe (L2.pe_bm (r := rMt N .lindex fz) PySem.F.plainAttrs_list PySem.F.slot_list_index PySem.F.type_list_index (m_lindex o.K (by have := o.un; omega)) io ih (nocall_ab h1) (by rw [star_ok hy]; rfl) h2 (star_ok hy) rfl) (by rw [o.K])) (t_bm (T := "list") fun S r hb => kd_list rfl S r hb)) rfl
    · obtain ⟨h5, h6⟩ := Bool.and_eq_true_iff.mp (show (n == Str.ofString "pop" && decide (es.length = 0)) = true from h0)
      obtain rfl := ofS_eq h5
      match es, xs, of_decide_eq_true h6, s3, h4, ih with
      | [], [], _, _, h4, ih =>
        exact three (pe_imp (t_pe (L2.pe_bm0 (r := rMt N .pop0 fz) PySem.F.plainAttrs_list PySem.F.slot_list_pop PySem.F.type_list_pop (mt_ref (N := N) (by intro x as s; rcases as with _ | ⟨a, _ | ⟨b, _ | ⟨d, r⟩⟩⟩ <;> first | rfl | (cases a <;> rfl)) (by intro x as s; rcases as with _ | ⟨a, _ | ⟨b, _ | ⟨d, r⟩⟩⟩ <;> first | rfl | (cases a <;> rfl)) (m_pop0)) io (nocall_ab h1) h2) (by rw [o.K])) (t_bm0 (T := "list") fun S r hb => kd_list rfl S r hb)) rfl
    · obtain ⟨h5, h6⟩ := Bool.and_eq_true_iff.mp (show (n == Str.ofString "pop" && decide (es.length = 1)) = true from h0)
      obtain rfl := ofS_eq h5
      match es, xs, of_decide_eq_true h6, s3, h4, ih with
      | [e], [y], _, _, h4, ih =>
        have hy : nst y = true := by unfold chkEs at h4; simp only [Bool.and_eq_true] at h4; exact h4.1
        exact three (pe_imp (t_pe (L2.pe_bm (r := rMt N .pop1 fz) PySem.F.plainAttrs_list PySem.F.slot_list_pop PySem.F.type_list_pop (mt_ref (N := N) (fun x as s => by cases as <;> rfl) (fun ob as s => by cases as <;> rfl) (m_pop1)) io ih (nocall_ab h1) (by rw [star_ok hy]; rfl) h2 (star_ok hy) rfl) (by rw [o.K])) (t_bm (T := "list") fun S r hb => kd_list rfl S r hb)) rfl
  | .attr ob f => by
    intro c x W X h o
    unfold chkE at h
    split at h <;> first | cases h | skip
    simp only [Bool.and_eq_true] at h
    obtain ⟨h0, h1, h2⟩ := h
    obtain rfl := ofS_eq h1
    have io := (snd ob c _ W X h2 o).1
    exact three (pe_imp (t_pe (L2.pe_fld io (nocall_ab h0)) (by rw [o.K])) t_attr) rfl
  | .isa a t => by
    intro c x W X h o
    unfold chkE at h
    split at h <;> first | cases h | skip
    rename_i x p y z p2 q
    simp only [Bool.and_eq_true] at h
    obtain ⟨h0, h1, h2, h3, h4, h5⟩ := h
    obtain rfl := ofS_eq h0
    obtain rfl := ofS_eq h1
    obtain ⟨g1, g2⟩ := o.glo h2
    obtain ⟨g3, g4⟩ := o.glo h3
    have ia := (snd a c y W X h5 o).1
    have tyb : ∀ t : Ty, t.nm ∈ bltL ∧ bootBuiltins (Str.ofString t.nm) = some (.type t.nm) ∧ Str.ofString t.nm ≠ "__name__" := by
      intro t
      cases t <;> exact ⟨by decide, by rfl, by decide⟩
    obtain ⟨b1, b2, b3⟩ := tyb t
    have pz : PE X (.Name (Str.ofString t.nm) p2) (L2.tC (.ty t.nm)) := L2.pe_bltn g3 (o.blt _ b1) b2 rfl b3 g4
    exact three (pe_imp (t_pe (L2.pe_callB (id := "isinstance") call_is2 g1 (o.blt "isinstance" (by decide)) (by rfl) (L2.pa_cons ia (L2.pa_cons pz L2.pa_nil rfl) (star_ok h4)) (by decide) g2 (star_ok h4) rfl) (by rw [o.K])) t_isa) rfl
  | .lcomp fz elt tg ik es cnd own => by
    intro c x W X h o
    unfold chkE at h
    split at h <;> first | cases h | skip
    rename_i xe t it ifs sc p
    simp only [Bool.and_eq_true, beq_iff_eq, List.all_eq_true, List.contains_iff_mem, Bool.not_eq_true'] at h
    obtain ⟨hh, ht, h0, h1, h2, h3, h4, h5, h6⟩ := h
    have hex : c.ex = none := o.noex hh
    have fr : ∀ i ∈ own, N.free i := fun i _ x hx => by rw [o.cool hh] at hx; cases hx
    have h8 : ik ≠ .keys := chkI_nk h4
    have ok : L2.BlkOk X.N X.env.scope sc (ownL c own) := L2.blkOk_by (by rw [o.ns, o.sc ht]; exact h0)
    have hi := sndI es ik c it W X t h4 o
    have pe := L2.pe_lc (pos := p) (g := gT N tg) (tt := tC N Γ WF cnd) (te := tE N Γ WF elt) (o.calm hh) o.nd hi.1 ok
      (fun s H C cl fp => chkT_ok (o.blk hex s H C cl fp) h3) (fun s H C cl fp => sndC cnd _ ifs WF _ h5 (o.blk hex s H C cl fp)) (fun s H C cl fp => (snd elt _ xe WF _ h6 (o.blk hex s H C cl fp)).1) (fold_ok hi.2)
    rw [h1] at pe
    exact three (pe_imp pe (t_lc fr h8 (by intro i hi; exact h2 i (by cases tg <;> exact hi)))) rfl
  | .glb g => by
    intro c x W X h o
    unfold chkE at h
    split at h <;> first | cases h | skip
    rename_i x p
    simp only [Bool.and_eq_true, beq_iff_eq] at h
    obtain ⟨g1, g2⟩ := o.glo h.2
    obtain ⟨a, v, u, q1, q2, q3, q4⟩ := o.gls g x h.1
    exact three (pe_imp (L2.pe_glob g1 q2 q3 g2) (t_con (a := a) (fun l s => by show kOpt (Γ.glb g) s = _; rw [q1]; rfl) q4)) rfl
  | .fun_ f => by
    intro c x W X h o
    unfold chkE at h
    split at h <;> first | cases h | skip
    rename_i x p
    simp only [Bool.and_eq_true, beq_iff_eq] at h
    obtain ⟨g1, g2⟩ := o.glo h.2
    obtain ⟨a, fd, ps, m, fa, kp, F, B⟩ := o.fns f x h.1
    exact three (pe_imp (L2.pe_glob (v := .ref a) g1 m rfl g2) (t_con (a := .fn f) (fun l s => rfl) (fun Z μ H => by simp only [VR]; exact ⟨a, rfl, fa⟩))) rfl
  | .chain o1 o2 a b d => by
    intro c x W X h o
    unfold chkE at h
    split at h <;> first | cases h | skip
    rename_i x p q y z pos
    simp only [Bool.and_eq_true, beq_iff_eq] at h
    obtain ⟨h0, h1, h2, h3, h4, h5⟩ := h
    subst h1
    subst h2
    have ia := (snd a c x W X h3 o).1
    have ib := (snd b c y W X h4 o).1
    have ic := (snd d c z W X h5 o).1
    have hm : lastMarks [o1.ast, o2.ast] [y, z] = false := cmp_mark (c := c) _ h5
    refine ⟨pe_imp (L2.pe_chain (cmpop_ok o rfl) (cmpop_ok o rfl) ia ib ic hm) (t_chain (cmp_bl o1)), fun _ => pt_imp (L2.pt_chain (cmpop_ok o rfl) (cmpop_ok o rfl) ia ib ic hm) fun σ H Q q => t_chain (cmp_bl o1) σ H _ q, ?_⟩
    rintro op vs p q
    cases q
  | .dct fz t es => by
    intro c x W X h o
    unfold chkE at h
    split at h <;> first | cases h | skip
    rename_i ks vs p
    rcases Bool.or_eq_true_iff.mp h with h | h
    · simp only [Bool.and_eq_true, List.isEmpty_iff] at h
      obtain ⟨rfl, rfl, rfl⟩ := h
      cases t with
      | false => exact three (pe_imp L2.pe_dnewK t_dct0) rfl
      | true => exact three (pe_imp L2.pe_dnewT t_dct0T) rfl
    · simp only [Bool.and_eq_true, Bool.not_eq_true', decide_eq_true_eq] at h
      obtain ⟨rfl, h1, h2, h3, h4⟩ := h
      obtain ⟨k1, k2, k3, k4⟩ := sndPs es.length es (Nat.le_refl _) c ks vs W X h4 o
      have hne : es ≠ [] := by rintro rfl; cases h3
      have hl : es.length ≠ 0 := fun z => hne (List.length_eq_zero_iff.mp z)
      exact three (pe_imp (L2.pe_disp k1 k2 k3 (by rintro rfl; exact hne (by simpa using k4)) (by omega)) (t_dct h1 h2)) rfl
  | .cut fz a lo hi => by
    intro c x W X h o
    unfold chkE at h
    split at h <;> first | cases h | skip
    simp only [Bool.and_eq_true] at h
    exact three (pe_imp (L2.pe_slice (x_cut (fz := fz) o.K) (snd a c _ W X h.1 o).1 (sndO lo c _ W X h.2.1 o) (sndO hi c _ W X h.2.2 o)) t_cut) rfl
  | .rev fz a => by
    intro c x W X h o
    unfold chkE at h
    split at h <;> first | cases h | skip
    exact three (pe_imp (t_pe (L2.pe_revL (snd a c _ W X h o).1) (by rw [o.K])) t_revL) rfl
  | .callv _ _ => by intro c x W X h o; cases h
  | .dcomp _ _ _ _ _ _ _ _ _ => by intro c x W X h o; cases h
  | .xattr i f => by
    intro c x W X h o
    unfold chkE at h
    split at h <;> first | cases h | skip
    rename_i y p n q
    simp only [Bool.and_eq_true, beq_iff_eq] at h
    obtain ⟨h0, h1, h2, h3⟩ := h
    subst h1
    obtain ⟨v1, v2, v3⟩ := o.vis h3
    obtain ⟨Xb, oe, pn, xi, e1, e2, e3, e4, e5, e6⟩ := (o.hotx i h0).ex
    have pv : PE X (.Name y p) (L2.tVar i) := L2.pe_var (i := i) (by rw [o.ns]; exact h2) v1 v2 v3
    refine three ⟨fun pins s σ H Q I hq => ?_⟩ rfl
    obtain ⟨l, st, Z, μ, S, L, G⟩ := hq
    have xf := L.xf
    unfold XF at xf
    rw [e1] at xf
    obtain ⟨⟨⟨x1, x2⟩, x3⟩, x4⟩ := xf
    obtain ⟨x5, _⟩ := x4 i e2
    have hk : Γ.xat xi.e.c f = true := by
      cases hb : Γ.xat xi.e.c f with
      | true => rfl
      | false =>
        have : evE Γ (.xattr i f) l st = kXat i f Γ.xat (some (i, xi.e)) st := by show kXat i f Γ.xat Γ.exn st = _; rw [e6]
        rw [this] at G
        simp only [kXat, hb, Bool.false_eq_true, and_false, if_false] at G
        exact False.elim G
    have ha := o.xok.xat _ _ hk
    rw [ha] at x3
    obtain ⟨a, as, dd, fs, v, y1, y2, y3, _, _, y4, y5⟩ := x3
    obtain ⟨C, ec, _⟩ := o.xok.exc _ _ x2 x1
    rw [ec] at x1
    obtain ⟨f1, f2⟩ := o.xok.fld _ C f x2 x1 ha
    have hG : evE Γ (.xattr i f) l st = .ok a st := by
      show kXat i f Γ.xat Γ.exn st = _
      rw [e6]
      simp only [kXat, hk, and_self, if_true, y1, List.head?_cons]
      rfl
    rw [hG] at G
    have q := Good.here (a := a) G S y5
    subst e3
    refine (L2.pe_xf (X := Xb) (pn := pn) (by rw [show Xb.K = N.K from o.K]; exact f1) (by rw [show Xb.K = N.K from o.K]; exact f2) e4 e5 pv rfl).run pins s σ H Q I ?_
    exact ⟨_, x5, rfl, ec, dd, fs, v, y2, y3, y4, q⟩
  | .xisa i kk => by
    intro c x W X h o
    unfold chkE at h
    split at h <;> first | cases h | skip
    rename_i x p y p2 z p3 q
    simp only [Bool.and_eq_true, beq_iff_eq] at h
    obtain ⟨h0, rfl, h2, h3, h4, h5, h6⟩ := h
    obtain ⟨g1, g2⟩ := o.glo h2
    obtain ⟨g3, g4⟩ := o.glo h6
    obtain ⟨v1, v2, v3⟩ := o.vis h4
    obtain ⟨Xb, oe, pn, xi, e1, e2, e3, e4, e5, e6⟩ := (o.hotx i h0).ex
    have pv : PE X (.Name y p2) (L2.tVar i) := L2.pe_var (i := i) (by rw [o.ns]; exact h3) v1 v2 v3
    -- the class's name
    obtain ⟨cvv, vv, m1, m2, pz⟩ : ∃ (u : Value) (v : V), N.cv kk = some u ∧ (∀ w, RelV v w → w = u) ∧ PE X (.Name z p3) (L2.tC v) := by
      rcases o.xok.nam kk z h5 with ⟨C, m1, m2⟩ | ⟨rfl, m1⟩
      · exact ⟨_, .ref C, m1, fun w hw => hw, L2.pe_glob (v := .ref C) g3 m2 rfl g4⟩
      · exact ⟨_, .ty "ValueError", m1, fun w hw => hw, L2.pe_bltn g3 (o.blt "ValueError" (by decide)) (by rfl) rfl (by decide) g4⟩
    refine three ⟨fun pins s σ H Q I hq => ?_⟩ rfl
    obtain ⟨l, st, Z, μ, S, L, G⟩ := hq
    have xf := L.xf
    unfold XF at xf
    rw [e1] at xf
    obtain ⟨⟨⟨x1, x2⟩, x3⟩, x4⟩ := xf
    obtain ⟨x5, _⟩ := x4 i e2
    obtain ⟨C, ec, xc⟩ := o.xok.exc _ _ x2 x1
    rw [ec] at x1
    have ik := o.xok.isx _ C kk cvv z x2 x1 h5 m1
    have hG : evE Γ (.xisa i kk) l st = .ok (.bl (Γ.sub xi.e.c kk)) st := by
      show kXisa i kk Γ.sub Γ.exn st = _
      rw [e6]
      simp only [kXisa, if_true]
    rw [hG] at G
    have q' := Good.here (a := A.bl (Γ.sub xi.e.c kk)) (b := V.bl (Γ.sub xi.e.c kk)) G S (by simp [VR])
    subst e3
    have xz : L2.Zc (.ref C) xi.d oe := by rw [← ec]; exact e4
    refine (L2.pe_callB (id := "isinstance") (call_isX (X := Xb) (pn := pn) (by rw [show Xb.K = N.K from o.K]; exact xc) xz e5) g1 (o.blt "isinstance" (by decide)) (by rfl) (L2.pa_cons pv (L2.pa_cons pz L2.pa_nil rfl) rfl) (by decide) g2 rfl rfl).run pins s σ H Q I ?_
    refine ⟨.ref xi.a, x5, ?_⟩
    refine ⟨vv, cvv, _, rfl, m2, by rw [show Xb.K = N.K from o.K]; exact ik, ?_, q'⟩
    intro dd hd
    rw [hd] at x3
    revert x3
    cases N.xa xi.e.c with
    | none => intro x3; cases x3
    | some f => rintro ⟨a, as, d2, fs, v, y1, y2, y3, _⟩; cases y2; exact ⟨fs, y3⟩
theorem sndEs : ∀ (es : List E) (c : Ck) (xs : List Expr) (W : WX) (X : Cx), chkEs es c xs = true → CokE N c Γ k W X → PA X xs (tEs N Γ W es)
  | [] => by
    intro c xs W X h o
    unfold chkEs at h
    cases xs with
    | nil => exact pa_imp L2.pa_nil t_nil
    | cons x xs => cases h
  | e :: es => by
    intro c xs W X h o
    unfold chkEs at h
    cases xs with
    | nil => cases h
    | cons x xs =>
      simp only [Bool.and_eq_true] at h
      exact pa_imp (L2.pa_cons (snd e c x W X h.2.1 o).1 (sndEs es c xs W X h.2.2 o) (star_ok h.1)) t_cons
theorem sndPs : ∀ (n : Nat) (es : List E), es.length ≤ n → ∀ (c : Ck) (ks : List (Option Expr)) (vs : List Expr) (W : WX) (X : Cx), chkPs es c ks vs = true → CokE N c Γ k W X →
    (∀ {pos : Pos}, L2.PPs X pos ks vs (trs N Γ W es)) ∧ ks.all (·.isSome) = true ∧ ks.length = vs.length ∧ es.length = 2 * ks.length
  | _, [], _ => by
    intro c ks vs W X h o
    unfold chkPs at h
    simp only [Bool.and_eq_true, List.isEmpty_iff] at h
    obtain ⟨rfl, rfl⟩ := h
    exact ⟨L2.pps_nil, rfl, rfl, rfl⟩
  | _, [_], _ => by intro c ks vs W X h o; unfold chkPs at h; cases h
  | 0, _ :: _ :: _, hn => by simp at hn
  | n + 1, e :: f :: r, hn => by
    intro c ks vs W X h o
    unfold chkPs at h
    split at h <;> first | cases h | skip
    rename_i k' ks v vs
    simp only [Bool.and_eq_true] at h
    obtain ⟨h1, h2, h3⟩ := h
    obtain ⟨q1, q2, q3, q4⟩ := sndPs n r (by simp at hn; omega) c ks vs W X h3 o
    refine ⟨fun {pos} => L2.pps_cons (snd e c k' W X h1 o).1 (snd f c v W X h2 o).1 q1, ?_, ?_, ?_⟩
    · simp [q2]
    · simp [q3]
    · simp [q4]; omega
theorem sndI : ∀ (es : List E) (ik : IK) (c : Ck) (x : Expr) (W : WX) (X : Cx) (tg : Expr), chkI es ik tg c x = true → CokE N c Γ k W X → PI X tg x (tI N Γ W ik es) ∧ notRange x = true
  | [] => by intro ik c x W X tg h o; unfold chkI at h; cases h
  | [e] => by
    intro ik c x W X tg h o
    unfold chkI at h
    cases ik <;> first | cases h | skip
    · simp only [Bool.and_eq_true] at h
      have ih := (snd e c x W X h.2 o).1
      refine ⟨pi_imp (pi_or (pi_imp (L2.pi_list ih) fun σ H R q => ?_) (pi_or (pi_imp (L2.pi_tup ih) fun σ H R q => ?_) (L2.pi_str ih))) t_iseq, h.1⟩
      · rw [o.K]; exact q
      · rw [o.K]; exact q
    · dsimp only at h
      split at h <;> first | cases h | skip
      rename_i x p y q
      simp only [Bool.and_eq_true] at h
      obtain ⟨h0, h1, h2, h3⟩ := h
      obtain rfl := ofS_eq h0
      obtain ⟨g1, g2⟩ := o.glo h1
      have ih := (snd e c y W X h3 o).1
      have pa : PA X [y] (tEs N Γ W [e]) := pa_imp (L2.pa_cons ih (pa_imp L2.pa_nil t_nil) (star_ok h2)) t_cons
      exact ⟨pi_imp (L2.pi_range1 g1 (o.blt "range" (by decide)) pa (star_ok h2)) t_rng1, rfl⟩
    · dsimp only at h
      split at h <;> first | cases h | skip
      rename_i x p w p2 y q q2
      simp only [Bool.and_eq_true] at h
      obtain ⟨h0, h00, h1, h11, h2, h3⟩ := h
      obtain rfl := ofS_eq h0
      obtain rfl := ofS_eq h00
      obtain ⟨g1, g2⟩ := o.glo h1
      obtain ⟨g3, g4⟩ := o.glo h11
      have ih := (snd e c y W X h3 o).1
      have pa : PA X [y] (tEs N Γ W [e]) := pa_imp (L2.pa_cons ih (pa_imp L2.pa_nil t_nil) (star_ok h2)) t_cons
      have pl := L2.pe_callB (pos := q) (p := p2) (id := "len") (call_lenB (X := X)) g3 (o.blt "len" (by decide)) (by rfl) pa (by decide) g4 (star_ok h2) rfl
      refine ⟨pi_imp (L2.pi_range1 g1 (o.blt "range" (by decide)) (L2.pa_cons pl L2.pa_nil rfl) rfl) fun σ H R q => ?_, rfl⟩
      rw [o.K]
      exact t_rlen σ H R q
    · dsimp only at h
      split at h <;> first | cases h | skip
      rename_i x p y q elts kk tp
      simp only [Bool.and_eq_true] at h
      obtain ⟨h0, h1, h2, h3⟩ := h
      obtain rfl := ofS_eq h0
      obtain ⟨g1, g2⟩ := o.glo h1
      have ih := (snd e c y W X h3 o).1
      have pa : PA X [y] (tEs N Γ W [e]) := pa_imp (L2.pa_cons ih (pa_imp L2.pa_nil t_nil) (star_ok h2)) t_cons
      refine ⟨pi_imp (L2.pi_enum g1 (o.blt "enumerate" (by decide)) pa (star_ok h2)) fun σ H R q => ?_, rfl⟩
      rw [o.K]
      exact t_enum σ H R q
    · dsimp only at h
      split at h <;> first | cases h | skip
      rename_i x p y q
      simp only [Bool.and_eq_true] at h
      obtain ⟨h0, h1, h2, h3⟩ := h
      obtain rfl := ofS_eq h0
      obtain ⟨g1, g2⟩ := o.glo h1
      have ih := (snd e c y W X h3 o).1
      have pa : PA X [y] (tEs N Γ W [e]) := pa_imp (L2.pa_cons ih (pa_imp L2.pa_nil t_nil) (star_ok h2)) t_cons
      refine ⟨pi_imp (L2.pi_reversed g1 (o.blt "reversed" (by decide)) pa (star_ok h2)) fun σ H R q => ?_, rfl⟩
      rw [o.K]
      exact t_rev σ H R q
  | [e, f] => by
    intro ik c x W X tg h o
    unfold chkI at h
    cases ik <;> first | cases h | skip
    · dsimp only at h
      split at h <;> first | cases h | skip
      rename_i x p y z q
      simp only [Bool.and_eq_true] at h
      obtain ⟨h0, h1, h2, h3, h4, h5⟩ := h
      obtain rfl := ofS_eq h0
      obtain ⟨g1, g2⟩ := o.glo h1
      have ie := (snd e c y W X h4 o).1
      have if_ := (snd f c z W X h5 o).1
      have pa : PA X [y, z] (tEs N Γ W [e, f]) := pa_imp (L2.pa_cons ie (pa_imp (L2.pa_cons if_ (pa_imp L2.pa_nil t_nil) (star_ok h3)) t_cons) (star_ok h2)) t_cons
      exact ⟨pi_imp (L2.pi_range2 g1 (o.blt "range" (by decide)) pa (by rw [star_ok h2, star_ok h3]; rfl) (star_ok h3)) t_rng2, rfl⟩
    · dsimp only at h
      split at h <;> first | cases h | skip
      rename_i x p y z q elts kk tp
      simp only [Bool.and_eq_true] at h
      obtain ⟨h0, h1, h2, h3, h4, h5⟩ := h
      obtain rfl := ofS_eq h0
      obtain ⟨g1, g2⟩ := o.glo h1
      have ie := (snd e c y W X h4 o).1
      have if_ := (snd f c z W X h5 o).1
      have pa : PA X [y, z] (tEs N Γ W [e, f]) := pa_imp (L2.pa_cons ie (pa_imp (L2.pa_cons if_ (pa_imp L2.pa_nil t_nil) (star_ok h3)) t_cons) (star_ok h2)) t_cons
      refine ⟨pi_imp (L2.pi_zip g1 (o.blt "zip" (by decide)) pa (star_ok h2) (by rw [star_ok h3]; rfl)) fun σ H R q => ?_, rfl⟩
      rw [o.K]
      exact t_zip σ H R q
  | [e, f, g] => by
    intro ik c x W X tg h o
    unfold chkI at h
    cases ik <;> first | cases h | skip
    · dsimp only at h
      split at h <;> first | cases h | skip
      rename_i x p y z w q
      simp only [Bool.and_eq_true] at h
      obtain ⟨h0, h1, h2, h3, h33, h4, h5, h55⟩ := h
      obtain rfl := ofS_eq h0
      obtain ⟨g1, g2⟩ := o.glo h1
      have ie := (snd e c y W X h4 o).1
      have if_ := (snd f c z W X h5 o).1
      have ig := (snd g c w W X h55 o).1
      have pa : PA X [y, z, w] (tEs N Γ W [e, f, g]) := pa_imp (L2.pa_cons ie (pa_imp (L2.pa_cons if_ (pa_imp (L2.pa_cons ig (pa_imp L2.pa_nil t_nil) (star_ok h33)) t_cons) (star_ok h3)) t_cons) (star_ok h2)) t_cons
      exact ⟨pi_imp (L2.pi_range3 g1 (o.blt "range" (by decide)) pa (star_ok h2) (by rw [star_ok h3, star_ok h33]; rfl)) t_rng3, rfl⟩
    · dsimp only at h
      split at h <;> first | cases h | skip
      rename_i x p y z w q elts kk tp
      simp only [Bool.and_eq_true] at h
      obtain ⟨h0, h1, h2, h3, h33, h4, h5, h55⟩ := h
      obtain rfl := ofS_eq h0
      obtain ⟨g1, g2⟩ := o.glo h1
      have ie := (snd e c y W X h4 o).1
      have if_ := (snd f c z W X h5 o).1
      have ig := (snd g c w W X h55 o).1
      have pa : PA X [y, z, w] (tEs N Γ W [e, f, g]) := pa_imp (L2.pa_cons ie (pa_imp (L2.pa_cons if_ (pa_imp (L2.pa_cons ig (pa_imp L2.pa_nil t_nil) (star_ok h33)) t_cons) (star_ok h3)) t_cons) (star_ok h2)) t_cons
      refine ⟨pi_imp (pi_zip3 g1 (o.blt "zip" (by decide)) pa (star_ok h2) (by rw [star_ok h3, star_ok h33]; rfl)) fun σ H R q => ?_, rfl⟩
      rw [o.K]
      exact t_zip3 σ H R q
  | _ :: _ :: _ :: _ :: _ => by intro ik c x W X tg h o; unfold chkI at h; cases h
theorem sndO : ∀ (e : Option E) (c : Ck) (x : Option Expr) (W : WX) (X : Cx), chkO e c x = true → CokE N c Γ k W X → L2.PO X x (tO N Γ W e)
  | none => by
    intro c x W X h o
    unfold chkO at h
    cases x with
    | none => exact po_imp L2.po_none t_ono
    | some x => cases h
  | some e => by
    intro c x W X h o
    unfold chkO at h
    cases x with
    | none => cases h
    | some x => exact po_imp (L2.po_some (snd e c x W X h o).1) t_oso
theorem sndC : ∀ (e : Option E) (c : Ck) (xs : List Expr) (W : WX) (X : Cx), chkC e c xs = true → CokE N c Γ k W X → PTs X xs (tC N Γ W e)
  | none => by
    intro c xs W X h o
    unfold chkC at h
    cases xs with
    | nil => exact L2.pts_nil
    | cons x xs => cases h
  | some e => by
    intro c xs W X h o
    unfold chkC at h
    split at h <;> first | cases h | skip
    simp only [Bool.and_eq_true] at h
    exact L2.pts_one ((snd e c _ W X h.2 o).2.1 h.1)
end
end
end Py

set_option autoImplicit false
set_option linter.all false
set_option Elab.async false
set_option maxRecDepth 100000
set_option maxHeartbeats 4000000
/-! PyS10: the checker of statements, and that it holds. -/
namespace Py
open PySem
open L2 (V Hp HO Rd SqL SqT Cx Inv PE PT PA PS PSs PG PGs PI TE TT TA TS TG TGs TI It Ends VK XK WX St Room upd upd_same upd_ne ne_of_none Key kV RelV Vals R2 OpR UnR CallR tOp Dp DpAll rI rI0 EP MtR IxR PSet PW Gl tB tAndV tOrV tNotV tAnd tOr tNot Takes FnOk Binds Sp PassesAt WE gName gNil gCons gTup gLst Itl Itt Itr PTs Vis)
def notComp : Expr → Bool
  | .ListComp .. => false
  | .SetComp .. => false
  | .DictComp .. => false
  | _ => true
def notTup : Expr → Bool
  | .Tuple .. => false
  | _ => true
/-- name = [..] on one line: the store is made within -/
def swp (c : Ck) (y : Str) (py : Pos) : Expr → Bool
  | .ListComp _ _ sc pos => c.sc.names.lookup y == some .local && ((py.line == pos.line) && !(sc.names.any fun (n, k) => n == y && (k == .local || k == .cell)))
  | _ => false
def S.isKil : S → Bool
  | .kil _ => true
  | _ => false
def starq : Expr → Bool
  | .Starred .. => true
  | _ => false
theorem star_no : ∀ {a : Expr}, nst a = true → starq a = false := by intro a h; cases a <;> first | rfl | cases h
/-- a, b, c = x, y, z: the stores are made at once -/
def parB (ts vs : List Expr) : Bool := !(vs.all (foldedForSure 8)) && (!(vs.all (constantsAlone 8)) && (match ts with
  | [.Name x p, .Name y q] => decide (p.line = q.line) && decide (x ≠ y)
  | [.Name x p, .Name y q, .Name z r] => decide (p.line = q.line) && (decide (p.line = r.line) && (decide (x ≠ y) && (decide (x ≠ z) && decide (y ≠ z))))
  | _ => false))
mutual
def chkS : S → Ck → Stmt → Bool
  | .asg (.nm i) e => fun c st => match st with
    | .Assign [.Name y py] x _ => (!(c.ex == some i) && (c.ns[i]? == some y && (c.sc.names.lookup y == some .local || c.sc.names.lookup y == some .cell))) && (chkE e c x && ((notComp x || (swp c y py x && c.top)) || (!(swp c y py x) && c.top)))
    | _ => false
  | .asg (.tp is) e => fun c st => match st with
    | .Assign [.Tuple ts kk p] x _ => notTup x && (chkT c (.tp is) (.Tuple ts kk p) && chkE e c x)
    | _ => false
  | .sub o i e => fun c st => match st with
    | .Assign [.Subscript x y _] z _ => notSl y && (chkE o c x && (chkE i c y && chkE e c z))
    | _ => false
  | .fld o f e => fun c st => match st with
    | .Assign [.Attribute x n _] z _ => n == Str.ofString f && (c.flds.contains f && (chkE o c x && chkE e c z))
    | _ => false
  | .ex e => fun c st => match st with
    | .Expr x _ => notComp x && chkE e c x
    | _ => false
  | .iff e a b => fun c st => match st with
    | .If x xs ys _ => notIf x && (chkE e c x && (chkSs a c xs && chkSs b c ys))
    | _ => false
  | .whl e b _ => fun c st => match st with
    | .While x xs [] _ => !c.hot && (notIf x && (chkE e c x && chkSs b c xs))
    | _ => false
  | .forr t k es b _ => fun c st => match st with
    | .For tx it xs [] _ => !c.hot && (chkT c t tx && (chkI es k tx c it && chkSs b c xs))
    | _ => false
  | .ret e => fun c st => match st with
    | .Return (some x) _ => chkE e c x
    | _ => false
  | .retN => fun _ st => match st with
    | .Return none _ => true
    | _ => false
  | .brk => fun _ st => match st with
    | .Break _ => true
    | _ => false
  | .cnt => fun _ st => match st with
    | .Continue _ => true
    | _ => false
  | .pass => fun _ st => match st with
    | .Pass _ => true
    | _ => false
  | .par is es => fun c st => match st with
    | .Assign [.Tuple ts _ _] (.Tuple vs _ _) _ => !c.hot && (parB ts vs && (ts.all (fun t => match t with | .Name x _ => c.sc.names.lookup x == some .local | _ => false) && (chkNs c is ts && (decide (es.length = is.length) && chkEs es c vs))))
    | _ => false
  | .rais cc es => fun c st => match st with
    | .Raise (some (.Call (.Name x _) xs [] _)) none _ => !c.hot && (c.xn cc == some x && (c.glo x && (c.xr cc == some es.length && chkEs es c xs)))
    | _ => false
  | .tryy b hs => fun c st => match st with
    | .Try xs (h0 :: hds) [] [] _ => !c.hot && (chkSs b c xs && chkHs hs c (h0 :: hds))
    | _ => false
  | .kil _ => fun _ _ => false
def chkHs : List Hd → Ck → List ExceptHandler → Bool
  | [] => fun _ hs => hs.isEmpty
  | .mk k none b :: r => fun c hs => match hs with
    | .ExceptHandler (some (.Name x _)) none (b0 :: bs) _ :: rest => c.xn k == some x && (c.glo x && (chkSs b { c with hot := true, ex := none } (b0 :: bs) && chkHs r c rest))
    | _ => false
  | .mk k (some i) b :: r => fun c hs => match hs with
    | .ExceptHandler (some (.Name x _)) (some n) (b0 :: bs) _ :: rest => c.xn k == some x && (c.glo x && (c.ns[i]? == some n && (c.sc.names.lookup n == some .local && (chkSs b { c with hot := true, ex := some i } (b0 :: bs) && chkHs r c rest))))
    | _ => false
def chkSs : List S → Ck → List Stmt → Bool
  | [] => fun _ xs => xs.isEmpty
  | st :: sts => fun c xs => if st.isKil = true then chkSs sts c xs else (match xs with
    | x :: xs => chkS st c x && chkSs sts c xs
    | [] => false)
end
structure CokS (N : Nm) (c : Ck) (Γ : Env) (k : Nat) (W : WX) (X : Cx) : Prop where
  e : CokE N c Γ k W X
  po : PassesOwn (model X.prog X.w) X.A X.env X.xe
  kind : X.env.scope.kind = .function
  top : c.top = true
  stk : c.hot = false → X.stack = X.env :: X.outer ∧ X.env.frame = some X.env.locals
section
variable {N : Nm} {Γ : Env} {k : Nat} {c : Ck} {W : WX} {X : Cx}
theorem nocomp_sw {x : Expr} {t : Option Expr} {l : Nat} {env : PySem.Env} (h : notComp x = true) : swapsWith x t l env = pure false := by
  cases x <;> first | rfl | cases h
theorem sw_attr {x o : Expr} {f : Str} {p : Pos} {l : Nat} {env : PySem.Env} : swapsWith x (some (.Attribute o f p)) l env = pure false := by
  cases x <;> rfl
theorem sw_sub {x o i : Expr} {p : Pos} {l : Nat} {env : PySem.Env} : swapsWithSole [.Subscript o i p] x l env = pure false := by
  cases x <;> rfl
theorem sw_tup {x : Expr} {ts : List Expr} {kk : Nat} {p : Pos} {l : Nat} {env : PySem.Env} : swapsWithSole [.Tuple ts kk p] x l env = pure false := by
  cases x <;> rfl
theorem swst_sub {x o i : Expr} {p : Pos} {env : PySem.Env} : swappedStores [.Subscript o i p] x env = pure none := by
  cases x <;> rfl
theorem swst_tup {x : Expr} {ts : List Expr} {kk : Nat} {p : Pos} {env : PySem.Env} (h : notTup x = true) : swappedStores [.Tuple ts kk p] x env = pure none := by
  cases x <;> first | rfl | cases h
theorem sw_not (o : CokS N c Γ k W X) (ht : c.top = true) {x : Expr} {y : Str} {py : Pos} {l : Nat} (h : swp c y py x = false) (hl : ∀ a b d p, x ≠ .SetComp a b d p) (hd : ∀ a b d e p, x ≠ .DictComp a b d e p) : swapsWith x (some (.Name y py)) l X.env = pure false := by
  cases x <;> first | rfl | skip
  · rename_i elt gens sc pos
    simp only [swp] at h
    unfold swapsWith
    have e : (X.env.blockKind == ScopeKind.function && X.env.kindOf y == some NameKind.local && py.line == (Expr.ListComp elt gens sc pos).pos.line && !(sc.names.any fun (n, k) => n == y && (k == .local || k == .cell))) = false := by
      have ek : X.env.kindOf y = c.sc.names.lookup y := by show X.env.scope.names.lookup y = _; rw [o.e.sc ht]
      rw [ek]
      show (X.env.blockKind == ScopeKind.function && c.sc.names.lookup y == some NameKind.local && py.line == pos.line && !(sc.names.any fun (n, k) => n == y && (k == .local || k == .cell))) = false
      cases h1 : (c.sc.names.lookup y == some NameKind.local) with
      | false => simp
      | true =>
        rw [h1] at h
        cases h2 : (py.line == pos.line) with
        | false => simp
        | true =>
          rw [h2] at h
          simp only [Bool.true_and] at h
          simp [h]
    show pure (X.env.blockKind == ScopeKind.function && X.env.kindOf y == some NameKind.local && py.line == (Expr.ListComp elt gens sc pos).pos.line && !(sc.names.any fun (n, k) => n == y && (k == .local || k == .cell))) = pure false
    rw [e]
  · exact absurd rfl (hl _ _ _ _)
  · exact absurd rfl (hd _ _ _ _ _)
theorem g_nmP {i : Nat} {e : E} (hf : N.free i) (D : Ends) (σ : St) (H : Hp) (h : L2.tAsg (tE N Γ W e) (gT N (.nm i)) D σ H) : L2.tAsg (tE N Γ W e) (gName i) D σ H := t_mono h fun v H' q => g_nm hf v σ H' _ q
/-- a comprehension that the checker lets -/
theorem lc_name {e : E} {x : Expr} (h : chkE e c x = true) : (∀ a b d p, x ≠ .SetComp a b d p) ∧ (∀ a b d e p, x ≠ .DictComp a b d e p) := by
  constructor
  · rintro a b d p rfl
    cases e <;> cases h
  · rintro a b d e' p rfl
    cases e <;> cases h
theorem asg_nm (o : CokS N c Γ k W X) {i : Nat} (hf : N.free i) {e : E} {y : Str} {py pos : Pos} {x : Expr} (h1 : (c.ns[i]? == some y && (c.sc.names.lookup y == some .local || c.sc.names.lookup y == some .cell)) = true) (h2 : chkE e c x = true)
    (h3 : ((notComp x || (swp c y py x && c.top)) || (!(swp c y py x) && c.top)) = true) : PS X (.Assign [.Name y py] x pos) (tS1 N Γ W (.asg (.nm i) e)) := by
  have h1' := h1
  simp only [Bool.and_eq_true, Bool.or_eq_true, beq_iff_eq] at h1
  have loc : L2.Loc X.env.scope y ∧ (X.fn y = true ∨ X.env.scope.names.lookup y = some .local) := by
    rcases h1.2 with h | h
    · exact ⟨.inl (o.e.sloc y h), .inr (o.e.sloc y h)⟩
    · exact ⟨.inr (o.e.scel y h).1, .inl (o.e.scel y h).2⟩
  have hi : X.N[i]? = some y := by rw [o.e.ns]; exact h1.1
  by_cases hn : notComp x = true
  · exact ps_imp (L2.ps_set o.e.nd hi loc.1 (snd e c x W X h2 o.e).1 (nocomp_sw hn) loc.2) fun D σ H q => g_nmP hf D σ H (t_asg D σ H q)
  · have hn' : notComp x = false := by simpa using hn
    rw [hn'] at h3
    cases hs : swp c y py x with
    | true =>
      rw [hs] at h3
      have ht : c.top = true := by simpa using h3
      -- [..] = lcomp
      cases e <;> first | (exfalso; cases x <;> first | cases h2 | cases hn'; done) | skip
      rename_i fz elt tg ik es cnd own
      unfold chkE at h2
      split at h2 <;> first | cases h2 | skip
      rename_i xe t it ifs sc p
      simp only [Bool.and_eq_true, beq_iff_eq, List.all_eq_true, List.contains_iff_mem, Bool.not_eq_true'] at h2
      obtain ⟨hh, _, q0, q1, q2, q3, q4, q5, q6⟩ := h2
      have hex : c.ex = none := o.e.noex hh
      have fr : ∀ i ∈ own, N.free i := fun i _ x hx => by rw [o.e.cool hh] at hx; cases hx
      have ok : L2.BlkOk X.N X.env.scope sc (ownL c own) := L2.blkOk_by (by rw [o.e.ns, o.e.sc ht]; exact q0)
      have hI := sndI (Γ := Γ) (k := k) es ik c it W X t q4 o.e
      simp only [swp, Bool.and_eq_true, beq_iff_eq, Bool.not_eq_true'] at hs
      have ps := L2.ps_setLc (pos := p) (spos := pos) (py := py) (g := gT N tg) (tt := tC N Γ WF cnd) (te := tE N Γ WF elt) (o.e.calm hh) o.e.nd hi (o.e.sloc y hs.1)
        (L2.sw_true o.kind (o.e.sloc y hs.1) (by simpa using hs.2.1) hs.2.2) hI.1 ok
        (fun s H C cl fp => chkT_ok (o.e.blk hex s H C cl fp) q3) (fun s H C cl fp => sndC cnd _ ifs WF _ q5 (o.e.blk hex s H C cl fp)) (fun s H C cl fp => (snd elt _ xe WF _ q6 (o.e.blk hex s H C cl fp)).1) (fold_ok hI.2)
      rw [q1] at ps
      exact ps_imp ps fun D σ H q => t_lc fr (chkI_nk q4) (by intro i hi; exact q2 i (by cases tg <;> exact hi)) σ H _ (g_nmP hf D σ H (t_asg D σ H q))
    | false =>
      rw [hs] at h3
      have ht : c.top = true := by simpa using h3
      obtain ⟨n1, n2⟩ := lc_name h2
      exact ps_imp (L2.ps_set o.e.nd hi loc.1 (snd e c x W X h2 o.e).1 (sw_not o ht hs n1 n2) loc.2) fun D σ H q => g_nmP hf D σ H (t_asg D σ H q)
theorem GoodF.wish {W W' : WX} {Z μ : List Addr} {H : Hp} {r : Fl} {D : Ends} (G : GoodF N W Z μ H r D) (i : ∀ c d σ H, W c d σ H → W' c d σ H) : GoodF N W' Z μ H r D := by
  cases r with
  | exc x l s => exact fun μ' H' σ' c d e S L x1 => i c d σ' H' (G μ' H' σ' c d e S L x1)
  | nx l s => exact G
  | brk l s => exact G
  | cnt l s => exact G
  | ret a s => exact G
  | bad => exact G
theorem tSs_wish {W W' : WX} {b : List S} {D : Ends} {σ : St} {H : Hp} (h : tSs N Γ W b D σ H) (i : ∀ c d σ H, W c d σ H → W' c d σ H) : tSs N Γ W' b D σ H :=
  let ⟨l, s, Z, μ, S, L, G⟩ := h
  ⟨l, s, Z, μ, S, L, G.wish i⟩
def hdL (N : Nm) (Γ : Env) : List Hd → List HdT
  | [] => []
  | .mk c i b :: r => ((N.cv c).getD .none, i, tsH N Γ i b) :: hdL N Γ r
theorem wH_mix {D : Ends} : ∀ (hs : List Hd) (cls : Value) (d : Option Addr) (σ : St) (H : Hp), wH N Γ W D hs cls d σ H → wMix N.K W D (hdL N Γ hs) cls d σ H
  | [], _, _, _, _, h => h
  | .mk c i b :: r, cls, d, σ, H, h => by
    obtain ⟨u, bb, hu, h1, h2, h3⟩ := h
    refine ⟨bb, by rw [hu]; exact h1, fun hb a ha => ?_, fun hb => wH_mix r cls d σ H (h3 hb)⟩
    have q := h2 hb a ha
    cases i with
    | none => exact q
    | some j => exact q
/-- the context of a suite -/
theorem CokS.suite (o : CokS N c Γ k W X) (hh : c.hot = false) (i : Option Nat) (a : Addr) (oe : Obj) (cls : Value) (d : Option Addr) (pn : List (Addr × Obj)) (hz : L2.Zc cls d oe) (hf : ∃ vs, oe.data = .fields vs) (e : Exn) :
    CokS (N.hot i a cls d e) { c with hot := true, ex := i } (Γ.with (i.map fun j => (j, e))) k WF (X.suite a ((a, oe) :: pn)) where
  e := {
    K := o.e.K
    ns := o.e.ns
    sc := o.e.sc
    sglo := o.e.sglo
    sloc := o.e.sloc
    scel := o.e.scel
    sfre := o.e.sfre
    nd := o.e.nd
    calm := fun z => by cases z
    room := fun z => by cases z
    un := o.e.un
    lev := o.e.lev
    cool := fun z => by cases z
    free := fun j hj x hx => by cases hx; exact hj
    hotx := fun j hj => ⟨X, oe, pn, ⟨i, a, cls, d, e⟩, rfl, hj, rfl, hz, hf, by
      have hj' : i = some j := hj
      subst hj'
      rfl⟩
    xok := ⟨o.e.xok.ini, o.e.xok.xat, o.e.xok.fld, o.e.xok.exc, o.e.xok.isx, o.e.xok.exm, o.e.xok.nam⟩
    tk := L2.takes_none5
    blt := o.e.blt
    fns := o.e.fns
    gls := o.e.gls
    mks := o.e.mks
    mts := o.e.mts
    flds := o.e.flds }
  po := PassesOwn.never
  kind := o.kind
  top := o.top
  stk := fun z => by cases z
theorem kill_loc {is : List Nat} {x : Nat} : True := trivial
theorem t_par2 {i j : Nat} {es : List E} (fi : N.free i) (fj : N.free j) (D : Ends) (σ : St) (H : Hp) (h : tS1 N Γ W (.par [i, j] es) D σ H) : L2.tPar i j (tEs N Γ W es) D σ H := by
  obtain ⟨l, s, Z, μ, S, L, G⟩ := h
  replace G : GoodF N W Z μ H ((evEs Γ es l s).fl l (kPar l [i, j])) D := G
  refine ⟨l, s, Z, μ, S, L, GoodF.fl G S L fun as s1 μ1 H1 vs eq e1 S1 r1 L1 G1 => ?_⟩
  replace G1 : GoodF N W Z μ1 H1 (if as.length = 2 then .nx (setAll [i, j] as l) s1 else .bad) D := G1
  by_cases hl : as.length = 2
  · rw [if_pos hl] at G1
    match as, hl, r1, G1 with
    | [a, b], _, r1, G1 =>
      simp only [VRs] at r1
      obtain ⟨v, _, rfl, ra, w, _, rfl, rb, rfl⟩ := r1
      exact ⟨v, w, rfl, G1 μ1 H1 _ (Ext.refl _ _) S1 ((L1.set ra fi).set rb fj)⟩
  · rw [if_neg hl] at G1
    exact False.elim G1
theorem t_par3 {i j m : Nat} {es : List E} (fi : N.free i) (fj : N.free j) (fm : N.free m) (D : Ends) (σ : St) (H : Hp) (h : tS1 N Γ W (.par [i, j, m] es) D σ H) : L2.tPar3 i j m (tEs N Γ W es) D σ H := by
  obtain ⟨l, s, Z, μ, S, L, G⟩ := h
  replace G : GoodF N W Z μ H ((evEs Γ es l s).fl l (kPar l [i, j, m])) D := G
  refine ⟨l, s, Z, μ, S, L, GoodF.fl G S L fun as s1 μ1 H1 vs eq e1 S1 r1 L1 G1 => ?_⟩
  replace G1 : GoodF N W Z μ1 H1 (if as.length = 3 then .nx (setAll [i, j, m] as l) s1 else .bad) D := G1
  by_cases hl : as.length = 3
  · rw [if_pos hl] at G1
    match as, hl, r1, G1 with
    | [a, b, c], _, r1, G1 =>
      simp only [VRs] at r1
      obtain ⟨v, _, rfl, ra, w, _, rfl, rb, u, _, rfl, rc, rfl⟩ := r1
      exact ⟨v, w, u, rfl, G1 μ1 H1 _ (Ext.refl _ _) S1 (((L1.set ra fi).set rb fj).set rc fm)⟩
  · rw [if_neg hl] at G1
    exact False.elim G1
theorem sw2 {x y : Str} {px py pt pt2 : Pos} {kt k2 : Nat} {a b : Expr} {env : PySem.Env} (hk : env.blockKind = .function) (h1 : env.kindOf x = some .local) (h2 : env.kindOf y = some .local) (n1 : nst a = true) (n2 : nst b = true) (h : parB [.Name x px, .Name y py] [a, b] = true) :
    swappedStores [.Tuple [.Name x px, .Name y py] kt pt] (.Tuple [a, b] k2 pt2) env = pure (some [x, y]) := by
  simp only [parB, Bool.and_eq_true, Bool.not_eq_true', decide_eq_true_eq] at h
  obtain ⟨f1, f2, f3, f4⟩ := h
  have hl : (Expr.Name x px).pos.line = px.line := rfl
  unfold swappedStores
  simp only [List.length_cons, List.length_nil, List.head?_cons, Option.map_some, Option.getD_some, List.filterMap_cons, h1, h2, hl, f3, hk, f1, f2, List.any_cons, List.any_nil]
  simp
  have d : [x, y].eraseDups.length = 2 := by
    simp [List.eraseDups_cons, Ne.symm f4]
  rw [d]
  show (if starq a = true ∨ starq b = true then (pure none : Sem (Option (List Str))) else if 2 = 2 then pure (some [x, y]) else pure none) = _
  rw [star_no n1, star_no n2]
  simp
theorem sw3 {x y z : Str} {px py pz pt pt2 : Pos} {kt k2 : Nat} {a b c : Expr} {env : PySem.Env} (hk : env.blockKind = .function) (h1 : env.kindOf x = some .local) (h2 : env.kindOf y = some .local) (h3 : env.kindOf z = some .local) (n1 : nst a = true) (n2 : nst b = true) (n3 : nst c = true) (h : parB [.Name x px, .Name y py, .Name z pz] [a, b, c] = true) :
    swappedStores [.Tuple [.Name x px, .Name y py, .Name z pz] kt pt] (.Tuple [a, b, c] k2 pt2) env = pure (some [x, y, z]) := by
  simp only [parB, Bool.and_eq_true, Bool.not_eq_true', decide_eq_true_eq] at h
  obtain ⟨f1, f2, f3, f3', f4, f5, f6⟩ := h
  have hl : (Expr.Name x px).pos.line = px.line := rfl
  unfold swappedStores
  simp only [List.length_cons, List.length_nil, List.head?_cons, Option.map_some, Option.getD_some, List.filterMap_cons, h1, h2, h3, hl, ← f3, ← f3', hk, f1, f2, List.any_cons, List.any_nil]
  simp
  have d : [x, y, z].eraseDups.length = 3 := by
    simp [List.eraseDups_cons, Ne.symm f4, Ne.symm f5, Ne.symm f6]
  rw [d]
  show (if starq a = true ∨ starq b = true ∨ starq c = true then (pure none : Sem (Option (List Str))) else if 3 = 3 then pure (some [x, y, z]) else pure none) = _
  rw [star_no n1, star_no n2, star_no n3]
  simp
theorem nm_of {t : Expr} {sc : Scope} (h : (match t with | .Name x _ => sc.names.lookup x == some .local | _ => false) = true) : ∃ x p, t = .Name x p ∧ sc.names.lookup x = some .local := by
  cases t <;> first | cases h | skip
  exact ⟨_, _, rfl, by simpa using h⟩
theorem cons_of {c : Ck} {e : E} {es : List E} {v : Expr} {vs : List Expr} (h : chkEs (e :: es) c (v :: vs) = true) : nst v = true ∧ chkEs es c vs = true := by
  unfold chkEs at h
  simp only [Bool.and_eq_true] at h
  exact ⟨h.1, h.2.2⟩
theorem parB_two {x y : Str} {p q : Pos} {vs : List Expr} (h : parB [.Name x p, .Name y q] vs = true) : x ≠ y := by
  simp only [parB, Bool.and_eq_true, decide_eq_true_eq] at h
  exact h.2.2.2
theorem parB_three {x y z : Str} {p q r : Pos} {vs : List Expr} (h : parB [.Name x p, .Name y q, .Name z r] vs = true) : x ≠ y ∧ x ≠ z ∧ y ≠ z := by
  simp only [parB, Bool.and_eq_true, decide_eq_true_eq] at h
  exact h.2.2.2.2
theorem parB_len {ts vs : List Expr} (h : parB ts vs = true) : ts.length = 2 ∨ ts.length = 3 := by
  simp only [parB, Bool.and_eq_true] at h
  obtain ⟨_, _, h⟩ := h
  split at h <;> first | exact .inl rfl | exact .inr rfl | cases h
theorem len2 {α : Type} {xs : List α} (h : xs.length = 2) : ∃ a b, xs = [a, b] := by
  match xs, h with
  | [a, b], _ => exact ⟨a, b, rfl⟩
theorem len3 {α : Type} {xs : List α} (h : xs.length = 3) : ∃ a b c, xs = [a, b, c] := by
  match xs, h with
  | [a, b, c], _ => exact ⟨a, b, c, rfl⟩
theorem bk_fn {env : PySem.Env} (h : env.scope.kind = .function) : env.blockKind = .function := by
  unfold PySem.Env.blockKind
  rw [h]
  rfl
theorem par_ok (o : CokS N c Γ k W X) {is : List Nat} {es : List E} {ts vs : List Expr} {kt k2 : Nat} {pt pt2 pos : Pos} (hh : c.hot = false) (hp : parB ts vs = true) (hl : ts.all (fun t => match t with | .Name x _ => c.sc.names.lookup x == some .local | _ => false) = true)
    (hn : chkNs c is ts = true) (he : es.length = is.length) (hv : chkEs es c vs = true) : PS X (.Assign [.Tuple ts kt pt] (.Tuple vs k2 pt2) pos) (tS1 N Γ W (.par is es)) := by
  have pa := sndEs (Γ := Γ) (k := k) es c vs W X hv o.e
  have len := (nst_all (Γ' := X.env) hv).2.2
  have fr : ∀ i, N.free i := fun i x hx => by rw [o.e.cool hh] at hx; cases hx
  have bk : X.env.blockKind = .function := bk_fn o.kind
  have nl := chkNs_len is ts hn
  rcases parB_len hp with h2 | h3
  · obtain ⟨t1, t2, rfl⟩ := len2 h2
    obtain ⟨i, j, rfl⟩ := len2 (nl.symm.trans h2)
    obtain ⟨e1, e2, rfl⟩ := len2 he
    obtain ⟨v1, v2, rfl⟩ := len2 len
    simp only [List.all_cons, List.all_nil, Bool.and_true, Bool.and_eq_true] at hl
    obtain ⟨x, px, rfl, lx⟩ := nm_of hl.1
    obtain ⟨y, py, rfl, ly⟩ := nm_of hl.2
    obtain ⟨m1, m2⟩ := cons_of hv
    obtain ⟨m2, _⟩ := cons_of m2
    simp only [chkNs, Bool.and_eq_true, beq_iff_eq] at hn
    have hi : X.N[i]? = some x := by rw [o.e.ns]; exact hn.1.1
    have hj : X.N[j]? = some y := by rw [o.e.ns]; exact hn.2.1.1
    have ne := parB_two hp
    have hij : i ≠ j := by rintro rfl; rw [hi] at hj; cases hj; exact ne rfl
    exact ps_imp (L2.ps_par (o.e.calm hh) o.e.nd hi hj hij (o.e.sloc x lx) (o.e.sloc y ly) pa (sw2 bk (o.e.sloc x lx) (o.e.sloc y ly) m1 m2 hp) rfl) (t_par2 (fr i) (fr j))
  · obtain ⟨t1, t2, t3, rfl⟩ := len3 h3
    obtain ⟨i, j, m, rfl⟩ := len3 (nl.symm.trans h3)
    obtain ⟨e1, e2, e3, rfl⟩ := len3 he
    obtain ⟨v1, v2, v3, rfl⟩ := len3 len
    simp only [List.all_cons, List.all_nil, Bool.and_true, Bool.and_eq_true] at hl
    obtain ⟨x, px, rfl, lx⟩ := nm_of hl.1
    obtain ⟨y, py, rfl, ly⟩ := nm_of hl.2.1
    obtain ⟨z, pz, rfl, lz⟩ := nm_of hl.2.2
    obtain ⟨m1, m2⟩ := cons_of hv
    obtain ⟨m2, m3⟩ := cons_of m2
    obtain ⟨m3, _⟩ := cons_of m3
    simp only [chkNs, Bool.and_eq_true, beq_iff_eq] at hn
    have hi : X.N[i]? = some x := by rw [o.e.ns]; exact hn.1.1
    have hj : X.N[j]? = some y := by rw [o.e.ns]; exact hn.2.1.1
    have hm : X.N[m]? = some z := by rw [o.e.ns]; exact hn.2.2.1.1
    obtain ⟨n1, n2, n3⟩ := parB_three hp
    have hij : i ≠ j := by rintro rfl; rw [hi] at hj; cases hj; exact n1 rfl
    have him : i ≠ m := by rintro rfl; rw [hi] at hm; cases hm; exact n2 rfl
    have hjm : j ≠ m := by rintro rfl; rw [hj] at hm; cases hm; exact n3 rfl
    exact ps_imp (L2.ps_par3 (o.e.calm hh) o.e.nd hi hj hm hij him hjm (o.e.sloc x lx) (o.e.sloc y ly) (o.e.sloc z lz) pa (sw3 bk (o.e.sloc x lx) (o.e.sloc y ly) (o.e.sloc z lz) m1 m2 m3 hp) rfl) (t_par3 (fr i) (fr j) (fr m))
theorem rais_ok (o : CokS N c Γ k W X) {cc : Nat} {es : List E} {x : Str} {xs : List Expr} {p q pos : Pos} (hh : c.hot = false) (h1 : c.xn cc = some x) (h2 : c.glo x = true) (h3 : c.xr cc = some es.length) (h4 : chkEs es c xs = true) : PS X (.Raise (some (.Call (.Name x p) xs [] q)) none pos) (tS1 N Γ W (.rais cc es)) := by
  obtain ⟨xk, C, fI, cv, mx, T, iC, tI, rest⟩ := o.e.xok.ini cc x _ h1 h3
  obtain ⟨g1, g2⟩ := o.e.glo h2
  have pa := sndEs (Γ := Γ) (k := k) es c xs W X h4 o.e
  have len := (nst_all (Γ' := X.env) h4).2.2
  have room := (o.e.room hh).mono (show 2 ≤ k + 1 by have := o.e.lev; omega)
  rw [← o.e.K] at T iC tI
  cases ha : N.xa cc with
  | some g =>
    rw [ha] at rest
    obtain ⟨n1, rest⟩ := rest
    obtain ⟨fd, ps, F, B⟩ := rest X.prog X.w X.base
    rw [← o.e.K] at F B
    match es, n1, xs, len, h4, pa with
    | [e], _, [y], _, h4, pa =>
      obtain ⟨m1, _⟩ := cons_of h4
      exact ps_imp (L2.ps_raise (o.e.calm hh) o.e.tk (pmk1 o.e.tk T iC tI F room B g1 mx g2 pa (star_ok m1) rfl)) (t_rais1 cv xk ha)
  | none =>
    rw [ha] at rest
    obtain ⟨n0, rest⟩ := rest
    obtain ⟨fd, ps, F, B⟩ := rest X.prog X.w X.base
    rw [← o.e.K] at F B
    match es, n0, xs, len with
    | [], _, [], _ => exact ps_imp (L2.ps_raise (o.e.calm hh) o.e.tk (pmk0 o.e.tk T iC tI F room B g1 mx g2)) (t_rais0 cv xk ha)
/-- the body's context -/
theorem CokS.tr (o : CokS N c Γ k W X) {W' : WX} {pn : List (Addr × Obj)} {xe : Value → Shared → Prop} (tk : Takes (X.tr pn xe) W') (po : PassesOwn (model X.prog X.w) X.A X.env xe) (hh : c.hot = false) : CokS N c Γ k W' (X.tr pn xe) where
  e := {
    K := o.e.K
    ns := o.e.ns
    sc := o.e.sc
    sglo := o.e.sglo
    sloc := o.e.sloc
    scel := o.e.scel
    sfre := o.e.sfre
    nd := o.e.nd
    calm := o.e.calm
    room := o.e.room
    un := o.e.un
    lev := o.e.lev
    cool := o.e.cool
    free := o.e.free
    hotx := fun j hj => absurd hj (by rw [o.e.noex hh]; simp)
    xok := o.e.xok
    tk := tk
    blt := o.e.blt
    fns := o.e.fns
    gls := o.e.gls
    mks := o.e.mks
    mts := o.e.mts
    flds := o.e.flds }
  po := po
  kind := o.kind
  top := o.top
  stk := o.stk
mutual
theorem sndS : ∀ (s : S) (N : Nm) (Γ : Env) (c : Ck) (st : Stmt) (W : WX) (X : Cx), chkS s c st = true → CokS N c Γ k W X → PS X st (tS1 N Γ W s)
  | .asg (.nm i) e => by
    intro N Γ c st W X h o
    unfold chkS at h
    split at h <;> first | cases h | skip
    obtain ⟨h01, h2⟩ := Bool.and_eq_true_iff.mp h
    obtain ⟨h0, h1⟩ := Bool.and_eq_true_iff.mp h01
    obtain ⟨h3, h4⟩ := Bool.and_eq_true_iff.mp h2
    exact asg_nm o (o.e.free i (by simpa using h0)) h1 h3 h4
  | .asg (.tp is) e => by
    intro N Γ c st W X h o
    unfold chkS at h
    split at h <;> first | cases h | skip
    simp only [Bool.and_eq_true] at h
    exact ps_imp (L2.ps_asg (snd e c _ W X h.2.2 o.e).1 (chkT_ok o.e h.2.1) sw_tup (swst_tup h.1) rfl) t_asg
  | .sub a i e => by
    intro N Γ c st W X h o
    unfold chkS at h
    split at h <;> first | cases h | skip
    rename_i x y p z q
    simp only [Bool.and_eq_true] at h
    obtain ⟨h0, h1, h2, h3⟩ := h
    exact ps_imp (L2.ps_asg (snd e c z W X h3 o.e).1 (L2.pg_sub (snd a c x W X h1 o.e).1 (snd i c y W X h2 o.e).1 (s_sub o.e.K (by have := o.e.un; omega)) (by intro v; cases y <;> first | rfl | cases h0)) sw_sub swst_sub rfl) t_sub
  | .fld a f e => by
    intro N Γ c st W X h o
    unfold chkS at h
    split at h <;> first | cases h | skip
    simp only [Bool.and_eq_true] at h
    obtain ⟨h0, h1, h2, h3⟩ := h
    obtain rfl := ofS_eq h0
    refine ps_imp (L2.ps_fld (snd a c _ W X h2 o.e).1 (snd e c _ W X h3 o.e).1 sw_attr) ?_
    rw [o.e.K]
    exact t_fld fun cc C hc => o.e.flds f (by simpa using h1) cc C hc
  | .ex e => by
    intro N Γ c st W X h o
    unfold chkS at h
    split at h <;> first | cases h | skip
    simp only [Bool.and_eq_true] at h
    exact ps_imp (L2.ps_expr (snd e c _ W X h.2 o.e).1 (nocomp_sw h.1)) t_ex
  | .iff e a b => by
    intro N Γ c st W X h o
    unfold chkS at h
    split at h <;> first | cases h | skip
    simp only [Bool.and_eq_true] at h
    obtain ⟨h0, h1, h2, h3⟩ := h
    exact ps_imp (L2.ps_if ((snd e c _ W X h1 o.e).2.1 h0) (sndSs a N Γ c _ W X h2 o) (sndSs b N Γ c _ W X h3 o)) t_if
  | .whl e b ks => by
    intro N Γ c st W X h o
    unfold chkS at h
    split at h <;> first | cases h | skip
    simp only [Bool.and_eq_true, Bool.not_eq_true'] at h
    obtain ⟨hh, h0, h1, h2⟩ := h
    exact ps_imp (L2.ps_while o.po ((snd e c _ W X h1 o.e).2.1 h0) (sndSs b N Γ c _ W X h2 o)) t_whl
  | .forr t ik es b ks => by
    intro N Γ c st W X h o
    unfold chkS at h
    split at h <;> first | cases h | skip
    rename_i tx it xs p
    simp only [Bool.and_eq_true, Bool.not_eq_true'] at h
    obtain ⟨hh, h0, h1, h2⟩ := h
    have hI := sndI (Γ := Γ) (k := k) es ik c it W X tx h1 o.e
    exact ps_imp (L2.ps_for o.po (o.e.calm hh) hI.1 (chkT_ok o.e h0) (sndSs b N Γ c _ W X h2 o) (fold_ok hI.2)) (t_for (chkI_nk h1))
  | .ret e => by
    intro N Γ c st W X h o
    unfold chkS at h
    split at h <;> first | cases h | skip
    exact ps_imp (L2.ps_ret (snd e c _ W X h o.e).1) t_ret
  | .retN => by
    intro N Γ c st W X h o
    unfold chkS at h
    split at h <;> first | cases h | skip
    exact ps_imp L2.ps_retN t_retN
  | .brk => by
    intro N Γ c st W X h o
    unfold chkS at h
    split at h <;> first | cases h | skip
    exact ps_imp L2.ps_break t_brk
  | .cnt => by
    intro N Γ c st W X h o
    unfold chkS at h
    split at h <;> first | cases h | skip
    exact ps_imp L2.ps_continue t_cnt
  | .pass => by
    intro N Γ c st W X h o
    unfold chkS at h
    split at h <;> first | cases h | skip
    exact ps_imp L2.ps_pass t_pass
  | .par is es => by
    intro N Γ c st W X h o
    unfold chkS at h
    split at h <;> first | cases h | skip
    simp only [Bool.and_eq_true, Bool.not_eq_true', decide_eq_true_eq] at h
    obtain ⟨hh, hp, hl, hn, he, hv⟩ := h
    exact par_ok o hh hp hl hn he hv
  | .rais cc es => by
    intro N Γ c st W X h o
    unfold chkS at h
    split at h <;> first | cases h | skip
    simp only [Bool.and_eq_true, Bool.not_eq_true', beq_iff_eq] at h
    obtain ⟨hh, h1, h2, h3, h4⟩ := h
    exact rais_ok o hh h1 h2 h3 h4
  | .tryy b hs => by
    intro N Γ c st W X h o
    unfold chkS at h
    split at h <;> first | cases h | skip
    rename_i xs h0 hds p
    simp only [Bool.and_eq_true, Bool.not_eq_true'] at h
    obtain ⟨hh, h1, h2⟩ := h
    obtain ⟨k1, k2⟩ := o.stk hh
    obtain ⟨m1, m2⟩ := sndHs hs N Γ c (h0 :: hds) W X h2 o hh
    refine ps_imp (ps_mix (tb := fun W' => tSs N Γ W' b) (Wo := W) k1 k2 o.e.nd o.e.tk (fun W' pn xe tk po => sndSs b N Γ c xs W' _ h1 (o.tr tk po hh)) m1) fun D σ H q => ?_
    rw [o.e.K]
    exact tSs_wish (t_try (hk := fun kk => c.xn kk ≠ none) (o.e.cool hh) o.e.xok.exm m2 D σ H q) fun cls d σ H w => wH_mix hs cls d σ H w
  | .kil _ => by intro N Γ c x W X h o; cases h
theorem sndHs : ∀ (hs : List Hd) (N : Nm) (Γ : Env) (c : Ck) (hds : List ExceptHandler) (W : WX) (X : Cx), chkHs hs c hds = true → CokS N c Γ k W X → c.hot = false → HsOk X hds (hdL N Γ hs) ∧ ∀ cc i b, Hd.mk cc i b ∈ hs → ∃ u, N.cv cc = some u ∧ c.xn cc ≠ none
  | [] => by
    intro N Γ c hds W X h o hh
    unfold chkHs at h
    cases hds with
    | nil => exact ⟨.nil, by simp⟩
    | cons x xs => cases h
  | .mk kk none b :: r => by
    intro N Γ c hds W X h o hh
    unfold chkHs at h
    split at h <;> first | cases h | skip
    rename_i x np b0 bs hp rest
    simp only [Bool.and_eq_true, beq_iff_eq] at h
    obtain ⟨h1, h2, h3, h4⟩ := h
    obtain ⟨g1, g2⟩ := o.e.glo h2
    obtain ⟨m1, m2⟩ := sndHs r N Γ c rest W X h4 o hh
    have go : ∀ (a : Addr) (oe : Obj) (cls : Value) (d : Option Addr) (pn : List (Addr × Obj)), L2.Zc cls d oe → (∃ vs, oe.data = .fields vs) → PSs (X.suite a ((a, oe) :: pn)) (b0 :: bs) (tsH N Γ none b a cls d) := fun a oe cls d pn hz hf =>
      ⟨fun pins s σ H D I ⟨e, q⟩ => (sndSs b _ _ _ (b0 :: bs) WF _ h3 (o.suite hh none a oe cls d pn hz hf e)).run pins s σ H D I q⟩
    rcases o.e.xok.nam kk x h1 with ⟨C, e1, e2⟩ | ⟨rfl, e1⟩
    · refine ⟨?_, fun cc i b' hm => ?_⟩
      · show HsOk X _ (((N.cv kk).getD .none, none, tsH N Γ none b) :: hdL N Γ r)
        rw [e1]
        exact .none ⟨g1, g2, .inl e2⟩ go m1
      · rcases List.mem_cons.mp hm with hm | hm
        · cases hm; exact ⟨_, e1, by rw [h1]; simp⟩
        · exact m2 cc i b' hm
    · refine ⟨?_, fun cc i b' hm => ?_⟩
      · show HsOk X _ (((N.cv kk).getD .none, none, tsH N Γ none b) :: hdL N Γ r)
        rw [e1]
        exact .none ⟨g1, g2, .inr ⟨o.e.blt "ValueError" (by decide), by rfl, by decide⟩⟩ go m1
      · rcases List.mem_cons.mp hm with hm | hm
        · cases hm; exact ⟨_, e1, by rw [h1]; simp⟩
        · exact m2 cc i b' hm
  | .mk kk (some i) b :: r => by
    intro N Γ c hds W X h o hh
    unfold chkHs at h
    split at h <;> first | cases h | skip
    rename_i x np n b0 bs hp rest
    simp only [Bool.and_eq_true, beq_iff_eq] at h
    obtain ⟨h1, h2, h5, h6, h3, h4⟩ := h
    obtain ⟨g1, g2⟩ := o.e.glo h2
    obtain ⟨m1, m2⟩ := sndHs r N Γ c rest W X h4 o hh
    have hi : X.N[i]? = some n := by rw [o.e.ns]; exact h5
    have go : ∀ (a : Addr) (oe : Obj) (cls : Value) (d : Option Addr) (pn : List (Addr × Obj)), L2.Zc cls d oe → (∃ vs, oe.data = .fields vs) → PSs (X.suite a ((a, oe) :: pn)) (b0 :: bs) (tsH N Γ (some i) b a cls d) := fun a oe cls d pn hz hf =>
      ⟨fun pins s σ H D I ⟨e, q⟩ => (sndSs b _ _ _ (b0 :: bs) WF _ h3 (o.suite hh (some i) a oe cls d pn hz hf e)).run pins s σ H D I q⟩
    rcases o.e.xok.nam kk x h1 with ⟨C, e1, e2⟩ | ⟨rfl, e1⟩
    · refine ⟨?_, fun cc i' b' hm => ?_⟩
      · show HsOk X _ (((N.cv kk).getD .none, some i, tsH N Γ (some i) b) :: hdL N Γ r)
        rw [e1]
        exact .some ⟨g1, g2, .inl e2⟩ hi (o.e.sloc n h6) go m1
      · rcases List.mem_cons.mp hm with hm | hm
        · cases hm; exact ⟨_, e1, by rw [h1]; simp⟩
        · exact m2 cc i' b' hm
    · refine ⟨?_, fun cc i' b' hm => ?_⟩
      · show HsOk X _ (((N.cv kk).getD .none, some i, tsH N Γ (some i) b) :: hdL N Γ r)
        rw [e1]
        exact .some ⟨g1, g2, .inr ⟨o.e.blt "ValueError" (by decide), by rfl, by decide⟩⟩ hi (o.e.sloc n h6) go m1
      · rcases List.mem_cons.mp hm with hm | hm
        · cases hm; exact ⟨_, e1, by rw [h1]; simp⟩
        · exact m2 cc i' b' hm
theorem sndSs : ∀ (ss : List S) (N : Nm) (Γ : Env) (c : Ck) (xs : List Stmt) (W : WX) (X : Cx), chkSs ss c xs = true → CokS N c Γ k W X → PSs X xs (tSs N Γ W ss)
  | [] => by
    intro N Γ c xs W X h o
    unfold chkSs at h
    cases xs with
    | nil => exact pss_imp L2.pss_nil t_snil
    | cons x xs => cases h
  | s :: ss => by
    intro N Γ c xs W X h o
    unfold chkSs at h
    by_cases hk : s.isKil = true
    · rw [if_pos hk] at h
      cases s <;> first | cases hk | skip
      exact pss_imp (sndSs ss N Γ c xs W X h o) t_kil
    · rw [if_neg hk] at h
      cases xs with
      | nil => cases h
      | cons x xs =>
        simp only [Bool.and_eq_true] at h
        exact pss_imp (L2.pss_cons (sndS s N Γ c x W X h.1 o) (sndSs ss N Γ c xs W X h.2 o)) t_scons
end
end
end Py

set_option autoImplicit false
set_option linter.all false
set_option Elab.async false
set_option maxRecDepth 100000
set_option maxHeartbeats 4000000
/-! PyS11: a call that sees a part of the store. -/
namespace Py
open PySem
open L2 (V Hp HO Rd SqL SqT Cx Inv PE PT PA PS PSs Ends VK XK WX St Room upd upd_same upd_ne ne_of_none Key kV RelV Vals FnOk Binds Sp)
section
variable {N : Nm} {W : WX} {Z Zx μ : List Addr} {H : Hp} {σ : St} {s : Sto} {p : Nat}
theorem take_not {m : Nat} {q : Addr} (nd : μ.Nodup) (h : μ[m]? = some q) (hm : ¬ m < p) : q ∉ μ.take p := by
  intro z
  obtain ⟨i, hi, e⟩ := List.mem_iff_getElem.mp z
  rw [List.getElem_take] at e
  have hi' : i < p := by simp at hi; omega
  have hl : i < μ.length := by simp at hi; omega
  have h2 : μ[i]? = some q := by rw [List.getElem?_eq_getElem hl, e]
  have := (List.getElem?_inj hl nd).mp (h2.trans h.symm)
  omega
theorem take_sub {q : Addr} (h : q ∉ μ) : q ∉ μ.take p := fun z => h (List.mem_of_mem_take z)
theorem take_at {m : Nat} {q : Addr} (h : μ[m]? = some q) (hm : m < p) : (μ.take p)[m]? = some q := by rw [List.getElem?_take_of_lt hm]; exact h
theorem zx_not {q : Addr} {kept : Bool} (hZ : ∀ q ∈ Zx, q ∈ Z ∨ (q ∈ μ.drop p ∧ kept = true)) (h1 : q ∉ μ) (h2 : q ∉ Z) : q ∉ Zx := fun z => by
  rcases hZ q z with h | ⟨h, _⟩
  · exact h2 h
  · exact h1 (List.mem_of_mem_drop h)
/-- references from p on are things that nobody changes, for who sees the first p alone -/
theorem frz_ok {kept : Bool} (S : SR N.K N.fa N.cv Z μ s H) (hZ : ∀ q ∈ Zx, q ∈ Z ∨ (q ∈ μ.drop p ∧ kept = true)) : ∀ (n : Nat) (a b : A) (v : V), (kept = true → lowA p a = true) → frz s p n a = some b → VR N.K N.fa Z μ H a v → VR N.K N.fa Zx (μ.take p) H b v := by
  have ref_ok : ∀ (m : Nat) (v : V), m < p → VR N.K N.fa Z μ H (.ref m) v → VR N.K N.fa Zx (μ.take p) H (.ref m) v := by
    intro m v hm r
    simp only [VR] at r ⊢
    obtain ⟨q, rfl, hq⟩ := r
    exact ⟨q, rfl, take_at hq hm⟩
  intro n
  induction n with
  | zero =>
    intro a b v hk e r
    cases a with
    | ref m =>
      have e' : (if m < p then some (A.ref m) else none) = some b := by simpa [frz] using e
      by_cases hm : m < p
      · rw [if_pos hm] at e'; cases e'; exact ref_ok m v hm r
      · rw [if_neg hm] at e'; cases e'
    | tup as => cases e
    | lst as => cases e
    | dct t ks => cases e
    | non => cases e; simpa [VR] using r
    | bl b => cases e; simpa [VR] using r
    | int i => cases e; simpa [VR] using r
    | str x => cases e; simpa [VR] using r
    | fn f => cases e; simpa [VR] using r
    | ctp as => cases e; simpa [VR] using r
  | succ n ih =>
    have lists : ∀ (as bs : List A) (vs : List V), (kept = true → as.all (lowA p) = true) → mapO (frz s p n) as = some bs → VRs N.K N.fa Z μ H as vs → VRs N.K N.fa Zx (μ.take p) H bs vs := by
      intro as
      induction as with
      | nil => intro bs vs _ e r; cases e; simpa [VRs] using r
      | cons a as ih2 =>
        intro bs vs hk e r
        rw [mapO_cons] at e
        split at e
        · rename_i x xs e1 e2
          cases e
          simp only [VRs] at r ⊢
          obtain ⟨v, w, rfl, r1, r2⟩ := r
          exact ⟨v, w, rfl, ih a x v (fun q => by have := hk q; simp at this; exact this.1) e1 r1, ih2 xs w (fun q => by have := hk q; simp at this; simpa using this.2) e2 r2⟩
        · cases e
    have ks_ok : ∀ (ks bs : List (A × A)) (vs : List (Key × V)), (kept = true → ks.all (fun kv => lowA p kv.1 && lowA p kv.2) = true) → mapO (fun kv : A × A => (frz s p n kv.2).map fun v => (kv.1, v)) ks = some bs → VRk N.K N.fa Z μ H ks vs → VRk N.K N.fa Zx (μ.take p) H bs vs := by
      intro ks
      induction ks with
      | nil => intro bs vs _ e r; cases e; simpa [VRk] using r
      | cons kv ks ih2 =>
        obtain ⟨k, a⟩ := kv
        intro bs vs hk e r
        rw [mapO_cons] at e
        split at e
        · rename_i x xs e1 e2
          cases e
          obtain ⟨y, e3, rfl⟩ := Option.map_eq_some_iff.mp e1
          simp only [VRk] at r ⊢
          obtain ⟨q, v, w, rfl, r0, r1, r2⟩ := r
          exact ⟨q, v, w, rfl, r0, ih a y v (fun q => by have := hk q; simp at this; exact this.1.2) e3 r1, ih2 xs w (fun q => by have := hk q; simp at this; simpa using this.2) e2 r2⟩
        · cases e
    have kt_ok : ∀ (ks bs : List (A × A)) (vs : List (List Key × V)), (kept = true → ks.all (fun kv => lowA p kv.1 && lowA p kv.2) = true) → mapO (fun kv : A × A => (frz s p n kv.2).map fun v => (kv.1, v)) ks = some bs → VRt N.K N.fa Z μ H ks vs → VRt N.K N.fa Zx (μ.take p) H bs vs := by
      intro ks
      induction ks with
      | nil => intro bs vs _ e r; cases e; simpa [VRt] using r
      | cons kv ks ih2 =>
        obtain ⟨k, a⟩ := kv
        intro bs vs hk e r
        rw [mapO_cons] at e
        split at e
        · rename_i x xs e1 e2
          cases e
          obtain ⟨y, e3, rfl⟩ := Option.map_eq_some_iff.mp e1
          simp only [VRt] at r ⊢
          obtain ⟨q, v, w, rfl, r0, r1, r2⟩ := r
          exact ⟨q, v, w, rfl, r0, ih a y v (fun q => by have := hk q; simp at this; exact this.1.2) e3 r1, ih2 xs w (fun q => by have := hk q; simp at this; simpa using this.2) e2 r2⟩
        · cases e
    intro a b v hk e r
    cases a with
    | non => cases e; simpa [VR] using r
    | bl b => cases e; simpa [VR] using r
    | int i => cases e; simpa [VR] using r
    | str x => cases e; simpa [VR] using r
    | fn f => cases e; simpa [VR] using r
    | ctp as => cases e; simpa [VR] using r
    | tup as =>
      have e' : (mapO (frz s p n) as).map A.tup = some b := e
      obtain ⟨bs, e1, rfl⟩ := Option.map_eq_some_iff.mp e'
      simp only [VR] at r ⊢
      obtain ⟨q, vs, rfl, h1, h2⟩ := r
      exact ⟨q, vs, rfl, h1, lists as bs vs (fun z => by simpa using hk z) e1 h2⟩
    | lst as =>
      have e' : (mapO (frz s p n) as).map A.lst = some b := e
      obtain ⟨bs, e1, rfl⟩ := Option.map_eq_some_iff.mp e'
      simp only [VR] at r ⊢
      obtain ⟨q, vs, rfl, h1, h2⟩ := r
      refine ⟨q, vs, rfl, ?_, lists as bs vs (fun z => by simpa using hk z) e1 h2⟩
      rcases h1 with ⟨h1, h3, h4⟩ | h1
      · exact .inl ⟨h1, take_sub h3, zx_not hZ h3 h4⟩
      · exact .inr h1
    | dct t ks =>
      have e' : (mapO (fun kv : A × A => (frz s p n kv.2).map fun v => (kv.1, v)) ks).map (A.dct t) = some b := e
      obtain ⟨bs, e1, rfl⟩ := Option.map_eq_some_iff.mp e'
      cases t with
      | false =>
        simp only [VR] at r ⊢
        obtain ⟨q, vs, rfl, h1, h3, h4, h2⟩ := r
        exact ⟨q, vs, rfl, h1, take_sub h3, zx_not hZ h3 h4, ks_ok ks bs vs (fun z => by simpa using hk z) e1 h2⟩
      | true =>
        simp only [VR] at r ⊢
        obtain ⟨q, vs, rfl, h1, h3, h4, h2⟩ := r
        exact ⟨q, vs, rfl, h1, take_sub h3, zx_not hZ h3 h4, kt_ok ks bs vs (fun z => by simpa using hk z) e1 h2⟩
    | ref m =>
      have e' : (if m < p then some (A.ref m) else kFrz (frz s p n) s[m]?) = some b := e
      by_cases hm : m < p
      · rw [if_pos hm] at e'; cases e'; exact ref_ok m v hm r
      · rw [if_neg hm] at e'
        have hkf : kept = false := by
          cases kept with
          | false => rfl
          | true => have := hk rfl; simp at this; exact absurd this hm
        subst hkf
        have zz : ∀ q, q ∉ Z → q ∉ Zx := fun q h z => by
          rcases hZ q z with h' | ⟨_, h'⟩
          · exact h h'
          · cases h'
        simp only [VR] at r
        obtain ⟨q, rfl, hq⟩ := r
        have qz : q ∉ Z := S.apart q (List.mem_of_getElem? hq)
        have qt := take_not (p := p) S.nd hq hm
        cases hc : s[m]? with
        | none => rw [hc] at e'; cases e'
        | some c =>
          rw [hc] at e'
          obtain ⟨q2, h2, hcr⟩ := S.cell m c hc
          obtain rfl : q = q2 := Option.some.inj (hq.symm.trans h2)
          cases c with
          | lst as =>
            have e2 : (mapO (frz s p n) as).map A.lst = some b := e'
            obtain ⟨bs, e1, rfl⟩ := Option.map_eq_some_iff.mp e2
            obtain ⟨vs, h3, h4⟩ := hcr
            simp only [VR]
            exact ⟨q, vs, rfl, .inl ⟨.inl h3, qt, zz q qz⟩, lists as bs vs (fun z => by cases z) e1 h4⟩
          | dct t ks =>
            have e2 : (mapO (fun kv : A × A => (frz s p n kv.2).map fun v => (kv.1, v)) ks).map (A.dct t) = some b := e'
            obtain ⟨bs, e1, rfl⟩ := Option.map_eq_some_iff.mp e2
            cases t with
            | false =>
              obtain ⟨vs, h3, h4⟩ := hcr
              simp only [VR]
              exact ⟨q, vs, rfl, .inl h3, qt, zz q qz, ks_ok ks bs vs (fun z => by cases z) e1 h4⟩
            | true =>
              obtain ⟨vs, h3, h4⟩ := hcr
              simp only [VR]
              exact ⟨q, vs, rfl, .inl h3, qt, zz q qz, kt_ok ks bs vs (fun z => by cases z) e1 h4⟩
          | lck t ks =>
            have e2 : (mapO (fun kv : A × A => (frz s p n kv.2).map fun v => (kv.1, v)) ks).map (A.dct t) = some b := e'
            obtain ⟨bs, e1, rfl⟩ := Option.map_eq_some_iff.mp e2
            cases t with
            | false =>
              obtain ⟨od, vs, h3, h4⟩ := hcr
              simp only [VR]
              exact ⟨q, vs, rfl, .inr ⟨od, h3⟩, qt, zz q qz, ks_ok ks bs vs (fun z => by cases z) e1 h4⟩
            | true =>
              obtain ⟨od, vs, h3, h4⟩ := hcr
              simp only [VR]
              exact ⟨q, vs, rfl, .inr ⟨od, h3⟩, qt, zz q qz, kt_ok ks bs vs (fun z => by cases z) e1 h4⟩
          | ins c fs => cases e'
/-- low values stay what they are -/
theorem zx_not' {q : Addr} (hZ : ∀ q ∈ Zx, q ∈ Z ∨ q ∈ μ.drop p) (h1 : q ∉ μ) (h2 : q ∉ Z) : q ∉ Zx := fun z => by
  rcases hZ q z with h | h
  · exact h2 h
  · exact h1 (List.mem_of_mem_drop h)
mutual
theorem low_st (hZ : ∀ q ∈ Zx, q ∈ Z ∨ q ∈ μ.drop p) : ∀ (a : A) (v : V), lowA p a = true → VR N.K N.fa Z μ H a v → VR N.K N.fa Zx (μ.take p) H a v
  | .non, v, _, r => by simpa [VR] using r
  | .bl b, v, _, r => by simpa [VR] using r
  | .int i, v, _, r => by simpa [VR] using r
  | .str x, v, _, r => by simpa [VR] using r
  | .fn f, v, _, r => by simpa [VR] using r
  | .ctp as, v, _, r => by simpa [VR] using r
  | .tup as, v, hl, r => by
    simp only [VR] at r ⊢
    obtain ⟨q, vs, rfl, h1, h2⟩ := r
    exact ⟨q, vs, rfl, h1, lows_st hZ as vs hl h2⟩
  | .lst as, v, hl, r => by
    simp only [VR] at r ⊢
    obtain ⟨q, vs, rfl, h1, h2⟩ := r
    refine ⟨q, vs, rfl, ?_, lows_st hZ as vs hl h2⟩
    rcases h1 with ⟨h1, h3, h4⟩ | h1
    · exact .inl ⟨h1, take_sub h3, zx_not' hZ h3 h4⟩
    · exact .inr h1
  | .dct false ks, v, hl, r => by
    simp only [VR] at r ⊢
    obtain ⟨q, vs, rfl, h1, h3, h4, h2⟩ := r
    exact ⟨q, vs, rfl, h1, take_sub h3, zx_not' hZ h3 h4, lowk_st hZ ks vs hl h2⟩
  | .dct true ks, v, hl, r => by
    simp only [VR] at r ⊢
    obtain ⟨q, vs, rfl, h1, h3, h4, h2⟩ := r
    exact ⟨q, vs, rfl, h1, take_sub h3, zx_not' hZ h3 h4, lowt_st hZ ks vs hl h2⟩
  | .ref m, v, hl, r => by
    simp only [VR] at r ⊢
    obtain ⟨q, rfl, hq⟩ := r
    exact ⟨q, rfl, take_at hq (of_decide_eq_true hl)⟩
theorem lows_st (hZ : ∀ q ∈ Zx, q ∈ Z ∨ q ∈ μ.drop p) : ∀ (as : List A) (vs : List V), lowAs p as = true → VRs N.K N.fa Z μ H as vs → VRs N.K N.fa Zx (μ.take p) H as vs
  | [], vs, _, r => by simpa [VRs] using r
  | a :: as, vs, hl, r => by
    have hl' : lowA p a = true ∧ lowAs p as = true := Bool.and_eq_true_iff.mp hl
    simp only [VRs] at r ⊢
    obtain ⟨v, w, rfl, r1, r2⟩ := r
    exact ⟨v, w, rfl, low_st hZ a v hl'.1 r1, lows_st hZ as w hl'.2 r2⟩
theorem lowk_st (hZ : ∀ q ∈ Zx, q ∈ Z ∨ q ∈ μ.drop p) : ∀ (as : List (A × A)) (vs : List (Key × V)), lowKs p as = true → VRk N.K N.fa Z μ H as vs → VRk N.K N.fa Zx (μ.take p) H as vs
  | [], vs, _, r => by simpa [VRk] using r
  | (k, a) :: as, vs, hl, r => by
    have hl' : (lowA p k && lowA p a) = true ∧ lowKs p as = true := Bool.and_eq_true_iff.mp hl
    simp only [VRk] at r ⊢
    obtain ⟨q, v, w, rfl, r0, r1, r2⟩ := r
    exact ⟨q, v, w, rfl, r0, low_st hZ a v (Bool.and_eq_true_iff.mp hl'.1).2 r1, lowk_st hZ as w hl'.2 r2⟩
theorem lowt_st (hZ : ∀ q ∈ Zx, q ∈ Z ∨ q ∈ μ.drop p) : ∀ (as : List (A × A)) (vs : List (List Key × V)), lowKs p as = true → VRt N.K N.fa Z μ H as vs → VRt N.K N.fa Zx (μ.take p) H as vs
  | [], vs, _, r => by simpa [VRt] using r
  | (k, a) :: as, vs, hl, r => by
    have hl' : (lowA p k && lowA p a) = true ∧ lowKs p as = true := Bool.and_eq_true_iff.mp hl
    simp only [VRt] at r ⊢
    obtain ⟨q, v, w, rfl, r0, r1, r2⟩ := r
    exact ⟨q, v, w, rfl, r0, low_st hZ a v (Bool.and_eq_true_iff.mp hl'.1).2 r1, lowt_st hZ as w hl'.2 r2⟩
end
theorem lowf_st (hZ : ∀ q ∈ Zx, q ∈ Z ∨ q ∈ μ.drop p) : ∀ (as : List (String × A)) (vs : List (Str × V)), (as.all fun kv => lowA p kv.2) = true → VRf N.K N.fa Z μ H as vs → VRf N.K N.fa Zx (μ.take p) H as vs
  | [], vs, _, r => by simpa [VRf] using r
  | (k, a) :: as, vs, hl, r => by
    rw [List.all_cons, Bool.and_eq_true] at hl
    simp only [VRf] at r ⊢
    obtain ⟨v, w, rfl, r1, r2⟩ := r
    exact ⟨v, w, rfl, low_st hZ a v hl.1 r1, lowf_st hZ as w hl.2 r2⟩
theorem lowC_st (hZ : ∀ q ∈ Zx, q ∈ Z ∨ q ∈ μ.drop p) {q : Addr} {c : Cell} (hl : lowC p c = true) (r : CR N.K N.fa N.cv Z μ H q c) : CR N.K N.fa N.cv Zx (μ.take p) H q c := by
  cases c with
  | lst as => obtain ⟨vs, h1, h2⟩ := r; exact ⟨vs, h1, lows_st hZ as vs (by rw [lowAs_all]; exact hl) h2⟩
  | dct t ks => cases t with
    | false => obtain ⟨vs, h1, h2⟩ := r; exact ⟨vs, h1, lowk_st hZ ks vs (by rw [lowKs_all]; exact hl) h2⟩
    | true => obtain ⟨vs, h1, h2⟩ := r; exact ⟨vs, h1, lowt_st hZ ks vs (by rw [lowKs_all]; exact hl) h2⟩
  | lck t ks => cases t with
    | false => obtain ⟨od, vs, h1, h2⟩ := r; exact ⟨od, vs, h1, lowk_st hZ ks vs (by rw [lowKs_all]; exact hl) h2⟩
    | true => obtain ⟨od, vs, h1, h2⟩ := r; exact ⟨od, vs, h1, lowt_st hZ ks vs (by rw [lowKs_all]; exact hl) h2⟩
  | ins c fs => obtain ⟨C, dx, vs, h0, h1, h2, h3⟩ := r; exact ⟨C, dx, vs, h0, h1, lowf_st hZ fs vs hl h2, h3⟩
/-- the part of the store that is seen -/
theorem SR.part (S : SR N.K N.fa N.cv Z μ s H) (hZ : ∀ q ∈ Zx, q ∈ Z ∨ q ∈ μ.drop p) (hl : (s.take p).all (lowC p) = true) : SR N.K N.fa N.cv Zx (μ.take p) (s.take p) H := by
  refine ⟨S.nd.sublist (List.take_sublist p μ), by simp [S.len], fun n c hc => ?_, fun q hq => ?_, fun q hq z => ?_⟩
  · have hn : n < p := by
      have := (List.getElem?_eq_some_iff.mp hc).1
      simp at this; omega
    have hm : c ∈ s.take p := List.mem_of_getElem? hc
    rw [List.getElem?_take_of_lt hn] at hc
    obtain ⟨q, h1, h2⟩ := S.cell n c hc
    exact ⟨q, take_at h1 hn, lowC_st hZ (List.all_eq_true.mp hl c hm) h2⟩
  · rcases hZ q hq with h | h
    · exact S.res q h
    · exact S.tracked (List.mem_of_mem_drop h)
  · rcases hZ q z with h | h
    · exact S.apart q (List.mem_of_mem_take hq) h
    · have nd := S.nd
      rw [← List.take_append_drop p μ, List.nodup_append] at nd
      exact nd.2.2 q hq q h rfl
/-- back to the whole -/
theorem up_st (h1 : ∀ q ∈ Z, q ∈ Zx) (h2 : ∀ q ∈ μ.drop p, q ∈ Zx) : Stay (K := N.K) Zx (μ.take p) H Z μ H where
  tup := fun _ _ h => h
  lst := fun q vs k => by
    rcases k with ⟨k1, k2, k3⟩ | k
    · refine .inl ⟨k1, fun z => ?_, fun z => k3 (h1 q z)⟩
      rw [← List.take_append_drop p μ] at z
      rcases List.mem_append.mp z with z | z
      · exact k2 z
      · exact k3 (h2 q z)
    · exact .inr k
  dk := fun q kvs k1 k2 k3 => ⟨k1, fun z => by
    rw [← List.take_append_drop p μ] at z
    rcases List.mem_append.mp z with z | z
    · exact k2 z
    · exact k3 (h2 q z), fun z => k3 (h1 q z)⟩
  dt := fun q kvs k1 k2 k3 => ⟨k1, fun z => by
    rw [← List.take_append_drop p μ] at z
    rcases List.mem_append.mp z with z | z
    · exact k2 z
    · exact k3 (h2 q z), fun z => k3 (h1 q z)⟩
  at_ := fun n q h => by
    have hn : n < p := by
      have := (List.getElem?_eq_some_iff.mp h).1
      simp at this; omega
    rwa [List.getElem?_take_of_lt hn] at h
  xd := fun q fs k1 k2 k3 => ⟨k1, fun z => by
    rw [← List.take_append_drop p μ] at z
    rcases List.mem_append.mp z with z | z
    · exact k2 z
    · exact k3 (h2 q z), fun z => k3 (h1 q z)⟩
theorem flat_any {Z1 Z2 μ1 μ2 : List Addr} {H1 H2 : Hp} {a : A} {v : V} (h : flat a = true) (r : VR N.K N.fa Z1 μ1 H1 a v) : VR N.K N.fa Z2 μ2 H2 a v := by
  cases a <;> first | (simp only [VR] at r ⊢; exact r) | cases h
theorem flats_any {H1 : Hp} {Z1 μ1 : List Addr} (hpre : μ1.take p = μ.take p) : ∀ (as : List A) (vs : List V), (as.all fun a => flat a || (match a with | .ref n => decide (n < p) | _ => false)) = true → VRs N.K N.fa Z1 μ1 H1 as vs → VRs N.K N.fa Z μ H1 as vs
  | [], vs, _, r => by simpa [VRs] using r
  | a :: as, vs, hl, r => by
    rw [List.all_cons, Bool.and_eq_true] at hl
    simp only [VRs] at r ⊢
    obtain ⟨v, w, rfl, r1, r2⟩ := r
    refine ⟨v, w, rfl, ?_, flats_any hpre as w hl.2 r2⟩
    rcases Bool.or_eq_true_iff.mp hl.1 with h | h
    · exact flat_any h r1
    · cases a <;> first | cases h | skip
      rename_i n
      have hn : n < p := of_decide_eq_true h
      simp only [VR] at r1 ⊢
      obtain ⟨q, rfl, hq⟩ := r1
      refine ⟨q, rfl, ?_⟩
      have := take_at (p := p) hq hn
      rw [hpre, List.getElem?_take_of_lt hn] at this
      exact this
theorem cell_kd (S : SR N.K N.fa N.cv Z μ s H) {q : Addr} (hq : q ∈ μ) : ∃ o, H q = some o ∧ Kd o ≠ 5 := by
  obtain ⟨n, hn, e⟩ := List.mem_iff_getElem.mp hq
  have hs : n < s.length := by rw [← S.len]; exact hn
  obtain ⟨q', h1, c⟩ := S.cell n s[n] (List.getElem?_eq_getElem hs)
  have : q' = q := by rw [List.getElem?_eq_getElem hn] at h1; rw [← e]; exact (Option.some.inj h1).symm
  subst this
  cases hc : s[n] with
  | lst as => rw [hc] at c; obtain ⟨vs, h, _⟩ := c; exact ⟨_, h, by simp [Kd]⟩
  | dct t ks =>
    rw [hc] at c
    cases t with
    | false => obtain ⟨vs, h, _⟩ := c; exact ⟨_, h, by simp [Kd]⟩
    | true => obtain ⟨vs, h, _⟩ := c; exact ⟨_, h, by simp [Kd]⟩
  | lck t ks =>
    rw [hc] at c
    cases t with
    | false => obtain ⟨od, vs, h, _⟩ := c; exact ⟨_, h, by simp [Kd]⟩
    | true => obtain ⟨od, vs, h, _⟩ := c; exact ⟨_, h, by simp [Kd]⟩
  | ins c' fs => rw [hc] at c; obtain ⟨C, dx, vs, _, h, _⟩ := c; exact ⟨_, h, by simp [Kd]⟩
/-- a call of a def that sees the first p things -/
theorem pre_good {as bs : List A} {vs : List V} {r0 : R A} {Q : VK} (S : SR N.K N.fa N.cv Z μ s H) (hp : p ≤ s.length) (hl : (s.take p).all (lowC p) = true) (r : VRs N.K N.fa Z μ H as vs) (hb : mapO (frz s p 60) as = some bs)
    (G : GoodE N W Z μ H σ (back p (as.all (lowA p)) s r0) Q) : ∃ Zx, SR N.K N.fa N.cv Zx (μ.take p) (s.take p) H ∧ VRs N.K N.fa Zx (μ.take p) H bs vs ∧ GoodE N W Zx (μ.take p) H σ r0 Q := by
  generalize hk : as.all (lowA p) = kept at G
  refine ⟨if kept = true then μ.drop p ++ Z else Z, ?_⟩
  generalize hZx : (if kept = true then μ.drop p ++ Z else Z) = Zx
  have hZ : ∀ q ∈ Zx, q ∈ Z ∨ (q ∈ μ.drop p ∧ kept = true) := fun q hq => by
    rw [← hZx] at hq
    cases kept with
    | true =>
      rw [if_pos rfl] at hq
      rcases List.mem_append.mp hq with h | h
      · exact .inr ⟨h, rfl⟩
      · exact .inl h
    | false => rw [if_neg (by decide)] at hq; exact .inl hq
  have hZ2 : ∀ q ∈ Zx, q ∈ Z ∨ q ∈ μ.drop p := fun q hq => (hZ q hq).imp id fun h => h.1
  have hZ3 : ∀ q ∈ Z, q ∈ Zx := fun q hq => by
    rw [← hZx]
    cases kept with
    | true => rw [if_pos rfl]; exact List.mem_append_right _ hq
    | false => rw [if_neg (by decide)]; exact hq
  have hZ4 : kept = true → ∀ q ∈ μ.drop p, q ∈ Zx := fun h q hq => by
    rw [← hZx, if_pos h]; exact List.mem_append_left _ hq
  have S' := S.part (p := p) hZ2 hl
  refine ⟨S', ?_, ?_⟩
  · -- the arguments
    have lists : ∀ (as bs : List A) (vs : List V), (kept = true → as.all (lowA p) = true) → mapO (frz s p 60) as = some bs → VRs N.K N.fa Z μ H as vs → VRs N.K N.fa Zx (μ.take p) H bs vs := by
      intro as
      induction as with
      | nil => intro bs vs _ e r; cases e; simpa [VRs] using r
      | cons a as ih2 =>
        intro bs vs hk e r
        rw [mapO_cons] at e
        split at e
        · rename_i x xs e1 e2
          cases e
          simp only [VRs] at r ⊢
          obtain ⟨v, w, rfl, r1, r2⟩ := r
          exact ⟨v, w, rfl, frz_ok S hZ 60 a x v (fun q => by have := hk q; simp at this; exact this.1) e1 r1, ih2 xs w (fun q => by have := hk q; simp at this; simpa using this.2) e2 r2⟩
        · cases e
    exact lists as bs vs (fun h => hk.trans h) hb r
  · have mup : p ≤ μ.length := by rw [S.len]; exact hp
    -- what is seen of the end
    have ext : ∀ {μ1 H1}, Ext (μ.take p) H μ1 H1 → Ext μ H μ H1 := fun {μ1 H1} e => ⟨⟨[], by simp, by simp⟩, fun q o hq hn => e.keep q o hq (take_sub hn), e.fz, e.kd⟩
    have tk : ∀ {μ1 H1}, Ext (μ.take p) H μ1 H1 → μ1.take p = μ.take p := fun {μ1 H1} e => by
      obtain ⟨⟨ν, rfl, _⟩, _, _⟩ := e
      rw [List.take_append_of_le_length (by simp; omega), List.take_take, Nat.min_self]
    have store : ∀ {μ1 H1 s1}, Ext (μ.take p) H μ1 H1 → SR N.K N.fa N.cv Zx μ1 s1 H1 → (s1.take p).all (lowC p) = true → p ≤ s1.length → (kept = true ∨ (s1.take p).all (flatC p) = true) → SR N.K N.fa N.cv Z μ (s1.take p ++ s.drop p) H1 := by
      intro μ1 H1 s1 e S1 h1 h2 h3
      have e' := ext e
      have st : Stay (K := N.K) Z μ H Z μ H1 := e'.stay S.noTup
      refine ⟨S.nd, by simp [S.len]; omega, fun n c hc => ?_, fun q hq => e'.thr q (S.res q hq), S.apart⟩
      by_cases hn : n < p
      · rw [List.getElem?_append_left (by simp; omega)] at hc
        have hm := List.mem_of_getElem? hc
        rw [List.getElem?_take_of_lt hn] at hc
        obtain ⟨q, k1, k2⟩ := S1.cell n c hc
        have kq : μ[n]? = some q := by
          have := take_at (p := p) k1 hn
          rw [tk e, List.getElem?_take_of_lt hn] at this
          exact this
        refine ⟨q, kq, ?_⟩
        rcases h3 with h3 | h3
        · have k3 : CR N.K N.fa N.cv Zx (μ1.take p) H1 q c := lowC_st (Z := Zx) (fun q h => .inl h) (List.all_eq_true.mp h1 c hm) k2
          rw [tk e] at k3
          exact CR.stay (up_st hZ3 (hZ4 h3)) (fun _ h => h) k3
        · have hf := List.all_eq_true.mp h3 c hm
          cases c with
          | lst bs => obtain ⟨ws, w1, w2⟩ := k2; exact ⟨ws, w1, flats_any (tk e) bs ws hf w2⟩
          | dct t ks => cases hf
          | lck t ks => cases hf
          | ins c fs => cases hf
      · have hlen : (s1.take p).length = p := by simp; omega
        rw [List.getElem?_append_right (by omega), hlen, List.getElem?_drop] at hc
        have hn' : p + (n - p) = n := by omega
        rw [hn'] at hc
        obtain ⟨q, k1, k2⟩ := S.cell n c hc
        refine ⟨q, k1, CR.stay st (fun o ho => e.keep q o ho (take_not S.nd k1 hn)) k2⟩
    cases r0 with
    | bad => exact G
    | exc x s1 =>
      intro μ1 H1 cls d e S1 x1
      simp only [back] at G
      obtain ⟨hc, G⟩ := iteR G
      obtain ⟨c1, c2, c3, c4⟩ := hc
      refine G μ H1 cls d (ext e) (store e S1 c1 c2 c4) ⟨x1.1, ?_⟩
      have x2 := x1.2
      cases ha : N.xa x.c with
      | none => rw [ha] at x2; exact x2
      | some f =>
        rw [ha] at x2
        obtain ⟨a, as', dd, fs, v, k1, k2, k3, n1, n2, k4, k5⟩ := x2
        refine ⟨a, as', dd, fs, v, k1, k2, k3, fun z => ?_, fun z => n2 (hZ3 dd z), k4, flat_any ?_ k5⟩
        · obtain ⟨o, ho, hk⟩ := cell_kd S z
          obtain ⟨o', h1, h2⟩ := (ext e).kd dd o ho
          rw [k3] at h1
          cases h1
          exact hk h2.symm
        rw [k1, List.all_cons, Bool.and_eq_true] at c3
        exact c3.1
    | ok a s1 =>
      intro μ1 H1 v e S1 r1
      simp only [back] at G
      cases hf : frz s1 p 60 a with
      | none => rw [hf] at G; exact False.elim G
      | some b =>
        rw [hf] at G
        obtain ⟨hc, G⟩ := iteR G
        obtain ⟨c1, c2, c3⟩ := hc
        have rb : VR N.K N.fa Zx (μ1.take p) H1 b v := frz_ok (kept := false) S1 (fun q h => .inl h) 60 a b v (fun z => by cases z) hf r1
        rw [tk e] at rb
        refine G μ H1 v (ext e) (store e S1 c1 c2 (c3.imp id fun h => h.2)) ?_
        rcases c3 with h | h
        · exact VR.stay (up_st hZ3 (hZ4 h)) b v rb
        · exact flat_any h.1 rb
end
end Py

set_option autoImplicit false
set_option linter.all false
set_option Elab.async false
set_option maxRecDepth 100000
set_option maxHeartbeats 4000000
/-! PyS12: every def of the text keeps the promise that the evaluator gives. -/
namespace Py
open PySem
open L2 (V Hp HO Rd SqL SqT Cx Inv PE PT PA PS PSs Ends VK XK WX St Room upd upd_same upd_ne ne_of_none Key kV RelV Vals FnOk Binds Sp Takes)
/-- a def of the text and its syntax -/
def FnX (N : Nm) (t : Tb) (c0 : Ck) (f : Nat) (fa : Addr) (FD : FuncData) (ps : List Str) : Prop := ∃ (fd : Fn) (oc : Value) (od : Option Addr) (osl : Array (Option Value)) (name qual : Str) (params : Arguments) (body : List Stmt) (scope : Scope) (dV kV doc pm : Value) (an : Option Addr) (cdv ct : Value) (ns : List Str),
  FD = PySem.W.fnOf name qual params body scope dV kV doc pm an cdv ct ∧ t.fns f = some fd ∧ N.fa f = some fa ∧ N.K.lookup fa = some ⟨oc, od, .func FD, osl⟩ ∧ PySem.W.codeIn N.K cdv qual = true ∧ L2.FnScope ns ps scope ∧ ps.length = fd.np ∧ ns.length = fd.nl ∧
  chkSs fd.body { c0 with sc := scope, ns := ns, top := true } body = true ∧ Binds N.K FD ps []
def FnD (N : Nm) (t : Tb) (c0 : Ck) (f : Nat) : Prop := ∃ fa FD ps, FnX N t c0 f fa FD ps
structure Lnk (N : Nm) (t : Tb) (c0 : Ck) (mg : Str → Option Value) : Prop where
  fns : ∀ f x, c0.fn f = some x → ∃ a, mg x = some (.ref a) ∧ N.fa f = some a ∧ PySem.W.keepIn N.K (.ref a) = true ∧ FnD N t c0 f
  gls : ∀ g x, c0.gn g = some x → ∃ a v u, t.glb g = some a ∧ mg x = some u ∧ RelV v u ∧ ∀ Z μ H, VR N.K N.fa Z μ H a v
  mks : ∀ kk x, c0.cn kk = some x → ∃ f C a, t.init kk = some f ∧ mg x = some (.ref C) ∧ N.cv kk = some (.ref C) ∧ N.fa f = some a ∧ L2.Mk N.K C a ∧ L2.Cls N.K C ∧ FnD N t c0 f
  mts : ∀ c m f C, t.meth c m = some f → N.cv c = some (.ref C) → ∃ a, N.fa f = some a ∧ L2.Meth N.K C (Str.ofString m) a ∧ FnD N t c0 f
  blt : ∀ n ∈ bltL, mg (Str.ofString n) = none
  flds : ∀ f ∈ c0.flds, ∀ cc C, N.cv cc = some (.ref C) → L2.NoAttr N.K C (Str.ofString f)
  xs : N.xs = none
  hot : c0.hot = false
  ex : c0.ex = none
  xok : XOk N c0.xn c0.xr t.sub t.xat mg
section
variable {N : Nm} {t : Tb} {c0 : Ck} {mg : Str → Option Value} {P : Program} {w : World} {base : Heap}
def FO (N : Nm) (t : Tb) (mg : Str → Option Value) (P : Program) (w : World) (base : Heap) (k f : Nat) : Prop :=
  ∃ fa fd ps, N.fa f = some fa ∧ FnOk P w N.K mg base (L2.CX P w) (2 * k + 1) fa fd ps (spF N (callF t k f)) ∧ Binds N.K fd ps []
theorem locs_LR (hx : N.xs = none) {Z μ : List Addr} {H : Hp} {as : List A} {vs : List V} {ns : List Str} {np nl : Nat} (r : VRs N.K N.fa Z μ H as vs) (h1 : as.length = np) (h2 : ns.length = nl) : LR N Z μ H (locs np nl as) (L2.start ns vs) := by
  have hl := r.length
  refine ⟨by simp [locs, L2.start]; omega, fun i a h => ?_, by unfold XF; rw [hx]; trivial⟩
  by_cases hi : i < as.length
  · have h' : as[i]? = some a := by
      unfold locs at h
      rw [List.getElem?_append_left (by simpa using hi), List.getElem?_map] at h
      obtain ⟨b, e, e2⟩ := Option.map_eq_some_iff.mp h
      cases e2
      exact e
    obtain ⟨v, k1, k2⟩ := r.get h'
    refine ⟨v, ?_, k2⟩
    unfold L2.start
    rw [List.getElem?_append_left (by simp; omega), List.getElem?_map, k1]
    rfl
  · exfalso
    unfold locs at h
    rw [List.getElem?_append_right (by simpa using hi)] at h
    have := List.getElem?_eq_some_iff.mp h
    obtain ⟨_, e⟩ := this
    simp at e
/-- a body that runs -/
theorem run_ok (hx : N.xs = none) {Z μ : List Addr} {H : Hp} {s : Sto} {σ : St} {W : WX} {Γ : Env} {fd : Fn} {as : List A} {vs : List V} {ns : List Str} {Q : VK} (hW : ∀ c d σ σ' H, W c d σ H → W c d σ' H) (S : SR N.K N.fa N.cv Z μ s H) (r : VRs N.K N.fa Z μ H as vs) (h2 : ns.length = fd.nl)
    (G : GoodE N W Z μ H σ (runF Γ fd as s) Q) : as.length = fd.np ∧ tSs N Γ W fd.body { nx := fun _ H' => Q .non H', rt := Q } (L2.start ns vs) H := by
  unfold runF at G
  by_cases hn : as.length = fd.np
  · rw [if_pos hn] at G
    refine ⟨hn, locs fd.np fd.nl as, s, Z, μ, S, locs_LR hx r hn h2, ?_⟩
    revert G
    cases evSs Γ fd.body (locs fd.np fd.nl as) s with
    | nx l s' => exact fun G μ' H' σ' e S' L' => G μ' H' .non e S' (by simp [VR])
    | brk l s' => exact fun G => False.elim G
    | cnt l s' => exact fun G => False.elim G
    | ret a s' => exact fun G => G
    | exc x l s' => exact fun G μ' H' σ' c d e S' L' x' => hW c d σ σ' H' (G μ' H' c d e S' x')
    | bad => exact fun G => False.elim G
  · rw [if_neg hn] at G; exact False.elim G
theorem fo_x (L : Lnk N t c0 mg) : ∀ (k f : Nat) (fa : Addr) (FD : FuncData) (ps : List Str), FnX N t c0 f fa FD ps → FnOk P w N.K mg base (L2.CX P w) (2 * k + 1) fa FD ps (spF N (callF t k f))
  | 0, f, fa, FD, ps, ⟨fd, oc, od, osl, name, qual, params, body, scope, dV, kV, doc, pm, an, cdv, ct, ns, h0, h1, h2, h3, h4, h5, h6, h7, h8, h9⟩ => by
    subst h0
    have no : ∀ vs H Q E, ¬ spF N (callF t 0 f) vs H Q E := fun vs H Q E ⟨as, s, Z, μ, S, r, G⟩ => G
    exact ⟨fun vs H Q E h => (no vs H Q E h).elim, fun A outer s H args us vs Q E hr e0 hb hv h => (no vs H Q E h).elim⟩
  | k + 1, f, fa, FD, ps, ⟨fd, oc, od, osl, name, qual, params, body, scope, dV, kV, doc, pm, an, cdv, ct, ns, h0, h1, h2, h3, h4, h5, h6, h7, h8, h9⟩ => by
    subst h0
    have ih : ∀ f, FnD N t c0 f → FO N t mg P w base k f := fun f ⟨fa, FD, ps, x⟩ => by
      have F := fo_x L k f fa FD ps x
      obtain ⟨_, _, _, _, _, _, _, _, _, _, _, _, _, _, _, _, _, _, _, k2, _, _, _, _, _, _, k9⟩ := x
      exact ⟨fa, FD, ps, k2, F, k9⟩
    -- what the body is given
    have key : ∀ vs H (Q : VK) (E : XK), spF N (callF t (k + 1) f) vs H Q E → vs.length = ps.length ∧ tSs N (t.env (callF t k)) (fun c d _ H => E c d H) fd.body { nx := fun _ H' => Q .non H', rt := Q } (L2.start ns vs) H := by
      rintro vs H Q E ⟨as, s, Z, μ, S, r, G⟩
      simp only [callF, h1] at G
      cases hp : fd.pre with
      | none =>
        rw [hp] at G
        obtain ⟨q1, q2⟩ := run_ok L.xs (W := fun c d _ H => E c d H) (σ := []) (fun _ _ _ _ _ h => h) S r h7 G
        exact ⟨by rw [r.length, q1, h6], q2⟩
      | some p =>
        rw [hp] at G
        simp only at G
        cases hb : mapO (frz s p 60) as with
        | none => rw [hb] at G; exact False.elim G
        | some bs =>
          rw [hb] at G
          obtain ⟨⟨c1, c2⟩, G⟩ := iteR G
          obtain ⟨Zx, S', r', G'⟩ := pre_good S c2 c1 r hb G
          obtain ⟨q1, q2⟩ := run_ok L.xs (W := fun c d _ H => E c d H) (σ := []) (fun _ _ _ _ _ h => h) S' r' h7 G'
          exact ⟨by rw [r'.length, q1, h6], q2⟩
    have lev : 2 * (k + 1) + 1 = ((2 * k + 1) + 1) + 1 := by omega
    rw [lev]
    refine L2.fn_of h3 h4 h5 (fun vs H Q E h => (key vs H Q E h).1) fun A outer s H vs Q E hr h => ?_
    refine ⟨tSs N (t.env (callF t k)) (fun c d _ H => E c d H) fd.body, ?_, (key vs H Q E h).2⟩
    refine sndSs (k := 2 * k + 1) fd.body _ _ { c0 with sc := scope, ns := ns, top := true } body (fun c d _ H => E c d H) _ h8 ⟨⟨rfl, rfl, fun _ => rfl, fun _ h => h, fun _ h => h, fun _ h => ⟨h, rfl⟩, fun _ h => .inl h, h5.nd, fun _ => rfl, fun _ => hr, ?un, by omega, fun _ => L.xs, fun i _ x hx => (by rw [L.xs] at hx; cases hx), fun i hi => ?hotx, L.xok, L2.takes_of rfl rfl rfl rfl, L.blt, ?_, L.gls, ?_, ?_, L.flds⟩, L2.passes_of rfl, h5.kind, rfl, fun _ => ⟨rfl, rfl⟩⟩
    case un => have := hr.un; show (A.deeper (PyProof.Rows.envOfC qual scope s.heap.objs.size fa cdv)).units + 200 < cLine; omega
    case hotx => exact absurd (show c0.ex = some i from hi) (by rw [L.ex]; simp)
    · intro f' x hx
      obtain ⟨a, m1, m2, m3, m4⟩ := L.fns f' x hx
      obtain ⟨fa', fd', ps', k1, k2, k3⟩ := ih f' m4
      rw [m2] at k1
      cases k1
      exact ⟨a, fd', ps', m1, m2, m3, k2, k3⟩
    · intro kk x hx
      obtain ⟨f', C, a, m0, m1, m2, m3, m4, m5, m6⟩ := L.mks kk x hx
      obtain ⟨fa', fd', ps', k1, k2, k3⟩ := ih f' m6
      rw [m3] at k1
      cases k1
      exact ⟨f', C, a, fd', ps', m0, m1, m2, m4, m5, k2, k3⟩
    · intro cc m f' C hm hc
      obtain ⟨a, m1, m2, m3⟩ := L.mts cc m f' C hm hc
      obtain ⟨fa', fd', ps', k1, k2, k3⟩ := ih f' m3
      rw [m1] at k1
      cases k1
      exact ⟨a, fd', ps', m2, k2, k3⟩
end
end Py

set_option autoImplicit false
set_option linter.all false
set_option Elab.async false
set_option maxRecDepth 100000
set_option maxHeartbeats 4000000
/-! PyN: the tables of a text; what a text holds. -/
namespace Py
open PySem
/-- an exception: number, name, own __init__ (with an attribute, or without) -/
structure XT where
  c : Nat
  x : Str
  ini : Option (Option String)
def lookX (xs : List XT) (c : Nat) : Option XT := xs.find? fun e => e.c == c
def xnO (xs : List XT) (c : Nat) : Option Str := if c = 0 then some (Str.ofString "ValueError") else (lookX xs c).map (·.x)
def xrO (xs : List XT) (c : Nat) : Option Nat := (lookX xs c).bind fun e => e.ini.map fun o => if o.isSome then 1 else 0
def xaO (xs : List XT) (c : Nat) : Option String := (lookX xs c).bind fun e => e.ini.bind id
def xkO (xs : List XT) (c : Nat) : Bool := (lookX xs c).isSome
theorem lookX_ok {xs : List XT} {c : Nat} {e : XT} (h : lookX xs c = some e) : e ∈ xs ∧ e.c = c := ⟨List.mem_of_find?_eq_some h, by have := List.find?_some h; simpa using this⟩
/-- the tables -/
structure LT where
  fns : List (Nat × Fn)
  at_ : List (Nat × (Str × Option Str))
  glo : List (Nat × Str)
  glb : List (Nat × (Str × A))
  cls : List (Nat × Str)
  ini : List (Nat × Nat)
  met : List (Nat × List (String × Nat))
  flds : List String
  xts : List XT
  anc : List (Nat × List Nat)
def LT.tb (t : LT) : Tb where
  fns := fun n => t.fns.lookup n
  glb := fun n => (t.glb.lookup n).map (·.2)
  meth := fun c m => ((t.met.lookup c).getD []).lookup m
  init := fun c => t.ini.lookup c
  sub := fun c d => ((t.anc.lookup c).getD []).contains d
  xat := fun c f => decide (xaO t.xts c = some f)
abbrev a1 (f : Nat) (x : String) : Nat × (Str × Option Str) := (f, (Str.ofString x, none))
abbrev a2 (f : Nat) (x m : String) : Nat × (Str × Option Str) := (f, (Str.ofString x, some (Str.ofString m)))
abbrev g1 (f : Nat) (x : String) : Nat × Str := (f, Str.ofString x)
abbrev g3 (g : Nat) (x : String) (a : A) : Nat × (Str × A) := (g, (Str.ofString x, a))
abbrev m1 (c : Nat) (l : List (String × Nat)) : Nat × List (String × Nat) := (c, l)
/-! what a text holds, for laws of the defs that many texts share -/
class HasF (t : Tb) (f : Nat) (d : outParam Fn) : Prop where
  h : t.fns f = some d
class HasG (t : Tb) (g : Nat) (a : outParam A) : Prop where
  h : t.glb g = some a
class HasI (t : Tb) (c : Nat) (f : outParam Nat) : Prop where
  h : t.init c = some f
class HasM (t : Tb) (c : Nat) (m : String) (f : outParam Nat) : Prop where
  h : t.meth c m = some f
class HasS (t : Tb) (c d : Nat) (b : outParam Bool) : Prop where
  h : t.sub c d = b
class HasX (t : Tb) (c : Nat) (f : String) : Prop where
  h : t.xat c f = true
@[simp] theorem hasF {t : Tb} {f : Nat} {d : Fn} [i : HasF t f d] : t.fns f = some d := i.h
@[simp] theorem hasG {t : Tb} {f : Nat} {d : A} [i : HasG t f d] : t.glb f = some d := i.h
@[simp] theorem hasI {t : Tb} {c f : Nat} [i : HasI t c f] : t.init c = some f := i.h
@[simp] theorem hasM {t : Tb} {c f : Nat} {m : String} [i : HasM t c m f] : t.meth c m = some f := i.h
@[simp] theorem hasS {t : Tb} {c d : Nat} {b : Bool} [i : HasS t c d b] : t.sub c d = b := i.h
@[simp] theorem hasX {t : Tb} {c : Nat} {f : String} [i : HasX t c f] : t.xat c f = true := i.h
end Py

set_option autoImplicit false
set_option linter.all false
set_option Elab.async false
set_option maxRecDepth 100000
set_option maxHeartbeats 4000000
/-! PyH: the head: from the row to the evaluator. -/
namespace Py
open PySem PySem.Spec PyProof.Rows
open L2 (FnOk Binds)
/-- a law by its written part -/
theorem walk_law {l : PySem.W.OpenLaw} {n k : Nat} {q : Program} {loose : List Str} {XP : (Str → Option Value) → Heap → Prop} {YP : World → Heap → Prop} {d : DefRec} {x : Str}
    (hn : l.most = some n) (hn2 : n ≤ sizeLine) (hdf : d.params.defaults = []) (hr : L2.Room k callerA)
    (F : ∀ (w : World) (mg : Str → Option Value) (fa : Addr) (h : Heap), YP w h → h.Ns mainGlobals mg → mg d.name = some (.ref fa) →
      ∃ (K : PySem.W.Frag) (fd : FuncData) (sp : L2.Sp), K.In h ∧ (∀ (s : Shared) (u : Value), BindsTo s fd ⟨[u], []⟩ [(x, u)]) ∧
        (∀ (H : L2.Hp) (a : Addr) (ns : List Int), ns.length ≤ n → LL K H a (ns.map L2.V.int) → sp [.ref a] H (fun v _ => v = .bl true) fun _ _ _ => False) ∧
        ∀ base : Heap, K.In base → base.Ns mainGlobals mg → L2.FnOk l.prog w K mg base (L2.CX l.prog w) k fa fd [x] sp) :
    PySem.W.WalkO q loose XP YP l.row.toRowW d [] (fun f vs => PySem.call f vs) := by
  refine Att.attach_call hn hdf fun w s₀ s₁ mg mb fa o pm cd doc a vs ns G Y ho hd hcd hmg hobj hints hlen hg => ?_
  obtain ⟨K, fd, sp, KX, hb, hsp, hF⟩ := F w mg fa _ Y G.T.g hmg
  refine L2.law_call KX G.T.g G.T.b G.T.builtins G.T.nolimit hg hobj hints (Nat.le_trans hlen hn2) hr hF hb (fun H hO hS => hsp H a ns hlen ?_) fun H e s' z => ?_
  · rcases hS with hS | ⟨o', its, m, h1, h2, h3, h4, h5, h6⟩
    · exact .inl hS
    · have e := KX a o' h1
      rw [hobj] at e
      obtain rfl := Option.some.inj e
      refine .inr ⟨its.toList, m, ?_, by simpa using h5, h6⟩
      rw [h1]
      congr 1
      simp only at h4 ⊢
      rw [h4]
  · obtain ⟨_, _, _, _, _, _, _, _, _, _, _, _, z⟩ := z
    exact z
theorem mkr_ok {K : PySem.W.Frag} {x : Str} (c : (He.Fa.mkr x).ok K = true) : L2.Mk K (He.ga K x) (He.ma K (He.ga K x) "__init__") := by
  obtain ⟨h1, h2⟩ := He.ba (show (PySem.W.makesIn K (He.ga K x) && (He.eqO (PySem.W.findIn K (.ref (He.ga K x)) "__init__") (some (some (.ref (He.ma K (He.ga K x) "__init__")))) && (PySem.W.isFn K (.ref (He.ma K (He.ga K x) "__init__")) && PySem.W.keepIn K (.ref (He.ga K x))))) = true from c)
  obtain ⟨h3, h4⟩ := He.ba h2
  obtain ⟨h5, h6⟩ := He.ba h4
  exact ⟨h1, He.eqO_ok h3, h5, h6⟩
theorem meth_ok {K : PySem.W.Frag} {x m : Str} (c : (He.Fa.meth x m).ok K = true) : L2.Meth K (He.ga K x) m (He.ma K (He.ga K x) m) := by
  obtain ⟨h1, h2⟩ := He.ba (show (He.eqO (PySem.W.findIn K (.ref (He.ga K x)) m) (some (some (.ref (He.ma K (He.ga K x) m)))) && (PySem.W.isFn K (.ref (He.ma K (He.ga K x) m)) && PySem.W.keepIn K (.ref (He.ma K (He.ga K x) m)))) = true from c)
  obtain ⟨h3, h4⟩ := He.ba h2
  exact ⟨He.eqO_ok h1, h3, h4⟩
theorem cls_ok {K : PySem.W.Frag} {x : Str} (c : (He.Fa.cls x).ok K = true) : L2.Cls K (He.ga K x) := by
  obtain ⟨h1, h2⟩ := He.ba (show (PySem.W.plainGet K (He.ga K x) Str.empty && (PySem.W.hasDictIn K (He.ga K x) && (PySem.W.plainOver K (He.ga K x) && He.eqO (PySem.W.findIn K (.ref (He.ga K x)) "__setattr__") (some (some (.builtin "object.__setattr__")))))) = true from c)
  obtain ⟨h3, h4⟩ := He.ba h2
  obtain ⟨h5, h6⟩ := He.ba h4
  exact ⟨h1, h3, h5, He.eqO_ok h6⟩
/-- the end: the evaluator says true -/
theorem law_end {N : Nm} {t : Tb} {c0 : Ck} {mg : Str → Option Value} {P : Program} {w : World} {h : Heap} {fa : Addr} {fd : FuncData} {x : Str} {f : Nat} (L : Lnk N t c0 mg) (X : FnX N t c0 f fa fd [x])
    (B : ∀ (s : Shared) (us : List Value), us.length = 1 → BindsTo s fd ⟨us, []⟩ ([x].zip us)) (KX : N.K.In h) (ev : ∀ ns : List Int, ns.length ≤ 63 → ∃ k s, k ≤ 100 ∧ callF t k f [.lst (ns.map .int)] [] = .ok (.bl true) s) :
    ∃ (K : PySem.W.Frag) (fd : FuncData) (sp : L2.Sp), K.In h ∧ (∀ (s : Shared) (u : Value), BindsTo s fd ⟨[u], []⟩ [(x, u)]) ∧
        (∀ (H : L2.Hp) (a : Addr) (ns : List Int), ns.length ≤ 63 → LL K H a (ns.map L2.V.int) → sp [.ref a] H (fun v _ => v = .bl true) fun _ _ _ => False) ∧
        ∀ base : Heap, K.In base → base.Ns mainGlobals mg → L2.FnOk P w K mg base (L2.CX P w) 201 fa fd [x] sp := by
  have one : ∀ {Z μ : List Addr} {H : L2.Hp} (ns : List Int), VRs N.K N.fa Z μ H (ns.map .int) (ns.map L2.V.int) := by
    intro Z μ H ns
    induction ns with
    | nil => simp [VRs]
    | cons n ns ih => simp only [List.map_cons, VRs, VR]; exact ⟨_, _, rfl, rfl, ih⟩
  refine ⟨N.K, fd, fun vs H Q E => ∃ k, k ≤ 100 ∧ spF N (callF t k f) vs H Q E, KX, fun s u => B s [u] rfl, fun H a ns hl hS => ?_, fun base _ _ => ?_⟩
  · obtain ⟨k, s, hk, e⟩ := ev ns hl
    refine ⟨k, hk, [.lst (ns.map .int)], [], [], [], ⟨List.nodup_nil, rfl, fun n c h => by simp at h, by simp, by simp⟩, VRs.one ?_, ?_⟩
    · simp only [VR]
      refine ⟨a, _, rfl, ?_, one ns⟩
      rcases hS with hS | hS
      · exact .inl ⟨hS, by simp, by simp⟩
      · exact .inr hS
    · rw [e]
      intro μ' H' b _ _ r
      simpa only [VR] using r
  · have F := fun k => fo_x (P := P) (w := w) (base := base) L k f fa fd [x] X
    refine ⟨fun vs H Q E ⟨k, _, q⟩ => (F k).len vs H Q E q, fun A outer s H args us vs Q E hr e0 hb hv ⟨k, hk, q⟩ => (F k).run A outer s H args us vs Q E (hr.mono (by omega)) e0 hb hv q⟩
theorem lookup_mem {α β : Type} [BEq α] [LawfulBEq α] {m : α} {b : β} : ∀ {l : List (α × β)}, l.lookup m = some b → (m, b) ∈ l
  | [], h => by simp at h
  | (k, c) :: r, h => by
    cases e : m == k with
    | true =>
      simp only [List.lookup_cons, e] at h
      cases h
      rw [eq_of_beq e]
      exact List.mem_cons_self ..
    | false =>
      simp only [List.lookup_cons, e] at h
      exact List.mem_cons_of_mem _ (lookup_mem h)
/-! ### a hook with more facts -/
section
variable {fa : List He.Fa} {fn : List He.DefD} {ex : List (PySem.W.Frag → Bool)} {K : PySem.W.Frag}
abbrev AlP : Type := He.AlD × Bool
def obsP (fa : List He.Fa) (fn : List He.DefD) (ex : List (PySem.W.Frag → Bool)) (K : PySem.W.Frag) : AlP := (He.obsD fa fn K, ex.all fun f => f K)
def valP (fn : List He.DefD) : AlP := (He.valD fn, true)
def SaysP (fa : List He.Fa) (fn : List He.DefD) (ex : List (PySem.W.Frag → Bool)) (K : PySem.W.Frag) : Prop := obsP fa fn ex K = valP fn
def obsPG (n : Nat) (fa : List He.Fa) (fn : List He.DefD) (ex : List (PySem.W.Frag → Bool)) (g : Addr → Option Obj) : AlP := obsP fa fn ex (He.frG g (cStatics :: He.asD g n))
def hookP (n : Nat) (fa : List He.Fa) (fn : List He.DefD) (ex : List (PySem.W.Frag → Bool)) : PySem.W.Hook where
  α := AlP
  obs := fun s => obsPG n fa fn ex s.heap.get?
  val := fun _ => valP fn
  says := fun _ h => ∃ K : PySem.W.Frag, K.In h ∧ SaysP fa fn ex K
  of := fun _ _ e => ⟨_, He.frG_in, e⟩
  keeps := fun _ _ _ ⟨K, hK, c⟩ k => ⟨K, PySem.W.Frag.In.keeps hK k, c⟩
theorem obsPG_eq {n : Nat} {g : Addr → Option Obj} {s : Shared} (h : ∀ a, g a = s.heap.get? a) : obsPG n fa fn ex g = (hookP n fa fn ex).obs s := by
  have e : g = s.heap.get? := funext h
  rw [e] <;> rfl
theorem SaysP.d (c : SaysP fa fn ex K) : He.SaysD fa fn K := congrArg (fun z : AlP => z.1) c
theorem SaysP.extra (c : SaysP fa fn ex K) (i : Nat) {f : PySem.W.Frag → Bool} (h : ex[i]? = some f := by rfl) : f K = true :=
  List.all_eq_true.mp (congrArg (fun z : AlP => z.2) c : (ex.all fun f => f K) = true) f (List.mem_of_getElem? h)
end
/-! ### the text's constants -/
/-- a tuple of ints and texts under the name x -/
def tupF (x : Str) (as : List A) (K : PySem.W.Frag) : Bool := match K.lookup (He.ga K x) with
  | some ⟨.type c, _, .seq its _, _⟩ => decide (c = "tuple") && (decide (its.size ≤ sizeLine) && relC as its.toList)
  | _ => false
where relC : List A → List Value → Bool
  | [], [] => true
  | .int i :: as, .int j _ :: us => decide (i = j) && relC as us
  | .str z :: as, .str y _ :: us => (decide (toS z = y) && decide (z.length ≤ 1000) && z.all fun c => decide (c < 0x110000)) && relC as us
  | _, _ => false
theorem relC_ok : ∀ {as : List A} {us : List Value}, tupF.relC as us = true → ∃ vs, CVs as vs ∧ L2.Vals vs us
  | [], [], _ => ⟨[], rfl, .nil⟩
  | .int i :: as, .int j t :: us, h => by
    obtain ⟨h1, h2⟩ := Bool.and_eq_true_iff.mp (show (decide (i = j) && tupF.relC as us) = true from h)
    obtain ⟨vs, k1, k2⟩ := relC_ok h2
    obtain rfl := of_decide_eq_true h1
    exact ⟨.int i :: vs, ⟨vs, rfl, k1⟩, .cons ⟨t, rfl⟩ k2⟩
  | .str z :: as, .str y t :: us, h => by
    obtain ⟨h1, h2⟩ := Bool.and_eq_true_iff.mp (show ((decide (toS z = y) && decide (z.length ≤ 1000) && z.all fun c => decide (c < 0x110000)) && tupF.relC as us) = true from h)
    obtain ⟨vs, k1, k2⟩ := relC_ok h2
    simp only [Bool.and_eq_true, decide_eq_true_eq, List.all_eq_true] at h1
    obtain ⟨⟨rfl, h4⟩, h5⟩ := h1
    exact ⟨.str (toS z) :: vs, ⟨vs, rfl, ⟨by simp only [big]; omega, h5⟩, k1⟩, .cons ⟨t, rfl⟩ k2⟩
theorem tupF_ok {x : Str} {as : List A} {K : PySem.W.Frag} (h : tupF x as K = true) : ∃ vs, KTp K (He.ga K x) vs ∧ CVs as vs := by
  unfold tupF at h
  split at h
  · rename_i o c n its m sl e
    simp only [Bool.and_eq_true, decide_eq_true_eq] at h
    obtain ⟨rfl, h1, h2⟩ := h
    obtain ⟨vs, k1, k2⟩ := relC_ok h2
    exact ⟨vs, ⟨_, its, m, e, rfl, rfl, h1, k2⟩, k1⟩
  · cases h
/-! ### the text's exceptions -/
/-- the class at C is an exception of the text -/
def oexB (K : PySem.W.Frag) (C : Addr) : Bool := (match K.lookup C with
  | some ⟨.type t, _, .cls cd, sl⟩ => decide (t = "type") && (match cd.mro, sl.toList with
    | .ref C' :: bm, [_, _, _, _, some (.builtin n), _] => decide (C' = C) && (decide (n = "ValueError.__new__") && (!cd.hasDel && (cd.hasDict && PySem.HandSPX.refsVE bm)))
    | _, _ => false)
  | _ => false) && (decide (PySem.W.findIn K (.ref C) "__setattr__" = some (some (.builtin "object.__setattr__"))) && (decide (PySem.W.subIn K (.ref C) (.type "BaseException") = some true) && (decide (PySem.W.typeIn K (.ref C) = some (.type "type")) && PySem.W.keepIn K (.ref C))))
theorem oexB_ok {K : PySem.W.Frag} {C : Addr} (h : oexB K C = true) : L2.OexC K C := by
  obtain ⟨h1, h⟩ := Bool.and_eq_true_iff.mp h
  obtain ⟨h2, h⟩ := Bool.and_eq_true_iff.mp h
  obtain ⟨h3, h⟩ := Bool.and_eq_true_iff.mp h
  obtain ⟨h4, h5⟩ := Bool.and_eq_true_iff.mp h
  refine ⟨?_, of_decide_eq_true h2, of_decide_eq_true h3, of_decide_eq_true h4, h5⟩
  split at h1
  · rename_i t dd cd sl ho
    obtain ⟨ht, h1⟩ := Bool.and_eq_true_iff.mp h1
    obtain rfl := of_decide_eq_true ht
    split at h1
    · rename_i C' bm k0 k1 k2 k3 n k5 hm hs
      simp only [Bool.and_eq_true, decide_eq_true_eq, Bool.not_eq_true'] at h1
      obtain ⟨_, rfl, rfl, g1, g2, g3⟩ := h1
      obtain ⟨nm, bs, mro, ns, qn, hd, sn, sub, ab, col, del⟩ := cd
      dsimp only at hm g1 g2
      subst hm g1 g2
      obtain ⟨l⟩ := sl
      simp only at hs
      subst hs
      exact ⟨nm, qn, ns, bs, bm, sn, sub, ab, col, dd, k0, k1, k2, k3, k5, ho, g3⟩
    · cases h1
  · cases h1
def swcB (K : PySem.W.Frag) (S : Addr) : Bool := decide (PySem.W.specialIn K (.ref S) "__getattribute__" = some (some (.builtin "type.__getattribute__"))) && (PySem.W.readsIn K S (.type "type") && (match PySem.W.findCls K (.ref S) (.type "type") "__init__" with
  | some (.val (.builtin n)) => decide (n = "ValueError.__init__")
  | _ => false))
theorem swcB_ok {K : PySem.W.Frag} {S : Addr} (h : swcB K S = true) : SwC K S := by
  obtain ⟨h1, h⟩ := Bool.and_eq_true_iff.mp h
  obtain ⟨h2, h3⟩ := Bool.and_eq_true_iff.mp h
  refine ⟨of_decide_eq_true h1, h2, ?_⟩
  split at h3
  · rename_i n e; rw [e, of_decide_eq_true h3]
  · cases h3
def excB (K : PySem.W.Frag) (D : Addr) : Bool := decide (PySem.W.findIn K (.ref D) "__getattribute__" = some (some (.builtin "BaseException.__getattribute__"))) && (decide (PySem.W.findIn K (.ref D) "__getattr__" = some none) && (decide (PySem.W.subIn K (.ref D) (.type "BaseException") = some true) && (PySem.W.hasDictIn K D &&
  (decide (PySem.W.findIn K (.ref D) "__class__" = some (some (.builtin "object.__class__"))) && (decide (PySem.W.specialIn K (.builtin "object.__class__") "__get__" = some (some (.builtin "getset_descriptor.__get__"))) && (decide (PySem.W.takesIn K (.builtin "object.__class__") = some true) && decide (PySem.W.mroIn K D (.type "object") = some true)))))))
theorem excB_ok {K : PySem.W.Frag} {D : Addr} (h : excB K D = true) : L2.ExcC K D := by
  simp only [excB, Bool.and_eq_true, decide_eq_true_eq] at h
  obtain ⟨h1, h2, h3, h4, h5, h6, h7, h8⟩ := h
  exact ⟨h1, h2, h3, h4, h5, h6, h7, h8⟩
/-- all of a class's facts: an attribute (its own __init__ of one argument) or none -/
def xcB (x : Str) (K : PySem.W.Frag) : Bool := oexB K (He.ga K x) && (L2.xfB K (He.ga K x) && excB K (He.ga K x))
def iniB (x : Str) (K : PySem.W.Frag) : Bool := He.eqO (PySem.W.findIn K (.ref (He.ga K x)) "__init__") (some (some (.ref (He.ma K (He.ga K x) "__init__")))) && decide (PySem.W.typeIn K (.ref (He.ma K (He.ga K x) "__init__")) = some (.type "function"))
def noB (x f : Str) (K : PySem.W.Frag) : Bool := He.eqO (PySem.W.findIn K (.ref (He.ga K x)) f) (some none)
def clsV (K : PySem.W.Frag) : Str → Value := fun x => if x = Str.ofString "ValueError" then .type "ValueError" else .ref (He.ga K x)
def subB (x y : Str) (b : Bool) (K : PySem.W.Frag) : Bool := decide (PySem.W.kitOne K (.ref (He.ga K x)) (clsV K y) = some b) && decide (PySem.W.exmOne K (.ref (He.ga K x)) (clsV K y) = some b)
def xtB (t : Tb) (sw : Str) (xs : List XT) (K : PySem.W.Frag) : Bool := swcB K (He.ga K sw) && (xs.all fun e => xcB e.x K && ((match e.ini with
    | none => true
    | some none => iniB e.x K
    | some (some f) => iniB e.x K && noB e.x (Str.ofString f) K) && (subB e.x (Str.ofString "ValueError") (t.sub e.c 0) K && xs.all fun d => subB e.x d.x (t.sub e.c d.c) K)))
/-- what the defs of the exceptions keep -/
def IniOk (N : Nm) (mg : Str → Option Value) (e : XT) : Prop := match e.ini with
  | none => True
  | some (some f) => ∀ P w base, ∃ fd ps, FnOk P w N.K mg base (L2.CX P w) 1 (He.ma N.K (He.ga N.K e.x) "__init__") fd ps (spIf (He.ga N.K e.x) (Str.ofString f)) ∧ L2.Binds N.K fd ps []
  | some none => ∀ P w base, ∃ fd ps, FnOk P w N.K mg base (L2.CX P w) 1 (He.ma N.K (He.ga N.K e.x) "__init__") fd ps (spI0 (He.ga N.K e.x)) ∧ L2.Binds N.K fd ps []
theorem xok_of {N : Nm} {t : Tb} {mg : Str → Option Value} {sw : Str} {xs : List XT} (hB : xtB t sw xs N.K = true) (hcv : ∀ e ∈ xs, N.cv e.c = some (.ref (He.ga N.K e.x))) (hve : N.cv 0 = some (.type "ValueError")) (hne : ∀ e ∈ xs, e.x ≠ Str.ofString "ValueError") (hxv : ∀ e ∈ xs, e.c ≠ 0)
    (hxk : N.xk = xkO xs) (hxa : N.xa = xaO xs) (hxat : ∀ c f, t.xat c f = true → xaO xs c = some f) (hmg : ∀ e ∈ xs, mg e.x = some (.ref (He.ga N.K e.x))) (hini : ∀ e ∈ xs, IniOk N mg e) : XOk N (xnO xs) (xrO xs) t.sub t.xat mg := by
  obtain ⟨hsw, hall⟩ := Bool.and_eq_true_iff.mp hB
  have fac : ∀ e ∈ xs, L2.OexC N.K (He.ga N.K e.x) ∧ L2.XfC N.K (He.ga N.K e.x) ∧ L2.ExcC N.K (He.ga N.K e.x) ∧ (∀ o, e.ini = some o → iniB e.x N.K = true ∧ ∀ f, o = some f → noB e.x (Str.ofString f) N.K = true) ∧
      subB e.x (Str.ofString "ValueError") (t.sub e.c 0) N.K = true ∧ ∀ d ∈ xs, subB e.x d.x (t.sub e.c d.c) N.K = true := fun e he => by
    have h := List.all_eq_true.mp hall e he
    simp only [Bool.and_eq_true, xcB, List.all_eq_true] at h
    obtain ⟨⟨h1, h2, h3⟩, h4, h5, h6⟩ := h
    refine ⟨oexB_ok h1, L2.xfB_ok h2, excB_ok h3, fun o ho => ?_, h5, h6⟩
    rw [ho] at h4
    cases o with
    | none => exact ⟨h4, fun f q => nomatch q⟩
    | some f => obtain ⟨h7, h8⟩ := Bool.and_eq_true_iff.mp h4; exact ⟨h7, fun f' q => by cases q; exact h8⟩
  have subF : ∀ cc kk C v, N.xk cc = true → xnO xs kk ≠ none → N.cv cc = some C → N.cv kk = some v → ∃ x y, C = .ref (He.ga N.K x) ∧ v = clsV N.K y ∧ subB x y (t.sub cc kk) N.K = true := fun cc kk C v h1 h2 h3 h4 => by
    rw [hxk] at h1
    obtain ⟨e, h5⟩ := Option.isSome_iff_exists.mp h1
    obtain ⟨h6, rfl⟩ := lookX_ok h5
    rw [hcv e h6] at h3
    cases h3
    by_cases hk : kk = 0
    · subst hk
      rw [hve] at h4
      cases h4
      exact ⟨e.x, _, rfl, (if_pos rfl).symm, (fac e h6).2.2.2.2.1⟩
    · unfold xnO at h2
      rw [if_neg hk] at h2
      cases h7 : lookX xs kk with
      | none => rw [h7] at h2; exact absurd rfl h2
      | some d =>
        obtain ⟨h8, rfl⟩ := lookX_ok h7
        rw [hcv d h8] at h4
        cases h4
        exact ⟨e.x, d.x, rfl, (if_neg (hne d h8)).symm, (fac e h6).2.2.2.2.2 d h8⟩
  refine ⟨?_, ?_, ?_, ?_, ?_, ?_, ?_⟩
  · intro cc x n h1 h2
    unfold xrO at h2
    obtain ⟨e, h3, h4⟩ := Option.bind_eq_some_iff.mp h2
    obtain ⟨o, h5, h6⟩ := Option.map_eq_some_iff.mp h4
    obtain ⟨h7, h8⟩ := lookX_ok h3
    have hx : x = e.x := by
      unfold xnO at h1
      rw [if_neg (by rw [← h8]; exact hxv e h7), h3] at h1
      exact (Option.some.inj h1).symm
    subst hx
    obtain ⟨f1, f2, f3, f4, _⟩ := fac e h7
    obtain ⟨g1, g2⟩ := f4 o h5
    obtain ⟨g3, g4⟩ := Bool.and_eq_true_iff.mp g1
    have hi := hini e h7
    unfold IniOk at hi
    rw [h5] at hi
    refine ⟨by rw [hxk]; unfold xkO; rw [h3]; rfl, _, _, by rw [← h8]; exact hcv e h7, hmg e h7, f1, He.eqO_ok g3, of_decide_eq_true g4, ?_⟩
    rw [hxa]
    unfold xaO
    rw [h3]
    simp only [Option.bind_some, h5, id]
    cases o with
    | none => simp at h6; exact ⟨h6.symm, hi⟩
    | some f => simp at h6; exact ⟨h6.symm, hi⟩
  · intro cc f h; rw [hxa]; exact hxat cc f h
  · intro cc C f h1 h2 h3
    rw [hxa] at h3
    unfold xaO at h3
    obtain ⟨e, h4, h5⟩ := Option.bind_eq_some_iff.mp h3
    obtain ⟨o, h6, h7⟩ := Option.bind_eq_some_iff.mp h5
    obtain ⟨h8, rfl⟩ := lookX_ok h4
    rw [hcv e h8] at h2
    cases h2
    exact ⟨(fac e h8).2.1, He.eqO_ok (((fac e h8).2.2.2.1 o h6).2 f h7)⟩
  · intro cc v h1 h2
    rw [hxk] at h1
    obtain ⟨e, h3⟩ := Option.isSome_iff_exists.mp h1
    obtain ⟨h4, rfl⟩ := lookX_ok h3
    rw [hcv e h4] at h2
    cases h2
    exact ⟨_, rfl, (fac e h4).2.2.1⟩
  · intro cc C kk v x h1 h2 h3 h4
    obtain ⟨x', y, e1, rfl, e2⟩ := subF cc kk _ v h1 (by rw [h3]; simp) h2 h4
    rw [e1]
    exact of_decide_eq_true (Bool.and_eq_true_iff.mp e2).1
  · intro cc kk v u h0 h1 h2 h3
    obtain ⟨x', y, rfl, rfl, e2⟩ := subF cc kk _ _ h1 h0 h2 h3
    exact of_decide_eq_true (Bool.and_eq_true_iff.mp e2).2
  · intro kk x h
    by_cases hk : kk = 0
    · subst hk
      unfold xnO at h
      rw [if_pos rfl] at h
      cases h
      exact .inr ⟨rfl, hve⟩
    · unfold xnO at h
      rw [if_neg hk] at h
      obtain ⟨e, h1, rfl⟩ := Option.map_eq_some_iff.mp h
      obtain ⟨h2, rfl⟩ := lookX_ok h1
      exact .inl ⟨_, hcv e h2, hmg e h2⟩
/-! ### the link, by tables -/
def LT.nm (t : LT) (K : PySem.W.Frag) : Nm where
  K := K
  fa := fun f => (t.at_.lookup f).map fun p => He.fAd K p
  cv := fun c => if c = 0 then some (.type "ValueError") else (t.cls.lookup c).map fun x => .ref (He.ga K x)
  xa := xaO t.xts
  xk := xkO t.xts
  xs := none
def LT.ck (t : LT) : Ck where
  sc := ⟨.function, [], false, false, []⟩
  ns := []
  fn := fun f => t.glo.lookup f
  cn := fun c => if (t.ini.lookup c).isSome = true then t.cls.lookup c else none
  gn := fun g => (t.glb.lookup g).map (·.1)
  flds := t.flds
  top := true
  hot := false
  ex := none
  xn := xnO t.xts
  xr := xrO t.xts
/-- the tables agree with one another -/
def LT.tabB (t : LT) : Bool :=
  (t.glo.all fun p => t.at_.lookup p.1 == some (p.2, none)) && ((t.ini.all fun p => match t.cls.lookup p.1 with
    | some x => t.at_.lookup p.2 == some (x, some (Str.ofString "__init__"))
    | none => false) && ((t.met.all fun p => match t.cls.lookup p.1 with
    | some x => p.2.all fun q => t.at_.lookup q.2 == some (x, some (Str.ofString q.1))
    | none => false) && ((t.xts.all fun e => t.cls.lookup e.c == some e.x && (!(e.c == 0) && !(e.x == Str.ofString "ValueError"))) && (t.cls.all fun p => !(p.1 == 0)))))
def glbB (x : Str) (K : PySem.W.Frag) : A → Bool
  | .int i => (He.Fa.int x i).ok K
  | .str z => (He.Fa.str x (toS z)).ok K && (decide (z.length ≤ 1000) && z.all fun c => decide (c < 0x110000))
  | .ctp as => (He.Fa.glo x).ok K && tupF x as K
  | _ => false
/-- what is looked at behind the text's head -/
def LT.chk (t : LT) (K : PySem.W.Frag) : Bool :=
  (t.glo.all fun p => (He.Fa.glo p.2).ok K && (He.Fa.keep p.2).ok K) && ((t.glb.all fun p => glbB p.2.1 K p.2.2) && ((t.cls.all fun p => (He.Fa.glo p.2).ok K && t.flds.all fun f => (He.Fa.noat p.2 (Str.ofString f)).ok K) &&
  ((t.ini.all fun p => match t.cls.lookup p.1 with
    | some x => (He.Fa.mkr x).ok K && (He.Fa.cls x).ok K
    | none => false) && ((t.met.all fun p => match t.cls.lookup p.1 with
    | some x => p.2.all fun q => (He.Fa.meth x (Str.ofString q.1)).ok K
    | none => false) && ((bltL.all fun n => (He.Fa.free (Str.ofString n)).ok K) && (t.xts.isEmpty || xtB t.tb "SwitchError" t.xts K && (He.Fa.glo "SwitchError").ok K))))))
theorem lookup_at {α β : Type} [BEq α] [LawfulBEq α] {l : List (α × β)} {k : α} {v : β} (h : l.lookup k = some v) : (k, v) ∈ l := lookup_mem h
theorem lnk_of {t : LT} {K : PySem.W.Frag} {h : Heap} {mg : Str → Option Value} (X : K.In h) (G : h.Ns mainGlobals mg) (tb : t.tabB = true) (cp : t.chk K = true) (fd : ∀ p ∈ t.at_, FnD (t.nm K) t.tb t.ck p.1)
    (xi : xtB t.tb "SwitchError" t.xts K = true → mg (Str.ofString "SwitchError") = some (.ref (He.ga K "SwitchError")) → ∀ e ∈ t.xts, IniOk (t.nm K) mg e) : Lnk (t.nm K) t.tb t.ck mg := by
  simp only [LT.tabB, Bool.and_eq_true, List.all_eq_true] at tb
  obtain ⟨b1, b2, b3, b4, b5⟩ := tb
  simp only [LT.chk, Bool.and_eq_true, List.all_eq_true, Bool.or_eq_true] at cp
  obtain ⟨c1, c2, c3, c4, c5, c6, c7⟩ := cp
  have cvC : ∀ c x, t.cls.lookup c = some x → (t.nm K).cv c = some (.ref (He.ga K x)) := fun c x hx => by
    have h0 : ¬ c = 0 := by have := b5 _ (lookup_mem hx); simpa using this
    show (if c = 0 then _ else _) = _
    rw [if_neg h0, hx]
    rfl
  have cvR : ∀ c C, (t.nm K).cv c = some (.ref C) → ∃ x, t.cls.lookup c = some x ∧ C = He.ga K x := fun c C hc => by
    have hc' : (if c = 0 then some (Value.type "ValueError") else (t.cls.lookup c).map fun x => Value.ref (He.ga K x)) = some (.ref C) := hc
    split at hc'
    · cases hc'
    · obtain ⟨x, e1, e2⟩ := Option.map_eq_some_iff.mp hc'
      exact ⟨x, e1, (Value.ref.inj e2).symm⟩
  have faA : ∀ f p, t.at_.lookup f = some p → (t.nm K).fa f = some (He.fAd K p) := fun f p hp => by
    show (t.at_.lookup f).map _ = _
    rw [hp]
    rfl
  have fdA : ∀ f p, t.at_.lookup f = some p → FnD (t.nm K) t.tb t.ck f := fun f p hp => fd (f, p) (lookup_mem hp)
  refine ⟨?_, ?_, ?_, ?_, ?_, ?_, rfl, rfl, rfl, ?_⟩
  · intro f x hx
    have hm := lookup_mem (show t.glo.lookup f = some x from hx)
    have e1 : t.at_.lookup f = some (x, none) := by simpa using b1 _ hm
    obtain ⟨k1, k2⟩ := c1 _ hm
    exact ⟨_, He.glo_ok X G k1, faA f _ e1, k2, fdA f _ e1⟩
  · intro g x hx
    obtain ⟨⟨x', a⟩, e1, rfl⟩ := Option.map_eq_some_iff.mp (show (t.glb.lookup g).map (·.1) = some x from hx)
    have hb := c2 _ (lookup_mem e1)
    have e2 : t.tb.glb g = some a := by show (t.glb.lookup g).map _ = _; rw [e1]; rfl
    cases a with
    | int i => obtain ⟨tk, e⟩ := He.int_ok X G hb; exact ⟨.int i, .int i, _, e2, e, ⟨tk, rfl⟩, fun Z μ H => by simp [VR]⟩
    | str z =>
      obtain ⟨h1, h2⟩ := Bool.and_eq_true_iff.mp (show ((He.Fa.str x' (toS z)).ok K && (decide (z.length ≤ 1000) && z.all fun c => decide (c < 0x110000))) = true from hb)
      obtain ⟨tk, e⟩ := He.str_ok X G h1
      simp only [Bool.and_eq_true, decide_eq_true_eq, List.all_eq_true] at h2
      exact ⟨.str z, .str (toS z), _, e2, e, ⟨tk, rfl⟩, fun Z μ H => by simp only [VR]; exact ⟨trivial, by simp only [big]; omega, h2.2⟩⟩
    | ctp as =>
      obtain ⟨h1, h2⟩ := Bool.and_eq_true_iff.mp (show ((He.Fa.glo x').ok K && tupF x' as K) = true from hb)
      obtain ⟨vs, k1, k2⟩ := tupF_ok h2
      exact ⟨.ctp as, .ref (He.ga K x'), _, e2, He.glo_ok X G h1, rfl, fun Z μ H => by simp only [VR]; exact ⟨_, vs, rfl, k1, k2⟩⟩
    | _ => cases hb
  · intro kk x hx
    have hx' : (if (t.ini.lookup kk).isSome = true then t.cls.lookup kk else none) = some x := hx
    split at hx'
    · rename_i hs
      obtain ⟨f, hf⟩ := Option.isSome_iff_exists.mp hs
      have h1 := b2 _ (lookup_mem hf)
      have h2 := c4 _ (lookup_mem hf)
      rw [hx'] at h1 h2
      have e1 : t.at_.lookup f = some (x, some (Str.ofString "__init__")) := by simpa using h1
      obtain ⟨k1, k2⟩ := Bool.and_eq_true_iff.mp h2
      exact ⟨f, _, _, hf, He.glo_ok X G (c3 _ (lookup_mem hx')).1, cvC kk x hx', faA f _ e1, mkr_ok k1, cls_ok k2, fdA f _ e1⟩
    · cases hx'
  · intro cc m f C hm hc
    obtain ⟨x, e1, rfl⟩ := cvR cc C hc
    have hm' : ((t.met.lookup cc).getD []).lookup m = some f := hm
    cases e2 : t.met.lookup cc with
    | none => rw [e2] at hm'; simp at hm'
    | some l =>
      rw [e2] at hm'
      have h1 := b3 _ (lookup_mem e2)
      have h2 := c5 _ (lookup_mem e2)
      rw [e1] at h1 h2
      have h3 := List.all_eq_true.mp h1 _ (lookup_mem hm')
      have h4 := List.all_eq_true.mp h2 _ (lookup_mem hm')
      have e3 : t.at_.lookup f = some (x, some (Str.ofString m)) := by simpa using h3
      exact ⟨_, faA f _ e3, meth_ok h4, fdA f _ e3⟩
  · intro n hn; exact He.free_ok X G (c6 n hn)
  · intro f hf cc C hc
    obtain ⟨x, e1, rfl⟩ := cvR cc C hc
    exact He.eqO_ok ((c3 _ (lookup_mem e1)).2 f hf)
  · show XOk (t.nm K) (xnO t.xts) (xrO t.xts) t.tb.sub t.tb.xat mg
    have hat : ∀ c f, t.tb.xat c f = true → xaO t.xts c = some f := fun c f hh => of_decide_eq_true hh
    rcases c7 with c7 | c7
    · have e0 : t.xts = [] := List.isEmpty_iff.mp c7
      have hk : ∀ c, (t.nm K).xk c = false := fun c => by show xkO t.xts c = false; rw [e0]; rfl
      refine ⟨fun cc x n _ h => ?_, fun cc f h => hat cc f h, fun cc C f h => ?_, fun cc v h => ?_, fun cc C kk v x h => ?_, fun cc kk v u _ h => ?_, fun kk x h => ?_⟩
      · rw [e0] at h; cases h
      · rw [hk] at h; cases h
      · rw [hk] at h; cases h
      · rw [hk] at h; cases h
      · rw [hk] at h; cases h
      · unfold xnO at h
        split at h
        · rename_i e; subst e; exact .inr ⟨(Option.some.inj h).symm, rfl⟩
        · rw [e0] at h; cases h
    · have b4' : ∀ e ∈ t.xts, t.cls.lookup e.c = some e.x ∧ e.c ≠ 0 ∧ e.x ≠ Str.ofString "ValueError" := fun e he => by
        have := b4 e he
        simpa using this
      exact xok_of (sw := "SwitchError") c7.1 (fun e he => cvC _ _ (b4' e he).1) rfl (fun e he => (b4' e he).2.2) (fun e he => (b4' e he).2.1) rfl rfl hat (fun e he => He.glo_ok X G (c3 _ (lookup_mem (b4' e he).1)).1) (xi c7.1 (He.glo_ok X G c7.2))
end Py

set_option autoImplicit false
set_option linter.all false
set_option Elab.async false
set_option maxRecDepth 100000
set_option maxHeartbeats 4000000
/-! PyL: what the laws share: the state from a script, draws, picks; loops. -/
namespace Py
/-! ### loops -/
theorem kAgain_eq (all : List A) (k : IK) (as : List A) (ks : List Nat) (go : Loc → Sto → Fl) (l : Loc) (s : Sto) (h : itA k as s = some all) : kAgain all k as ks go l s = go (kill ks l) s := by
  unfold kAgain
  rw [if_pos h]
/-- for over items that stay: an invariant by the turn; the body goes to its end -/
theorem forL_inv (t : T) (k : IK) (as : List A) (ks : List Nat) (g : Loc → Sto → Fl) (all : List A) (I : Nat → Loc → Sto → Prop)
    (step : ∀ i a l s, all[i]? = some a → I i l s → ∃ l1 l2 s2, bindT t a l s = some l1 ∧ (g l1 s = .nx l2 s2 ∨ g l1 s = .cnt l2 s2) ∧ itA k as s2 = some all ∧ I (i + 1) (kill ks l2) s2) :
    ∀ (xs : List A) (i : Nat) (l : Loc) (s : Sto), i ≤ all.length → all.drop i = xs → I i l s → ∃ l2 s2, forL t k as ks g all xs l s = .nx (kill ks l2) s2 ∧ I all.length l2 s2 := by
  intro xs
  induction xs with
  | nil =>
    intro i l s hle hd h
    have hl : all.length ≤ i := List.drop_eq_nil_iff.mp hd
    have hi : i = all.length := by omega
    subst hi
    exact ⟨l, s, rfl, h⟩
  | cons a xs ih =>
    intro i l s hle hd h
    have ha : all[i]? = some a := by
      have := congrArg (fun z => z[0]?) hd
      simpa using this
    have hd2 : all.drop (i + 1) = xs := by
      have := congrArg List.tail hd
      simpa using this
    obtain ⟨l1, l2, s2, e1, e2, e3, e4⟩ := step i a l s ha h
    obtain ⟨l3, s3, e5, e6⟩ := ih (i + 1) (kill ks l2) s2 (List.getElem?_eq_some_iff.mp ha).1 hd2 e4
    refine ⟨l3, s3, ?_, e6⟩
    simp only [forL, e1, kTurnF]
    rcases e2 with e2 | e2 <;> (rw [e2]; simp only [kLoop]; rw [kAgain_eq _ _ _ _ _ _ _ e3]; exact e5)
theorem for_inv {t : T} {k : IK} {as : List A} {ks : List Nat} {g : Loc → Sto → Fl} {all : List A} {l : Loc} {s : Sto} (I : Nat → Loc → Sto → Prop) (h0 : I 0 l s)
    (step : ∀ i a l s, all[i]? = some a → I i l s → ∃ l1 l2 s2, bindT t a l s = some l1 ∧ (g l1 s = .nx l2 s2 ∨ g l1 s = .cnt l2 s2) ∧ itA k as s2 = some all ∧ I (i + 1) (kill ks l2) s2) :
    ∃ l2 s2, forL t k as ks g all all l s = .nx (kill ks l2) s2 ∧ I all.length l2 s2 := by
  exact forL_inv t k as ks g all I step all 0 l s (Nat.zero_le _) (by simp) h0
theorem upFrom_length (lo c : Int) : ∀ n, (upFrom lo c n).length = n
  | 0 => rfl
  | n + 1 => by simp [upFrom, upFrom_length (lo + c) c n]
theorem upFrom_at (c : Int) : ∀ (n i : Nat) (lo : Int) (a : A), (upFrom lo c n)[i]? = some a → a = .int (lo + i * c) ∧ i < n
  | 0, _, _, _, h => by simp [upFrom] at h
  | n + 1, 0, lo, a, h => by simp [upFrom] at h; exact ⟨by simp [h], by omega⟩
  | n + 1, i + 1, lo, a, h => by
    simp only [upFrom, List.getElem?_cons_succ] at h
    obtain ⟨h1, h2⟩ := upFrom_at c n i (lo + c) a h
    refine ⟨?_, by omega⟩
    rw [h1]
    congr 1
    push_cast
    rw [Int.add_mul, Int.one_mul]
    omega
theorem evSs_app (Γ : Env) : ∀ (a b : List S) (l l2 : Loc) (s s2 : Sto), evSs Γ a l s = .nx l2 s2 → evSs Γ (a ++ b) l s = evSs Γ b l2 s2
  | [], b, l, l2, s, s2, h => by
    replace h : (Fl.nx l s) = .nx l2 s2 := h
    cases h
    rfl
  | x :: a, b, l, l2, s, s2, h => by
    replace h : (evS Γ x l s).seq (evSs Γ a) = .nx l2 s2 := h
    show (evS Γ x l s).seq (evSs Γ (a ++ b)) = _
    cases hx : evS Γ x l s with
    | nx l3 s3 => rw [hx] at h; exact evSs_app Γ a b l3 l2 s3 s2 h
    | brk l3 s3 => rw [hx] at h; cases h
    | cnt l3 s3 => rw [hx] at h; cases h
    | ret a3 s3 => rw [hx] at h; cases h
    | exc e3 l3 s3 => rw [hx] at h; cases h
    | bad => rw [hx] at h; cases h
theorem evSs_cons (Γ : Env) (x : S) (xs : List S) (l : Loc) (s : Sto) : evSs Γ (x :: xs) l s = (evS Γ x l s).seq (evSs Γ xs) := rfl
/-! ### the state -/
structure Dr where
  cells : List Int
  seed : Int
def dst (d : Dr) : Sto := [.lst (d.cells.map .int), .lst [.ref 0, .int d.seed]]
structure Dr.Ok (d : Dr) : Prop where
  s0 : 0 ≤ d.seed
  s1 : d.seed < 2147483648
  c0 : ∀ c ∈ d.cells, 0 ≤ c
def draw (m : Int) (d : Dr) : Int × Dr :=
  match d.cells.dropWhile (· == 0) with
  | c :: r => (c % m, ⟨c / m :: r, d.seed⟩)
  | [] => ((d.seed * 48271 + 12345) % 2147483647 / 64 % m, ⟨[], (d.seed * 48271 + 12345) % 2147483647⟩)
theorem draw_ok {m : Int} {d : Dr} (hm : 0 < m) (h : d.Ok) : 0 ≤ (draw m d).1 ∧ (draw m d).1 < m ∧ (draw m d).2.Ok := by
  unfold draw
  split
  · rename_i c r e
    have hc : ∀ x ∈ c :: r, 0 ≤ x := fun x hx => h.c0 x ((List.dropWhile_sublist _).subset (e ▸ hx))
    refine ⟨Int.emod_nonneg _ (by omega), Int.emod_lt_of_pos _ hm, h.s0, h.s1, fun x hx => ?_⟩
    rcases List.mem_cons.mp hx with rfl | hx
    · exact Int.ediv_nonneg (hc c (by simp)) (by omega)
    · exact hc x (by simp [hx])
  · refine ⟨Int.emod_nonneg _ (by omega), Int.emod_lt_of_pos _ hm, Int.emod_nonneg _ (by omega), ?_, fun x hx => by cases hx⟩
    have := Int.emod_lt_of_pos (d.seed * 48271 + 12345) (show (0 : Int) < 2147483647 by omega)
    show (d.seed * 48271 + 12345) % 2147483647 < 2147483648
    omega
def bDraw : List S := [.asg (.nm 2) (.idx (.loc 0) (.int 0)),
  .whl (.and (.cmp .gt (.bc .len true [.loc 2]) (.int 0)) (.cmp .eq (.idx (.loc 2) (.int 0)) (.int 0)))
  [.ex (.bm .pop1 true (.loc 2) [.int 0])] [],
  .iff (.cmp .gt (.bc .len true [.loc 2]) (.int 0))
  [.asg (.nm 3) (.idx (.loc 2) (.int 0)),
  .sub (.loc 2) (.int 0) (.bin .fdiv true (.loc 3) (.loc 1)),
  .ret (.bin .mod true (.bc .int true [.loc 3]) (.loc 1))]
  [],
  .kil [3],
  .asg (.nm 4) (.bin .mod true (.bc .int true [.bin .add true (.bin .mul true (.idx (.loc 0) (.int 1)) (.int 48271)) (.int 12345)]) (.int 2147483647)),
  .sub (.loc 0) (.int 1) (.loc 4),
  .ret (.bin .mod true (.bc .int true [.bin .fdiv true (.loc 4) (.int 64)]) (.loc 1))]
theorem body_draw (Γ : Env) (m : Int) (d : Dr) (h0 : 0 < m) (h1 : m < 2 ^ 64) (hd : d.Ok) :
    (evSs Γ bDraw [some (.ref 1), some (.int m), none, none, none] (dst d)).res = .ok (.int (draw m d).1) (dst (draw m d).2) := by
  have hw : ∀ cells : List Int, evS Γ (.whl (.and (.cmp .gt (.bc .len true [.loc 2]) (.int 0)) (.cmp .eq (.idx (.loc 2) (.int 0)) (.int 0)))
      [.ex (.bm .pop1 true (.loc 2) [.int 0])] []) [some (.ref 1), some (.int m), some (.ref 0), none, none] [.lst (cells.map .int), .lst [.ref 0, .int d.seed]]
      = .nx [some (.ref 1), some (.int m), some (.ref 0), none, none] [.lst ((cells.dropWhile (· == 0)).map .int), .lst [.ref 0, .int d.seed]] := by
    intro cells
    induction cells with
    | nil => 
      rw [p47, whileR_eq]
      simp
    | cons c cells ih =>
      rw [p47] at ih ⊢
      rw [whileR_eq]
      have hn : (0 : Int) < (cells.length : Int) + 1 := by omega
      by_cases hc : c = 0
      · subst hc
        simp [atI, ixN, hn]
        simpa using ih
      · simp [atI, ixN, hn, hc]
  simp only [p47] at hw
  have h1' : m < 18446744073709551616 := by simpa using h1
  unfold draw
  have hs : ∀ c ∈ d.cells.dropWhile (· == 0), 0 ≤ c := fun x hx => hd.c0 x ((List.dropWhile_sublist _).subset hx)
  cases e : d.cells.dropWhile (· == 0) with
  | nil =>
    simp only [bDraw, dst]
    have ho : okMul d.seed 48271 := .inr ⟨by omega, by omega⟩
    simp [atI, ixN, hw, e, ho, h0, h1']
  | cons c r =>
    have hn : (0 : Int) < (r.length : Int) + 1 := by omega
    simp only [bDraw, dst]
    simp [atI, ixN, hw, e, hn, h0, h1']
/-- a call of a def that sees the state alone -/
theorem call_pre2 {t : Tb} {k f : Nat} {np nl : Nat} {b : List S} {as : List A} {d d2 : Dr} {rest : Sto} {a : A} (hfl : flat a = true) (hf : t.fns f = some ⟨np, nl, b, some 2⟩) (ha : mapO (frz (dst d ++ rest) 2 60) as = some as) (hn : as.length = np)
    (h : (evSs (t.env (callF t k)) b (locs np nl as) (dst d)).res = .ok a (dst d2)) : callF t (k + 1) f as (dst d ++ rest) = .ok a (dst d2 ++ rest) := by
  have e1 : (dst d ++ rest).take 2 = dst d := by simp [dst]
  have e2 : (dst d ++ rest).drop 2 = rest := by simp [dst]
  simp only [callF, hf, ha, e1]
  have hl : (dst d).all (lowC 2) = true ∧ 2 ≤ (dst d ++ rest).length := by
    refine ⟨?_, by simp [dst]⟩
    simp [dst]
  rw [if_pos hl]
  unfold runF
  rw [if_pos hn, h]
  have e3 : (dst d2).take 2 = dst d2 := by simp [dst]
  simp only [back, e3, e2, p62]
  have e4 : frz (dst d2) 2 60 a = some a := by cases a <;> first | rfl | cases hfl
  rw [e4]
  dsimp only
  rw [if_pos]
  refine ⟨by simp [dst], by simp [dst], .inr ⟨hfl, ?_⟩⟩
  simp [dst, flatC]
theorem run_draw {t : Tb} {f : Nat} (hf : t.fns f = some ⟨2, 5, bDraw, some 2⟩) (k : Nat) (m : Int) (d : Dr) (rest : Sto) (h0 : 0 < m) (h1 : m < 2 ^ 64) (hd : d.Ok) : callF t (k + 1) f [.ref 1, .int m] (dst d ++ rest) = .ok (.int (draw m d).1) (dst (draw m d).2 ++ rest) :=
  call_pre2 rfl hf (by simp) rfl (by simpa [locs] using body_draw _ m d h0 h1 hd)
/-! ### the script -/
def bState : List S := [.asg (.nm 1) (.int 7),
  .forr (.nm 2) .seq [.loc 0]
  [.asg (.nm 1) (.bin .mod false (.bc .int false [.bin .add false (.bin .mul false (.loc 1) (.int 31)) (.loc 2)]) (.int 1000003))] [2],
  .ret (.lst false [.lcomp false (.bc .abs false [.loc 2]) (.nm 2) .seq [.loc 0] none [2], .bin .add false (.loc 1) (.int 1)])]
def seedOf (ns : List Int) : Int := ns.foldl (fun s c => (s * 31 + c) % 1000003) 7
def dr0 (ns : List Int) : Dr := ⟨ns.map fun n => (n.natAbs : Int), seedOf ns + 1⟩
theorem seed_rng (ns : List Int) : 0 ≤ seedOf ns ∧ seedOf ns < 1000003 := by
  unfold seedOf
  have : ∀ (ns : List Int) (s : Int), 0 ≤ s ∧ s < 1000003 → 0 ≤ ns.foldl (fun s c => (s * 31 + c) % 1000003) s ∧ ns.foldl (fun s c => (s * 31 + c) % 1000003) s < 1000003 := by
    intro ns
    induction ns with
    | nil => intro s h; exact h
    | cons n ns ih => intro s h; exact ih _ ⟨Int.emod_nonneg _ (by omega), Int.emod_lt_of_pos _ (by omega)⟩
  exact this ns 7 (by omega)
theorem dr0_ok (ns : List Int) : (dr0 ns).Ok := by
  have := seed_rng ns
  refine ⟨by simp only [dr0]; omega, by simp only [dr0]; omega, fun c hc => ?_⟩
  obtain ⟨n, _, rfl⟩ := List.mem_map.mp hc
  omega
theorem compL_map (fe : Loc → Sto → R A) (ft : Loc → Sto → R Bool) (tg : T) (k : IK) (as : List A) (l : Loc) (all : List A) (f : A → A) (s : Sto) (hg : itA k as s = some all) : ∀ xs : List A, (∀ x ∈ xs, kTurn fe ft (bindT tg x l s) s = .ok (some (f x)) s) → compL fe ft tg k as l all xs s = .ok (xs.map f) s
  | [], _ => rfl
  | x :: xs, h => by
    have ih := compL_map fe ft tg k as l all f s hg xs fun y hy => h y (by simp [hy])
    simp only [compL, h x (by simp), kMore, if_pos hg, ih]
    rfl
theorem run_state {t : Tb} {f : Nat} (hf : t.fns f = some ⟨1, 3, bState, none⟩) (k : Nat) (ns : List Int) (hl : ns.length ≤ big) : callF t (k + 1) f [.lst (ns.map .int)] [] = .ok (.ref 1) (dst (dr0 ns)) := by
  obtain ⟨l2, s2, h1, h2⟩ := for_inv (t := .nm 2) (k := .seq) (as := [.lst (ns.map .int)]) (ks := [2]) (g := evSs (t.env (callF t k)) [.asg (.nm 1) (.bin .mod false (.bc .int false [.bin .add false (.bin .mul false (.loc 1) (.int 31)) (.loc 2)]) (.int 1000003))]) (all := ns.map .int)
    (l := [some (.lst (ns.map .int)), some (.int 7), none]) (s := []) (fun i l s => s = [] ∧ l = [some (.lst (ns.map .int)), some (.int (seedOf (ns.take i))), none]) ⟨rfl, by simp [seedOf]⟩ (by
      rintro i a l s ha ⟨rfl, rfl⟩
      rw [List.getElem?_map] at ha
      obtain ⟨c, hc, rfl⟩ := Option.map_eq_some_iff.mp ha
      have hx : seedOf (ns.take (i + 1)) = (seedOf (ns.take i) * 31 + c) % 1000003 := by
        unfold seedOf
        rw [List.take_add_one, hc]
        simp
      have ho : okMul (seedOf (ns.take i)) 31 := .inr ⟨by omega, by omega⟩
      exact ⟨_, [some (.lst (ns.map .int)), some (.int ((seedOf (ns.take i) * 31 + c) % 1000003)), some (.int c)], [], rfl, .inl (by simp [ho]), by simp, rfl, by simp [hx]⟩)
  obtain ⟨rfl, rfl⟩ := h2
  have hs : seedOf (ns.take (ns.map A.int).length) = seedOf ns := by simp
  rw [hs] at h1
  have hc := compL_map (evE (t.env (callF t k)) (.bc .abs false [.loc 2])) (evC (t.env (callF t k)) none) (.nm 2) .seq [.lst (ns.map .int)] [some (.lst (ns.map .int)), some (.int (seedOf ns)), none] (ns.map .int)
    (fun a => match a with | .int i => .int i.natAbs | a => a) [] (by simp) (ns.map .int) (by
      intro x hx
      obtain ⟨c, _, rfl⟩ := List.mem_map.mp hx
      simp)
  have hm : (ns.map A.int).map (fun a => match a with | .int i => .int i.natAbs | a => a) = (ns.map fun n => (n.natAbs : Int)).map A.int := by simp
  rw [hm] at hc
  simp only [callF, hf, bState]
  simp [runF, locs, h1, hl, hc, dst, dr0]
/-! ### a pick -/
def bPick (fd : Nat) : List S := [.ret (.idx (.loc 1) (.call fd [.loc 0, .bc .len true [.loc 1]]))]
theorem atI_nat {α : Type} {xs : List α} {i : Int} (h0 : 0 ≤ i) (h1 : i < xs.length) : atI xs i = xs[i.toNat]? := by
  unfold atI ixN
  rw [if_pos h0, if_pos h1]
  rfl
theorem run_pick {t : Tb} {f fd : Nat} (hf : t.fns f = some ⟨2, 2, bPick fd, some 2⟩) (hd : t.fns fd = some ⟨2, 5, bDraw, some 2⟩) (k : Nat) (row : List A) (d : Dr) (rest : Sto) (h0 : row ≠ []) (h1 : row.length ≤ 1000) (hl : row.all flat = true) (ok : d.Ok) :
    ∃ a, row[(draw row.length d).1.toNat]? = some a ∧ callF t (k + 2) f [.ref 1, .lst row] (dst d ++ rest) = .ok a (dst (draw row.length d).2 ++ rest) := by
  have hp : (0 : Int) < row.length := by
    have := List.length_pos_iff.mpr h0
    omega
  obtain ⟨d0, d1, d2⟩ := draw_ok hp ok
  have hlt : (draw row.length d).1.toNat < row.length := by omega
  refine ⟨row[(draw row.length d).1.toNat], List.getElem?_eq_getElem hlt, ?_⟩
  have hfl : flat row[(draw row.length d).1.toNat] = true := List.all_eq_true.mp hl _ (List.getElem_mem hlt)
  have fr : mapO (frz (dst d ++ rest) 2 59) row = some row := mapO_id _ _ fun a ha => by
    have := List.all_eq_true.mp hl a ha
    cases a <;> first | rfl | cases this
  refine call_pre2 hfl hf ?_ rfl ?_
  · simp [fr]
  · have rd := run_draw hd k row.length d [] hp (by omega) ok
    simp only [List.append_nil] at rd
    have e := atI_nat (xs := row) d0 d1
    simp [locs, bPick, rd, e, List.getElem?_eq_getElem hlt]
/-! ### calls of defs that see nothing of the store -/
/-- nothing within from p on, and not deeper than n -/
def lo (p : Nat) : Nat → A → Bool
  | n + 1, .tup as => as.all (lo p n)
  | n + 1, .lst as => as.all (lo p n)
  | n + 1, .dct _ ks => ks.all fun kv => lowA p kv.1 && lo p n kv.2
  | _, .ref m => decide (m < p)
  | _, .non => true
  | _, .bl _ => true
  | _, .int _ => true
  | _, .str _ => true
  | _, .fn _ => true
  | _, .ctp _ => true
  | 0, _ => false
section
variable {p n : Nat} {as : List A} {t : Bool} {ks : List (A × A)}
@[simp] theorem lo_tup : lo p (n + 1) (.tup as) = as.all (lo p n) := rfl
@[simp] theorem lo_lst : lo p (n + 1) (.lst as) = as.all (lo p n) := rfl
@[simp] theorem lo_dct : lo p (n + 1) (.dct t ks) = ks.all fun kv => lowA p kv.1 && lo p n kv.2 := rfl
@[simp] theorem lo_ref {m : Nat} : lo p n (.ref m) = decide (m < p) := by cases n <;> rfl
@[simp] theorem lo_non : lo p n .non = true := by cases n <;> rfl
@[simp] theorem lo_bl {b : Bool} : lo p n (.bl b) = true := by cases n <;> rfl
@[simp] theorem lo_int {i : Int} : lo p n (.int i) = true := by cases n <;> rfl
@[simp] theorem lo_str {x : List Nat} : lo p n (.str x) = true := by cases n <;> rfl
@[simp] theorem lo_fn {f : Nat} : lo p n (.fn f) = true := by cases n <;> rfl
@[simp] theorem lo_ctp {as : List A} : lo p n (.ctp as) = true := by cases n <;> rfl
end
theorem lo_low (p : Nat) : ∀ (n : Nat) (a : A), lo p n a = true → lowA p a = true := by
  intro n
  induction n with
  | zero => intro a h; cases a <;> first | rfl | cases h | (simpa using h)
  | succ n ih =>
    intro a h
    cases a with
    | tup as => simp only [lo_tup, List.all_eq_true] at h; simp only [lowA, lowAs_all, List.all_eq_true]; exact fun x hx => ih x (h x hx)
    | lst as => simp only [lo_lst, List.all_eq_true] at h; simp only [lowA, lowAs_all, List.all_eq_true]; exact fun x hx => ih x (h x hx)
    | dct t ks =>
      simp only [lo_dct, List.all_eq_true, Bool.and_eq_true] at h
      simp only [lowA, lowKs_all, List.all_eq_true, Bool.and_eq_true]
      exact fun x hx => ⟨(h x hx).1, ih x.2 (h x hx).2⟩
    | ref m => simpa using h
    | _ => rfl
theorem frz_lo (s : Sto) (p : Nat) : ∀ (n : Nat) (a : A), lo p n a = true → frz s p n a = some a := by
  intro n
  induction n with
  | zero =>
    intro a h
    cases a with
    | ref m => simp only [lo_ref, decide_eq_true_eq] at h; show (if m < p then some (A.ref m) else none) = _; rw [if_pos h]
    | tup as => cases h
    | lst as => cases h
    | dct t ks => cases h
    | _ => rfl
  | succ n ih =>
    intro a h
    cases a with
    | tup as =>
      simp only [lo_tup, List.all_eq_true] at h
      show (mapO (frz s p n) as).map A.tup = _
      rw [mapO_id _ _ fun x hx => ih x (h x hx)]; rfl
    | lst as =>
      simp only [lo_lst, List.all_eq_true] at h
      show (mapO (frz s p n) as).map A.lst = _
      rw [mapO_id _ _ fun x hx => ih x (h x hx)]; rfl
    | dct t ks =>
      simp only [lo_dct, List.all_eq_true, Bool.and_eq_true] at h
      show (mapO (fun kv : A × A => (frz s p n kv.2).map fun v => (kv.1, v)) ks).map (A.dct t) = _
      rw [mapO_id _ _ fun x hx => by rw [ih x.2 (h x hx).2]; rfl]; rfl
    | ref m => simp only [lo_ref, decide_eq_true_eq] at h; show (if m < p then some (A.ref m) else _) = _; rw [if_pos h]
    | _ => rfl
/-- a call of a def that sees all -/
theorem call_all {t : Tb} {k f : Nat} {np nl : Nat} {b : List S} {as : List A} {s : Sto} {r : R A} (hf : t.fns f = some ⟨np, nl, b, none⟩) (hn : as.length = np) (h : (evSs (t.env (callF t k)) b (locs np nl as) s).res = r) : callF t (k + 1) f as s = r := by
  simp only [callF, hf]
  unfold runF
  rw [if_pos hn]
  exact h
/-- the arguments hold no reference: so does the end -/
theorem call_pure {t : Tb} {k f : Nat} {np nl : Nat} {b : List S} {as : List A} {a : A} {s s1 : Sto} (hf : t.fns f = some ⟨np, nl, b, some 0⟩) (ha : as.all (lo 0 60) = true) (hn : as.length = np) (hb : lo 0 60 a = true)
    (h : (evSs (t.env (callF t k)) b (locs np nl as) []).res = .ok a s1) : callF t (k + 1) f as s = .ok a s := by
  have e0 : mapO (frz s 0 60) as = some as := mapO_id _ _ fun x hx => frz_lo s 0 60 x (List.all_eq_true.mp ha x hx)
  simp only [callF, hf, e0]
  rw [if_pos (by simp)]
  have e9 : s.take 0 = [] := List.take_zero
  rw [e9]
  have e1 : as.all (lowA 0) = true := List.all_eq_true.mpr fun x hx => lo_low 0 60 x (List.all_eq_true.mp ha x hx)
  unfold runF
  rw [if_pos hn, h, e1]
  simp only [back, frz_lo s1 0 60 a hb]
  rw [if_pos (by simp)]
  simp
theorem call_pureX {t : Tb} {k f : Nat} {np nl : Nat} {b : List S} {as : List A} {e : Exn} {s s1 : Sto} (hf : t.fns f = some ⟨np, nl, b, some 0⟩) (ha : as.all (lo 0 60) = true) (hn : as.length = np) (hb : e.as.all flat = true)
    (h : (evSs (t.env (callF t k)) b (locs np nl as) []).res = .exc e s1) : callF t (k + 1) f as s = .exc e s := by
  have e0 : mapO (frz s 0 60) as = some as := mapO_id _ _ fun x hx => frz_lo s 0 60 x (List.all_eq_true.mp ha x hx)
  simp only [callF, hf, e0]
  rw [if_pos (by simp)]
  have e9 : s.take 0 = [] := List.take_zero
  rw [e9]
  have e1 : as.all (lowA 0) = true := List.all_eq_true.mpr fun x hx => lo_low 0 60 x (List.all_eq_true.mp ha x hx)
  unfold runF
  rw [if_pos hn, h, e1]
  simp only [back]
  rw [if_pos (by simp [hb])]
  simp
/-- the arguments are read as they stand: the end holds nothing that may be changed -/
theorem call_frz {t : Tb} {k f : Nat} {np nl : Nat} {b : List S} {as bs : List A} {a : A} {s s1 : Sto} (hf : t.fns f = some ⟨np, nl, b, some 0⟩) (ha : mapO (frz s 0 60) as = some bs) (hn : bs.length = np) (hb : flat a = true)
    (h : (evSs (t.env (callF t k)) b (locs np nl bs) []).res = .ok a s1) : callF t (k + 1) f as s = .ok a s := by
  simp only [callF, hf, ha]
  rw [if_pos (by simp)]
  have e9 : s.take 0 = [] := List.take_zero
  rw [e9]
  unfold runF
  rw [if_pos hn, h]
  have e2 : frz s1 0 60 a = some a := by cases a <;> first | rfl | cases hb
  simp only [back, e2]
  rw [if_pos (by simp [hb])]
  simp
end Py

set_option autoImplicit false
set_option linter.all false
/-! Numbers and constants that the texts share: printed by gen.py. -/
namespace Py
namespace F
def tokens_is_reserved : Nat := 0
def tokens_is_letter : Nat := 1
def tokens_is_digit : Nat := 2
def tokens_run_end : Nat := 3
def tokens_hex_value : Nat := 4
def tokens_number_value : Nat := 5
def tokens_run_token : Nat := 6
def tokens_sign_at : Nat := 7
def tokens_line_tokens : Nat := 8
def tokens_tokenize : Nat := 9
def L_state : Nat := 10
def L_draw : Nat := 11
def L_pick : Nat := 12
def L_words : Nat := 13
def L_signs : Nat := 14
def L_name : Nat := 15
def L_hex : Nat := 16
def L_piece : Nat := 17
def L_gap : Nat := 18
def L_apart : Nat := 19
def L_line : Nat := 20
def L_same : Nat := 21
def L_main : Nat := 22
def L_bad : Nat := 23
def L_good : Nat := 24
def L_before : Nat := 25
def L_outcome : Nat := 26
def L_main_v2 : Nat := 27
def parsing_Reader___init__ : Nat := 28
def parsing_Reader_peek : Nat := 29
def parsing_Reader_kind : Nat := 30
def parsing_Reader_fail : Nat := 31
def parsing_Reader_sees : Nat := 32
def parsing_Reader_skip : Nat := 33
def parsing_Reader_need : Nat := 34
def parsing_Reader_take : Nat := 35
def parsing_field : Nat := 36
def parsing_operand : Nat := 37
def parsing_expression : Nat := 38
def parsing_fields : Nat := 39
def parsing_target : Nat := 40
def parsing_selection : Nat := 41
def parsing_state : Nat := 42
def parsing_operation : Nat := 43
def parsing_action : Nat := 44
def parsing_key : Nat := 45
def parsing_numbers : Nat := 46
def parsing_table : Nat := 47
def parsing_test : Nat := 48
def parsing_block : Nat := 49
def parsing_names : Nat := 50
def parsing_header : Nat := 51
def parsing_repeated : Nat := 52
def parsing_parse_program : Nat := 53
def writing_field_text : Nat := 54
def writing_operand_text : Nat := 55
def writing_expression_text : Nat := 56
def writing_field_lines : Nat := 57
def writing_row_text : Nat := 58
def writing_state_lines : Nat := 59
def writing_operation_text : Nat := 60
def writing_action_lines : Nat := 61
def writing_table_lines : Nat := 62
def writing_test_text : Nat := 63
def writing_statement_lines : Nat := 64
def writing_write_program : Nat := 65
def L_name_v2 : Nat := 66
def L_fields : Nat := 67
def L_headers : Nat := 68
def L_refs : Nat := 69
def L_goal : Nat := 70
def L_select : Nat := 71
def L_states : Nat := 72
def L_operand : Nat := 73
def L_expression : Nat := 74
def L_operation : Nat := 75
def L_actions : Nat := 76
def L_args : Nat := 77
def L_table : Nat := 78
def L_test : Nat := 79
def L_control : Nat := 80
def L_program : Nat := 81
def L_field_text : Nat := 82
def L_expression_text : Nat := 83
def L_op_text : Nat := 84
def L_state_lines : Nat := 85
def L_table_lines : Nat := 86
def L_test_text : Nat := 87
def L_block_lines : Nat := 88
def L_lines : Nat := 89
def L_spread : Nat := 90
def L_same_v2 : Nat := 91
def L_main_v3 : Nat := 92
def L_name_v3 : Nat := 93
def L_lines_v2 : Nat := 94
def L_outcome_v2 : Nat := 95
def L_faulty : Nat := 96
def L_nested : Nat := 97
def L_main_v4 : Nat := 98
def rules_require : Nat := 99
def rules_is_name : Nat := 100
def rules_find : Nat := 101
def rules_width_in : Nat := 102
def rules_width_of : Nat := 103
def rules_check_pairs : Nat := 104
def rules_check_header : Nat := 105
def rules_check_row : Nat := 106
def rules_check_state : Nat := 107
def rules_check_operand : Nat := 108
def rules_check_expression : Nat := 109
def rules_check_operation : Nat := 110
def rules_check_action : Nat := 111
def rules_check_args : Nat := 112
def rules_check_table : Nat := 113
def rules_count : Nat := 114
def rules_check_test : Nat := 115
def rules_check_statements : Nat := 116
def rules_check_emits : Nat := 117
def rules_targets : Nat := 118
def rules_state_order : Nat := 119
def rules_check_extracts : Nat := 120
def rules_check_parser : Nat := 121
def rules_check : Nat := 122
def L_wide : Nat := 123
def L_widths : Nat := 124
def L_main_v5 : Nat := 125
def L_headers_v2 : Nat := 126
def L_states_v2 : Nat := 127
def L_actions_v2 : Nat := 128
def L_program_v2 : Nat := 129
def L_put : Nat := 130
def L_rule : Nat := 131
def L_header : Nat := 132
def L_parts : Nat := 133
def L_ops : Nat := 134
def L_act : Nat := 135
def L_tables : Nat := 136
def L_controls : Nat := 137
def L_main_v6 : Nat := 138
def L_goals : Nat := 139
def L_states_v3 : Nat := 140
def L_reaches_itself : Nat := 141
def L_path_right : Nat := 142
def L_main_v7 : Nat := 143
def entries_fits : Nat := 144
def entries_high_bits : Nat := 145
def entries_is_key : Nat := 146
def entries_is_entry : Nat := 147
def L_width : Nat := 148
def L_item : Nat := 149
def L_table_program : Nat := 150
def L_args_of : Nat := 151
def L_fits : Nat := 152
def L_right_item : Nat := 153
def L_due : Nat := 154
def L_turned : Nat := 155
def L_main_v8 : Nat := 156
def entries_key_matches : Nat := 157
def entries_matches : Nat := 158
def entries_prefix_length : Nat := 159
def entries_choose : Nat := 160
def entries_call_of : Nat := 161
def L_table_program_v2 : Nat := 162
def L_hits : Nat := 163
def L_near : Nat := 164
def L_rows : Nat := 165
def L_rank : Nat := 166
def L_main_v9 : Nat := 167
def meaning_bits_of : Nat := 168
def meaning_number_of : Nat := 169
def meaning_combine : Nat := 170
def meaning_Treatment___init__ : Nat := 171
def meaning_Treatment_value : Nat := 172
def meaning_Treatment_extract : Nat := 173
def meaning_Treatment_next_target : Nat := 174
def meaning_Treatment_parse : Nat := 175
def meaning_Treatment_operand : Nat := 176
def meaning_Treatment_evaluate : Nat := 177
def meaning_Treatment_clear : Nat := 178
def meaning_Treatment_operation : Nat := 179
def meaning_Treatment_apply : Nat := 180
def meaning_Treatment_holds : Nat := 181
def meaning_Treatment_execute : Nat := 182
def meaning_Treatment_emitted : Nat := 183
def meaning_choices : Nat := 184
def meaning_process : Nat := 185
def L_entry : Nat := 186
def L_entries : Nat := 187
def L_packet : Nat := 188
def L_find : Nat := 189
def L_extract : Nat := 190
def L_value : Nat := 191
def L_target : Nat := 192
def L_parse : Nat := 193
def L_operand_value : Nat := 194
def L_evaluate : Nat := 195
def L_zero : Nat := 196
def L_perform : Nat := 197
def L_hits_v2 : Nat := 198
def L_choose : Nat := 199
def L_apply : Nat := 200
def L_true : Nat := 201
def L_execute : Nat := 202
def L_emit : Nat := 203
def L_fate : Nat := 204
def L_sending : Nat := 205
def L_main_v10 : Nat := 206
def L_acting : Nat := 207
def L_main_v11 : Nat := 208
def L_main_v12 : Nat := 209
def layout_valid_cell : Nat := 210
def layout_header_cells : Nat := 211
def layout_cell_of : Nat := 212
def layout_widths : Nat := 213
def L_main_v13 : Nat := 214
def walking_goal_of : Nat := 215
def walking_step_of : Nat := 216
def walking_compile_parser : Nat := 217
def walking_next_goal : Nat := 218
def walking_whole : Nat := 219
def walking_take : Nat := 220
def walking_walk : Nat := 221
def L_cells : Nat := 222
def L_goal_of : Nat := 223
def L_step : Nat := 224
def L_main_v14 : Nat := 225
def nodes_span : Nat := 226
def nodes_table_node : Nat := 227
def nodes_test_node : Nat := 228
def nodes_statement_nodes : Nat := 229
def nodes_compile_control : Nat := 230
def L_cell : Nat := 231
def L_flat : Nat := 232
def L_plain : Nat := 233
def L_node_right : Nat := 234
def L_walk : Nat := 235
def L_follow : Nat := 236
def L_main_v15 : Nat := 237
def nodes_successors : Nat := 238
def nodes_stages : Nat := 239
def actions_compile_operand : Nat := 240
def actions_compile_expression : Nat := 241
def actions_compile_operation : Nat := 242
def actions_compile_action : Nat := 243
def images_key_mask : Nat := 244
def images_row_of : Nat := 245
def images_memory_of : Nat := 246
def images_emitter_of : Nat := 247
def images_build : Nat := 248
def L_control_v2 : Nat := 249
def L_goals_v2 : Nat := 250
def L_longest : Nat := 251
def L_refused : Nat := 252
def L_main_v16 : Nat := 253
def actions_operand_value : Nat := 254
def actions_result : Nat := 255
def actions_execute_move : Nat := 256
def actions_execute : Nat := 257
def images_enter_unit : Nat := 258
def images_look_up : Nat := 259
def images_key_values : Nat := 260
def images_choice : Nat := 261
def images_pass_stage : Nat := 262
def images_header_octets : Nat := 263
def images_emit : Nat := 264
def images_pass_unit : Nat := 265
def L_kinds_right : Nat := 266
def L_main_v17 : Nat := 267
def L_raised : Nat := 268
def L_main_v18 : Nat := 269
def images_run_image : Nat := 270
def L_same_v3 : Nat := 271
def L_main_v19 : Nat := 272
def X_wall : Nat := 273
def pipes_Unit___init__ : Nat := 274
def pipes_Unit_treat : Nat := 275
def pipes_Pipe___init__ : Nat := 276
def pipes_Pipe_write : Nat := 277
def pipes_Pipe_turn : Nat := 278
def pipes_Pipe_carries : Nat := 279
def pipes_Pipe_moved : Nat := 280
def pipes_Pipe_advance : Nat := 281
def pipes_Pipe_labels : Nat := 282
def pipes_Pipe_counts : Nat := 283
def L_versions : Nat := 284
def L_order : Nat := 285
def L_other : Nat := 286
def L_told : Nat := 287
def L_main_v20 : Nat := 288
def pipes_Pipe_carries_v2 : Nat := 289
def pipes_Pipe_labels_v2 : Nat := 290
def L_flow : Nat := 291
def L_counted : Nat := 292
def L_of_version : Nat := 293
def L_main_v21 : Nat := 294
def ledger_Ledger___init__ : Nat := 295
def ledger_Ledger_collect : Nat := 296
def ledger_Ledger_total : Nat := 297
def L_counts : Nat := 298
def L_main_v22 : Nat := 299
def journal_new_program : Nat := 300
def journal_kept_entries : Nat := 301
def journal_same_entry : Nat := 302
def journal_added : Nat := 303
def journal_removed : Nat := 304
def journal_changed : Nat := 305
def journal_Journal___init__ : Nat := 306
def journal_Journal_submit : Nat := 307
def journal_Journal_latest : Nat := 308
def journal_Journal_configuration : Nat := 309
def L_change : Nat := 310
def L_due_v2 : Nat := 311
def L_told_v2 : Nat := 312
def L_main_v23 : Nat := 313
def L_item_right : Nat := 314
def L_valid : Nat := 315
def L_reformed : Nat := 316
def L_next : Nat := 317
def L_main_v24 : Nat := 318
def L_told_v3 : Nat := 319
def L_made : Nat := 320
def L_batch : Nat := 321
def L_after : Nat := 322
def L_first : Nat := 323
def L_text : Nat := 324
def L_main_v25 : Nat := 325
def controller_Controller___init__ : Nat := 326
def controller_Controller_restart : Nat := 327
def controller_Controller_begin : Nat := 328
def controller_Controller_write : Nat := 329
def controller_Controller_step : Nat := 330
def L_text_v2 : Nat := 331
def L_carries : Nat := 332
def L_versions_v2 : Nat := 333
def L_step_v2 : Nat := 334
def L_flow_v2 : Nat := 335
def L_main_v26 : Nat := 336
def L_packets : Nat := 337
def L_main_v27 : Nat := 338
def L_text_v3 : Nat := 339
def L_change_v2 : Nat := 340
def L_totals : Nat := 341
def L_main_v28 : Nat := 342
def queues_Queue___init__ : Nat := 343
def queues_Queue_put : Nat := 344
def queues_Queue_take : Nat := 345
def queues_Queue_waiting : Nat := 346
def L_main_v29 : Nat := 347
def pipes_Pipe_labels_v3 : Nat := 348
def queues_Queue_waiting_v2 : Nat := 349
def switch_Switch___init__ : Nat := 350
def switch_Switch_accept_packet : Nat := 351
def switch_Switch_submit : Nat := 352
def switch_Switch_handle : Nat := 353
def switch_Switch_leave : Nat := 354
def switch_Switch_advance_pipe : Nat := 355
def switch_Switch_advance : Nat := 356
def switch_Switch_run : Nat := 357
def switch_Switch_inside : Nat := 358
def switch_Switch_hits : Nat := 359
def L_event : Nat := 360
def L_new : Nat := 361
def L_enter : Nat := 362
def L_leave : Nat := 363
def L_pipe : Nat := 364
def L_send : Nat := 365
def L_inside : Nat := 366
def L_tick : Nat := 367
def L_main_v30 : Nat := 368
def queues_Queue_waiting_v3 : Nat := 369
def switch_Switch_inside_v2 : Nat := 370
def L_change_v3 : Nat := 371
def L_due_v3 : Nat := 372
def L_main_v31 : Nat := 373
def judging_Judge___init__ : Nat := 374
def judging_Judge_stray : Nat := 375
def judging_Judge_wrong_version : Nat := 376
def judging_Judge_wrong_fate : Nat := 377
def judging_Judge_wrong_order : Nat := 378
def judging_Judge_finding : Nat := 379
def judging_judge : Nat := 380
def L_change_v4 : Nat := 381
def L_events : Nat := 382
def L_flow_v3 : Nat := 383
def L_turned_v2 : Nat := 384
def L_main_v32 : Nat := 385
def L_rows_v2 : Nat := 386
def L_due_port : Nat := 387
def L_event_v2 : Nat := 388
def L_finding : Nat := 389
def L_main_v33 : Nat := 390
def script_Session___init__ : Nat := 391
def script_number_of : Nat := 392
def script_size_of : Nat := 393
def script_octets_of : Nat := 394
def script_key_of : Nat := 395
def script_args_of : Nat := 396
def script_change_of : Nat := 397
def script_item_text : Nat := 398
def script_start : Nat := 399
def script_ticks : Nat := 400
def script_show : Nat := 401
def script_perform : Nat := 402
def script_text_end : Nat := 403
def script_run_script : Nat := 404
def L_hex_v2 : Nat := 405
def L_key : Nat := 406
def L_keys : Nat := 407
def L_item_text : Nat := 408
def L_show : Nat := 409
def L_command : Nat := 410
def L_spread_v2 : Nat := 411
def L_start : Nat := 412
def L_main_v34 : Nat := 413
def L_bad_v2 : Nat := 414
def L_good_v2 : Nat := 415
def L_outcome_v3 : Nat := 416
def L_program_v3 : Nat := 417
def L_main_v35 : Nat := 418
def L_main_v36 : Nat := 419
def L_main_v37 : Nat := 420
def L_main_v38 : Nat := 421
def L_ended : Nat := 422
def L_refused_right : Nat := 423
def L_main_v39 : Nat := 424
def L_main_v40 : Nat := 425
def L_flow_v4 : Nat := 426
def L_steady : Nat := 427
def L_main_v41 : Nat := 428
def L_shown : Nat := 429
def L_entered : Nat := 430
def L_ends : Nat := 431
def L_agree : Nat := 432
def L_main_v42 : Nat := 433
def L_state_of : Nat := 434
def L_main_v43 : Nat := 435
def L_one : Nat := 436
def L_submit : Nat := 437
def L_empty : Nat := 438
def L_take : Nat := 439
def L_step_v3 : Nat := 440
def L_pipe_v2 : Nat := 441
def L_send_v2 : Nat := 442
def L_inside_v2 : Nat := 443
def L_change_v5 : Nat := 444
def L_event_v3 : Nat := 445
def L_spoil : Nat := 446
def L_switch : Nat := 447
def L_tick_v2 : Nat := 448
def L_new_v2 : Nat := 449
def L_main_v44 : Nat := 450
def L_made_v2 : Nat := 451
def L_passed : Nat := 452
def L_told_right : Nat := 453
def L_switch_v2 : Nat := 454
def L_main_v45 : Nat := 455
def L_rule_v2 : Nat := 456
def L_bad_v3 : Nat := 457
def L_base : Nat := 458
def L_headers_v3 : Nat := 459
def L_meta : Nat := 460
def L_states_v4 : Nat := 461
def L_actions_v3 : Nat := 462
def L_tables_v2 : Nat := 463
def L_statements : Nat := 464
def L_paths : Nat := 465
def L_more : Nat := 466
def L_break : Nat := 467
def L_main_v46 : Nat := 468
def L_first_rules : Nat := 469
def L_rules : Nat := 470
def L_sentence : Nat := 471
def L_terminals : Nat := 472
def L_turned_v3 : Nat := 473
def L_written : Nat := 474
def L_line_v2 : Nat := 475
def L_leaves : Nat := 476
def L_outcome_v4 : Nat := 477
def L_main_v47 : Nat := 478
def L_places : Nat := 479
def L_parts_v2 : Nat := 480
def L_goal_of_v2 : Nat := 481
def L_parser : Nat := 482
def L_count : Nat := 483
def L_test_node : Nat := 484
def L_nodes : Nat := 485
def L_stages : Nat := 486
def L_move_operand : Nat := 487
def L_move : Nat := 488
def L_moves : Nat := 489
def L_masked : Nat := 490
def L_memory : Nat := 491
def L_image : Nat := 492
def L_after_v2 : Nat := 493
def L_same_v4 : Nat := 494
def L_treated : Nat := 495
def L_main_v48 : Nat := 496
end F
namespace C
def ValueError : Nat := 0
def errors_SwitchError : Nat := 1
def errors_TextError : Nat := 2
def errors_RuleError : Nat := 3
def errors_CommandError : Nat := 4
def parsing_Reader : Nat := 5
def errors_ChangeError : Nat := 6
def meaning_Treatment : Nat := 7
def errors_BuildError : Nat := 8
def pipes_Unit : Nat := 9
def pipes_Pipe : Nat := 10
def ledger_Ledger : Nat := 11
def journal_Journal : Nat := 12
def controller_Controller : Nat := 13
def queues_Queue : Nat := 14
def switch_Switch : Nat := 15
def judging_Judge : Nat := 16
def script_Session : Nat := 17
end C
namespace G
def tokens_RESERVED : Nat := 0
def tokens_SIGNS : Nat := 1
def tokens_HEX_DIGITS : Nat := 2
def tokens_LONGEST_NAME : Nat := 3
def tokens_GREATEST : Nat := 4
def parsing_MOST_BLOCKS : Nat := 5
def parsing_MOST_NOTS : Nat := 6
def parsing_KINDS : Nat := 7
def parsing_OPERATORS : Nat := 8
def rules_PORT : Nat := 9
def rules_ENDS : Nat := 10
def entries_DEFAULT : Nat := 11
def meaning_LONGEST : Nat := 12
def walking_ACCEPT : Nat := 13
def walking_REJECT : Nat := 14
def walking_NO_PORT : Nat := 15
def actions_NO_PORT : Nat := 16
def actions_NOTHING : Nat := 17
def images_STAGES : Nat := 18
def actions_OUT : Nat := 19
def images_NO_PORT : Nat := 20
def images_LONGEST : Nat := 21
def pipes_UNITS : Nat := 22
def controller_UNITS : Nat := 23
def switch_PORTS : Nat := 24
def judging_ENDS : Nat := 25
def script_GREATEST : Nat := 26
def script_MOST_TICKS : Nat := 27
def script_MOST_OCTETS : Nat := 28
end G
def v_tokens_RESERVED : A := .ctp [.str [97, 99, 99, 101, 112, 116], .str [97, 99, 116, 105, 111, 110], .str [97, 100, 100], .str [97, 112, 112, 108, 121], .str [99, 111, 110, 116, 114, 111, 108], .str [100, 101, 102, 97, 117, 108, 116], .str [100, 114, 111, 112], .str [101, 108, 115, 101], .str [101, 109, 105, 116], .str [101, 120, 97, 99, 116], .str [101, 120, 116, 114, 97, 99, 116], .str [103, 111], .str [104, 101, 97, 100, 101, 114], .str [105, 102], .str [107, 101, 121], .str [109, 97, 115, 107], .str [109, 101, 116, 97], .str [110, 111, 116], .str [112, 97, 99, 107, 101, 116], .str [112, 97, 114, 115, 101, 114], .str [112, 114, 101, 102, 105, 120], .str [112, 114, 111, 103, 114, 97, 109], .str [114, 101, 106, 101, 99, 116], .str [114, 101, 109, 111, 118, 101], .str [115, 101, 108, 101, 99, 116], .str [115, 101, 110, 100], .str [115, 105, 122, 101], .str [115, 116, 97, 116, 101], .str [116, 97, 98, 108, 101], .str [117, 115, 101], .str [118, 97, 108, 105, 100]]
def v_tokens_SIGNS : A := .ctp [.str [45, 62], .str [61, 61], .str [123], .str [125], .str [40], .str [41], .str [58], .str [59], .str [44], .str [46], .str [61], .str [60], .str [43], .str [45], .str [38], .str [124], .str [94]]
def v_tokens_HEX_DIGITS : A := .str [48, 49, 50, 51, 52, 53, 54, 55, 56, 57, 97, 98, 99, 100, 101, 102]
def v_tokens_LONGEST_NAME : A := .int 16
def v_tokens_GREATEST : A := .int 4294967295
def v_parsing_MOST_BLOCKS : A := .int 8
def v_parsing_MOST_NOTS : A := .int 8
def v_parsing_KINDS : A := .ctp [.str [101, 120, 97, 99, 116], .str [109, 97, 115, 107], .str [112, 114, 101, 102, 105, 120]]
def v_parsing_OPERATORS : A := .ctp [.str [43], .str [45], .str [38], .str [124], .str [94]]
def v_rules_PORT : A := .ctp [.str [112, 97, 99, 107, 101, 116], .str [112, 111, 114, 116]]
def v_rules_ENDS : A := .ctp [.str [97, 99, 99, 101, 112, 116], .str [114, 101, 106, 101, 99, 116]]
def v_entries_DEFAULT : A := .int (-1)
def v_meaning_LONGEST : A := .int 64
def v_walking_ACCEPT : A := .int (-1)
def v_walking_REJECT : A := .int (-2)
def v_walking_NO_PORT : A := .int 8
def v_actions_NO_PORT : A := .int 8
def v_actions_NOTHING : A := .ctp [.str [110, 117, 109], .int 0]
def v_images_STAGES : A := .int 12
def v_actions_OUT : A := .int 1
def v_images_NO_PORT : A := .int 8
def v_images_LONGEST : A := .int 64
def v_pipes_UNITS : A := .int 14
def v_controller_UNITS : A := .int 14
def v_switch_PORTS : A := .int 8
def v_judging_ENDS : A := .ctp [.str [100, 114, 111, 112, 112, 101, 100], .str [108, 111, 115, 116], .str [115, 101, 110, 116]]
def v_script_GREATEST : A := .int 4294967295
def v_script_MOST_TICKS : A := .int 4096
def v_script_MOST_OCTETS : A := .int 64
end Py

set_option autoImplicit false
set_option linter.all false
set_option maxRecDepth 100000
namespace Py
/- L_draw: slots 0 _law_state_here, 1 _law_many, 2 _law_cells, 3 _law_value, 4 _law_mixed -/
def b_L_draw : List S := [.asg (.nm 2) (.idx (.loc 0) (.int 0)),
  .whl (.and (.cmp .gt (.bc .len true [.loc 2]) (.int 0)) (.cmp .eq (.idx (.loc 2) (.int 0)) (.int 0)))
  [.ex (.bm .pop1 true (.loc 2) [.int 0])] [],
  .iff (.cmp .gt (.bc .len true [.loc 2]) (.int 0))
  [.asg (.nm 3) (.idx (.loc 2) (.int 0)),
  .sub (.loc 2) (.int 0) (.bin .fdiv true (.loc 3) (.loc 1)),
  .ret (.bin .mod true (.bc .int true [.loc 3]) (.loc 1))]
  [],
  .kil [3],
  .asg (.nm 4) (.bin .mod true (.bc .int true [.bin .add true (.bin .mul true (.idx (.loc 0) (.int 1)) (.int 48271)) (.int 12345)]) (.int 2147483647)),
  .sub (.loc 0) (.int 1) (.loc 4),
  .ret (.bin .mod true (.bc .int true [.bin .fdiv true (.loc 4) (.int 64)]) (.loc 1))]
def d_L_draw : Fn := ⟨2, 5, b_L_draw, (some 2)⟩
end Py

set_option autoImplicit false
set_option linter.all false
set_option maxRecDepth 100000
namespace Py
/- L_pick: slots 0 _law_state_here, 1 _law_row -/
def b_L_pick : List S := [.ret (.idx (.loc 1) (.call F.L_draw [.loc 0, .bc .len true [.loc 1]]))]
def d_L_pick : Fn := ⟨2, 2, b_L_pick, none⟩
end Py

set_option autoImplicit false
set_option linter.all false
set_option maxRecDepth 100000
namespace Py
/- L_state: slots 0 _law_script, 1 _law_seed, 2 _law_cell -/
def b_L_state : List S := [.asg (.nm 1) (.int 7),
  .forr (.nm 2) .seq [.loc 0]
  [.asg (.nm 1) (.bin .mod false (.bc .int false [.bin .add false (.bin .mul false (.loc 1) (.int 31)) (.loc 2)]) (.int 1000003))] [2],
  .ret (.lst false [.lcomp false (.bc .abs false [.loc 2]) (.nm 2) .seq [.loc 0] none [2], .bin .add false (.loc 1) (.int 1)])]
def d_L_state : Fn := ⟨1, 3, b_L_state, none⟩
end Py

set_option autoImplicit false
set_option linter.all false
set_option Elab.async false
set_option maxRecDepth 100000
set_option maxHeartbeats 4000000
/-! PyM: draws and picks of the laws' texts, by their numbers; loops and comprehensions with an end ahead. -/
namespace Py
section
variable {t : Tb}
theorem r_state [i : HasF t F.L_state d_L_state] (k : Nat) (ns : List Int) (hl : ns.length ≤ big) : callF t (k + 1) F.L_state [.lst (ns.map .int)] [] = .ok (.ref 1) (dst (dr0 ns)) := run_state i.h k ns hl
theorem r_draw [i : HasF t F.L_draw d_L_draw] (k : Nat) (m : Int) (d : Dr) (rest : Sto) (h0 : 0 < m) (h1 : m < 2 ^ 64) (hd : d.Ok) :
    callF t (k + 1) F.L_draw [.ref 1, .int m] (dst d ++ rest) = .ok (.int (draw m d).1) (dst (draw m d).2 ++ rest) := run_draw i.h k m d rest h0 h1 hd
theorem r_pickV [i : HasF t F.L_draw d_L_draw] [j : HasF t F.L_pick d_L_pick] (k : Nat) (row : List A) (d : Dr) (rest : Sto) (h0 : row ≠ []) (h1 : row.length ≤ 1000) (ok : d.Ok) :
    ∃ a, row[(draw row.length d).1.toNat]? = some a ∧ callF t (k + 2) F.L_pick [.ref 1, .lst row] (dst d ++ rest) = .ok a (dst (draw row.length d).2 ++ rest) := by
  have hp : (0 : Int) < row.length := by
    have := List.length_pos_iff.mpr h0
    omega
  obtain ⟨d0, d1, d2⟩ := draw_ok hp ok
  have hlt : (draw row.length d).1.toNat < row.length := by omega
  refine ⟨row[(draw row.length d).1.toNat], List.getElem?_eq_getElem hlt, ?_⟩
  have rd := r_draw (t := t) k row.length d rest hp (by omega) ok
  have e := atI_nat (xs := row) d0 d1
  refine call_all (np := 2) (nl := 2) (b := b_L_pick) j.h rfl ?_
  simp [locs, b_L_pick, rd, e, List.getElem?_eq_getElem hlt]
theorem r_pickR [i : HasF t F.L_draw d_L_draw] [j : HasF t F.L_pick d_L_pick] (k n : Nat) (row : List A) (d : Dr) (rest : Sto) (hr : rest[n]? = some (.lst row)) (h0 : row ≠ []) (h1 : row.length ≤ 1000) (ok : d.Ok) :
    ∃ a, row[(draw row.length d).1.toNat]? = some a ∧ callF t (k + 2) F.L_pick [.ref 1, .ref (n + 2)] (dst d ++ rest) = .ok a (dst (draw row.length d).2 ++ rest) := by
  have hp : (0 : Int) < row.length := by
    have := List.length_pos_iff.mpr h0
    omega
  obtain ⟨d0, d1, d2⟩ := draw_ok hp ok
  have hlt : (draw row.length d).1.toNat < row.length := by omega
  refine ⟨row[(draw row.length d).1.toNat], List.getElem?_eq_getElem hlt, ?_⟩
  have rd := r_draw (t := t) k row.length d rest hp (by omega) ok
  have e := atI_nat (xs := row) d0 d1
  have hc : ∀ d : Dr, (dst d ++ rest)[n + 2]? = some (.lst row) := fun d => by
    rw [List.getElem?_append_right (by simp [dst])]
    simpa [dst] using hr
  refine call_all (np := 2) (nl := 2) (b := b_L_pick) j.h rfl ?_
  simp [locs, b_L_pick, rd, e, hc, List.getElem?_eq_getElem hlt]
end
/-! ### the store behind the state -/
section
variable {d : Dr} {rest : Sto} {c c3 c4 c5 c6 x : Cell}
theorem dst_len : (dst d).length = 2 := rfl
@[simp] theorem dst_get2 : (dst d ++ (c :: rest))[2]? = some c := rfl
@[simp] theorem dst_get3 : (dst d ++ (c :: c3 :: rest))[3]? = some c3 := rfl
@[simp] theorem dst_get4 : (dst d ++ (c :: c3 :: c4 :: rest))[4]? = some c4 := rfl
@[simp] theorem dst_get5 : (dst d ++ (c :: c3 :: c4 :: c5 :: rest))[5]? = some c5 := rfl
@[simp] theorem dst_set2 : (dst d ++ (c :: rest)).set 2 x = dst d ++ (x :: rest) := rfl
@[simp] theorem dst_set3 : (dst d ++ (c :: c3 :: rest)).set 3 x = dst d ++ (c :: x :: rest) := rfl
@[simp] theorem dst_set4 : (dst d ++ (c :: c3 :: c4 :: rest)).set 4 x = dst d ++ (c :: c3 :: x :: rest) := rfl
@[simp] theorem dst_at2 {h : 2 < (dst d ++ (c :: rest)).length} : (dst d ++ (c :: rest))[2] = c := rfl
@[simp] theorem dst_at3 {h : 3 < (dst d ++ (c :: c3 :: rest)).length} : (dst d ++ (c :: c3 :: rest))[3] = c3 := rfl
@[simp] theorem dst_at4 {h : 4 < (dst d ++ (c :: c3 :: c4 :: rest)).length} : (dst d ++ (c :: c3 :: c4 :: rest))[4] = c4 := rfl
theorem dst_getn (n : Nat) : (dst d ++ rest)[n + 2]? = rest[n]? := by
  rw [List.getElem?_append_right (by simp [dst_len])]
  simp [dst_len]
theorem dst_setn (n : Nat) : (dst d ++ rest).set (n + 2) x = dst d ++ rest.set n x := by
  rw [List.set_append_right _ _ (by simp [dst_len])]
  simp [dst_len]
theorem upFrom_mem {n : Nat} {a : A} (h : a ∈ upFrom 0 1 n) : ∃ i : Nat, i < n ∧ a = .int i := by
  obtain ⟨i, hi, e⟩ := List.mem_iff_getElem.mp h
  obtain ⟨h1, h2⟩ := upFrom_at 1 n i 0 a (by rw [List.getElem?_eq_getElem hi, e])
  exact ⟨i, h2, by rw [h1]; congr 1; omega⟩
theorem upFrom_range : ∀ n : Nat, upFrom 0 1 n = (List.range n).map fun i : Nat => A.int i := fun n => by
  apply List.ext_getElem?
  intro i
  by_cases h : i < n
  · have hl : i < (upFrom 0 1 n).length := by rw [upFrom_length]; exact h
    obtain ⟨h1, _⟩ := upFrom_at 1 n i 0 _ (List.getElem?_eq_getElem hl)
    rw [List.getElem?_eq_getElem hl, h1]
    simp [h]
  · have hl : (upFrom 0 1 n).length ≤ i := by rw [upFrom_length]; omega
    rw [List.getElem?_eq_none hl]
    simp [h]
theorem it_range {n : Int} (h : inB n) (s : Sto) : itA .rng [.int n] s = some ((List.range n.toNat).map fun i : Nat => A.int i) := by
  show (if inB n then some (upFrom 0 1 n.toNat) else none) = _
  rw [if_pos h, upFrom_range]
theorem findSome_all {α : Type} (b : α → Bool) (v : A) : ∀ xs : List α, xs.findSome? (fun x => if b x = true then none else some v) = if xs.all b = true then none else some v
  | [] => rfl
  | x :: xs => by
    rw [List.findSome?_cons, List.all_cons]
    cases hx : b x with
    | true => simp only [if_true, Bool.true_and]; exact findSome_all b v xs
    | false => simp
end
/-! ### places with a number -/
section
variable {α : Type} {l : List α} {a0 a1 a2 a3 a4 a5 a6 a7 a8 a9 : α}
@[simp] theorem atI_c0 : atI (a0 :: l) 0 = some a0 := by
  rw [atI_nat (by omega) (by simp only [List.length_cons]; omega)]
  rfl
@[simp] theorem atI_c1 : atI (a0 :: a1 :: l) 1 = some a1 := by
  rw [atI_nat (by omega) (by simp only [List.length_cons]; omega)]
  rfl
@[simp] theorem atI_c2 : atI (a0 :: a1 :: a2 :: l) 2 = some a2 := by
  rw [atI_nat (by omega) (by simp only [List.length_cons]; omega)]
  rfl
@[simp] theorem atI_c3 : atI (a0 :: a1 :: a2 :: a3 :: l) 3 = some a3 := by
  rw [atI_nat (by omega) (by simp only [List.length_cons]; omega)]
  rfl
@[simp] theorem atI_c4 : atI (a0 :: a1 :: a2 :: a3 :: a4 :: l) 4 = some a4 := by
  rw [atI_nat (by omega) (by simp only [List.length_cons]; omega)]
  rfl
@[simp] theorem atI_c5 : atI (a0 :: a1 :: a2 :: a3 :: a4 :: a5 :: l) 5 = some a5 := by
  rw [atI_nat (by omega) (by simp only [List.length_cons]; omega)]
  rfl
@[simp] theorem atI_c6 : atI (a0 :: a1 :: a2 :: a3 :: a4 :: a5 :: a6 :: l) 6 = some a6 := by
  rw [atI_nat (by omega) (by simp only [List.length_cons]; omega)]
  rfl
@[simp] theorem atI_c7 : atI (a0 :: a1 :: a2 :: a3 :: a4 :: a5 :: a6 :: a7 :: l) 7 = some a7 := by
  rw [atI_nat (by omega) (by simp only [List.length_cons]; omega)]
  rfl
@[simp] theorem atI_c8 : atI (a0 :: a1 :: a2 :: a3 :: a4 :: a5 :: a6 :: a7 :: a8 :: l) 8 = some a8 := by
  rw [atI_nat (by omega) (by simp only [List.length_cons]; omega)]
  rfl
@[simp] theorem atI_c9 : atI (a0 :: a1 :: a2 :: a3 :: a4 :: a5 :: a6 :: a7 :: a8 :: a9 :: l) 9 = some a9 := by
  rw [atI_nat (by omega) (by simp only [List.length_cons]; omega)]
  rfl
end
/-! ### loops -/
/-- a for whose turns change nothing, and that may come to an end ahead: f tells the end -/
theorem forL_find {t : T} {k : IK} {as : List A} {ks : List Nat} {g : Loc → Sto → Fl} {all : List A} {l : Loc} {s : Sto} (f : A → Option A) (hk : kill ks l = l) (hi : itA k as s = some all)
    (step : ∀ a ∈ all, ∃ l1, bindT t a l s = some l1 ∧ ((∃ v, f a = some v ∧ g l1 s = .ret v s) ∨ (f a = none ∧ ∃ l2, (g l1 s = .nx l2 s ∨ g l1 s = .cnt l2 s) ∧ kill ks l2 = l))) :
    ∀ xs : List A, (∀ a ∈ xs, a ∈ all) → forL t k as ks g all xs l s = (match xs.findSome? f with
      | some v => .ret v s
      | none => .nx l s)
  | [], _ => by simp only [forL, List.findSome?_nil, hk]
  | a :: xs, hs => by
    obtain ⟨l1, e1, h | ⟨h, l2, e2, e3⟩⟩ := step a (hs a (by simp))
    · obtain ⟨v, h1, h2⟩ := h
      simp only [forL, e1, kTurnF, h2, kLoop, List.findSome?_cons, h1]
    · have ih := forL_find f hk hi step xs fun b hb => hs b (by simp [hb])
      simp only [forL, e1, kTurnF, List.findSome?_cons, h]
      rcases e2 with e2 | e2 <;> (rw [e2]; simp only [kLoop]; rw [kAgain_eq _ _ _ _ _ _ _ hi, e3]; exact ih)
/-- the same, over what the items stand for -/
theorem forL_findE {α : Type} (enc : α → A) (f : α → Option A) {t : T} {k : IK} {as : List A} {ks : List Nat} {g : Loc → Sto → Fl} (all : List α) {l : Loc} {s : Sto} (hk : kill ks l = l) (hi : itA k as s = some (all.map enc))
    (step : ∀ a ∈ all, ∃ l1, bindT t (enc a) l s = some l1 ∧ ((∃ v, f a = some v ∧ g l1 s = .ret v s) ∨ (f a = none ∧ ∃ l2, (g l1 s = .nx l2 s ∨ g l1 s = .cnt l2 s) ∧ kill ks l2 = l))) :
    forL t k as ks g (all.map enc) (all.map enc) l s = (match all.findSome? f with
      | some v => .ret v s
      | none => .nx l s) := by
  have go : ∀ xs : List α, (∀ a ∈ xs, a ∈ all) → forL t k as ks g (all.map enc) (xs.map enc) l s = (match xs.findSome? f with
      | some v => .ret v s
      | none => .nx l s) := by
    intro xs
    induction xs with
    | nil => intro _; simp only [List.map_nil, forL, List.findSome?_nil, hk]
    | cons a xs ih =>
      intro hs
      obtain ⟨l1, e1, h | ⟨h, l2, e2, e3⟩⟩ := step a (hs a (by simp))
      · obtain ⟨v, h1, h2⟩ := h
        simp only [List.map_cons, forL, e1, kTurnF, h2, kLoop, List.findSome?_cons, h1]
      · have ih2 := ih fun b hb => hs b (by simp [hb])
        simp only [List.map_cons, forL, e1, kTurnF, List.findSome?_cons, h]
        rcases e2 with e2 | e2 <;> (rw [e2]; simp only [kLoop]; rw [kAgain_eq _ _ _ _ _ _ _ hi, e3]; exact ih2)
  exact go all fun _ h => h
/-- a for that goes to its end: what it carries along -/
theorem forL_foldE {α σ : Type} (enc : α → A) (L : σ → Loc) (S : σ → Sto) (f : σ → α → σ) (P : σ → Prop) {t : T} {k : IK} {as : List A} {ks : List Nat} {g : Loc → Sto → Fl} (all : List α) (hk : ∀ z, kill ks (L z) = L z) (hi : ∀ z, P z → itA k as (S z) = some (all.map enc))
    (step : ∀ a ∈ all, ∀ z, P z → P (f z a) ∧ ∃ l1 l2, bindT t (enc a) (L z) (S z) = some l1 ∧ (g l1 (S z) = .nx l2 (S (f z a)) ∨ g l1 (S z) = .cnt l2 (S (f z a))) ∧ kill ks l2 = L (f z a)) (z0 : σ) (h0 : P z0) :
    forL t k as ks g (all.map enc) (all.map enc) (L z0) (S z0) = .nx (L (all.foldl f z0)) (S (all.foldl f z0)) ∧ P (all.foldl f z0) := by
  have go : ∀ xs : List α, (∀ a ∈ xs, a ∈ all) → ∀ z, P z → forL t k as ks g (all.map enc) (xs.map enc) (L z) (S z) = .nx (L (xs.foldl f z)) (S (xs.foldl f z)) ∧ P (xs.foldl f z) := by
    intro xs
    induction xs with
    | nil => intro _ z pz; simp only [List.map_nil, forL, List.foldl_nil, hk]; exact ⟨trivial, pz⟩
    | cons a xs ih =>
      intro hs z pz
      obtain ⟨p2, l1, l2, e1, e2, e3⟩ := step a (hs a (by simp)) z pz
      obtain ⟨i1, i2⟩ := ih (fun b hb => hs b (by simp [hb])) (f z a) p2
      simp only [List.map_cons, forL, e1, kTurnF, List.foldl_cons]
      refine ⟨?_, i2⟩
      rcases e2 with e2 | e2 <;> (rw [e2]; simp only [kLoop]; rw [kAgain_eq _ _ _ _ _ _ _ (hi _ p2), e3]; exact i1)
  exact go all (fun _ h => h) z0 h0
theorem enumA_map {α : Type} (f : α → A) : ∀ (xs : List α) (n : Nat), enumA n (xs.map f) = (xs.zipIdx n).map fun x => .tup [.int x.2, f x.1]
  | [], n => rfl
  | x :: xs, n => by simp [enumA, enumA_map f xs (n + 1)]
/-- a comprehension with a test, that changes nothing -/
theorem compL_filt (fe : Loc → Sto → R A) (ft : Loc → Sto → R Bool) (tg : T) (k : IK) (as : List A) (l : Loc) (all : List A) (f : A → Option A) (s : Sto) (hg : itA k as s = some all) :
    ∀ xs : List A, (∀ x ∈ xs, kTurn fe ft (bindT tg x l s) s = .ok (f x) s) → compL fe ft tg k as l all xs s = .ok (xs.filterMap f) s
  | [], _ => rfl
  | x :: xs, h => by
    have ih := compL_filt fe ft tg k as l all f s hg xs fun y hy => h y (by simp [hy])
    simp only [compL, h x (by simp), kMore, if_pos hg, ih, List.filterMap_cons]
    cases f x <;> rfl
/-- a state that goes through -/
def mapS {α β σ : Type} (f : α → σ → β × σ) : List α → σ → List β × σ
  | [], d => ([], d)
  | a :: as, d => ((f a d).1 :: (mapS f as (f a d).2).1, (mapS f as (f a d).2).2)
theorem mapS_len {α β σ : Type} (f : α → σ → β × σ) : ∀ (as : List α) (d : σ), (mapS f as d).1.length = as.length
  | [], d => rfl
  | a :: as, d => by simp [mapS, mapS_len f as]
/-- a comprehension whose turns draw: what each turn gives and leaves is known by a relation -/
theorem compL_rel {α : Type} (enc : α → A) (P : Dr → Prop) (Q : Nat → α → Prop) (fe : Loc → Sto → R A) (ft : Loc → Sto → R Bool) (tg : T) (k : IK) (as : List A) (l : Loc) (all : List A) (st : Dr → Sto) (hg : ∀ d, itA k as (st d) = some all)
    (h : ∀ i x d, all[i]? = some x → P d → ∃ y d2, P d2 ∧ Q i y ∧ kTurn fe ft (bindT tg x l (st d)) (st d) = .ok (some (enc y)) (st d2)) :
    ∀ (xs : List A) (i : Nat) (d : Dr), all.drop i = xs → P d → ∃ (ys : List α) (d2 : Dr), P d2 ∧ ys.length = xs.length ∧ (∀ j y, ys[j]? = some y → Q (i + j) y) ∧ compL fe ft tg k as l all xs (st d) = .ok (ys.map enc) (st d2)
  | [], i, d, _, p => ⟨[], d, p, rfl, fun j y e => by simp at e, rfl⟩
  | x :: xs, i, d, hd, p => by
    have hx : all[i]? = some x := by have := congrArg (fun z => z[0]?) hd; simpa using this
    have hd2 : all.drop (i + 1) = xs := by have := congrArg List.tail hd; simpa using this
    obtain ⟨y, d2, p2, q, e⟩ := h i x d hx p
    obtain ⟨ys, d3, p3, e1, e2, e3⟩ := compL_rel enc P Q fe ft tg k as l all st hg h xs (i + 1) d2 hd2 p2
    refine ⟨y :: ys, d3, p3, by simp [e1], fun j z hz => ?_, ?_⟩
    · cases j with
      | zero => simp at hz; rw [← hz]; exact q
      | succ j => simp at hz; have := e2 j z hz; rwa [show i + (j + 1) = i + 1 + j from by omega]
    · simp only [compL, e, kMore, if_pos (hg d2), e3]
      rfl
/-! ### calls of defs that see the state alone -/
theorem call_two {t : Tb} {k f : Nat} {np nl : Nat} {b : List S} {as : List A} {d d2 : Dr} {rest s2 : Sto} {a a2 : A} (hf : t.fns f = some ⟨np, nl, b, some 2⟩) (ha : as.all (lo 2 60) = true) (hn : as.length = np)
    (h : (evSs (t.env (callF t k)) b (locs np nl as) (dst d)).res = .ok a (dst d2 ++ s2)) (hz : frz (dst d2 ++ s2) 2 60 a = some a2) : callF t (k + 1) f as (dst d ++ rest) = .ok a2 (dst d2 ++ rest) := by
  have e0 : mapO (frz (dst d ++ rest) 2 60) as = some as := mapO_id _ _ fun x hx => frz_lo _ 2 60 x (List.all_eq_true.mp ha x hx)
  have e1 : (dst d ++ rest).take 2 = dst d := by simp [dst]
  have e2 : (dst d ++ rest).drop 2 = rest := by simp [dst]
  have e3 : as.all (lowA 2) = true := List.all_eq_true.mpr fun x hx => lo_low 2 60 x (List.all_eq_true.mp ha x hx)
  simp only [callF, hf, e0]
  have hl : ((dst d ++ rest).take 2).all (lowC 2) = true ∧ 2 ≤ (dst d ++ rest).length := by
    rw [e1]
    refine ⟨?_, by simp [dst]⟩
    simp [dst]
  rw [if_pos hl, e1]
  unfold runF
  rw [if_pos hn, h, e3]
  have e4 : (dst d2 ++ s2).take 2 = dst d2 := by simp [dst]
  simp only [back, hz, e4, e2]
  rw [if_pos]
  exact ⟨by simp [dst], by simp [dst], .inl (by first | trivial | rfl)⟩
/-- the arguments are read as they stand, the end is flat -/
theorem call_twoF {t : Tb} {k f : Nat} {np nl : Nat} {b : List S} {as bs : List A} {d d2 : Dr} {rest s2 : Sto} {a : A} (hf : t.fns f = some ⟨np, nl, b, some 2⟩) (ha : mapO (frz (dst d ++ rest) 2 60) as = some bs) (hn : bs.length = np)
    (h : (evSs (t.env (callF t k)) b (locs np nl bs) (dst d)).res = .ok a (dst d2 ++ s2)) (hfl : flat a = true) : callF t (k + 1) f as (dst d ++ rest) = .ok a (dst d2 ++ rest) := by
  have e1 : (dst d ++ rest).take 2 = dst d := by simp [dst]
  have e2 : (dst d ++ rest).drop 2 = rest := by simp [dst]
  simp only [callF, hf, ha]
  have hl : ((dst d ++ rest).take 2).all (lowC 2) = true ∧ 2 ≤ (dst d ++ rest).length := by
    rw [e1]
    refine ⟨?_, by simp [dst]⟩
    simp [dst]
  rw [if_pos hl, e1]
  unfold runF
  rw [if_pos hn, h]
  have e4 : (dst d2 ++ s2).take 2 = dst d2 := by simp [dst]
  have e5 : frz (dst d2 ++ s2) 2 60 a = some a := by cases a <;> first | rfl | cases hfl
  simp only [back, e5, e4, e2]
  rw [if_pos]
  refine ⟨by simp [dst], by simp [dst], .inr ⟨hfl, ?_⟩⟩
  simp [dst, flatC]
/-- a def that sees nothing of the store, by what it gives for what its arguments stand for -/
theorem call_frz_of {t : Tb} {k f : Nat} {np nl : Nat} {b : List S} {as bs : List A} {a : A} {s : Sto} (hf : t.fns f = some ⟨np, nl, b, some 0⟩) (ha : mapO (frz s 0 60) as = some bs) (hb : bs.all (lo 0 60) = true) (hfl : flat a = true) (h : callF t (k + 1) f bs [] = .ok a []) : callF t (k + 1) f as s = .ok a s := by
  have e0 : mapO (frz [] 0 60) bs = some bs := mapO_id _ _ fun x hx => frz_lo [] 0 60 x (List.all_eq_true.mp hb x hx)
  have ee : back 0 (bs.all (lowA 0)) [] (runF (t.env (callF t k)) ⟨np, nl, b, some 0⟩ bs []) = .ok a [] := by
    have := h
    simp only [callF, hf, e0] at this
    rw [if_pos (by simp)] at this
    exact this
  simp only [callF, hf, ha]
  rw [if_pos (by simp)]
  have e9 : s.take 0 = [] := List.take_zero
  rw [e9]
  revert ee
  generalize runF (t.env (callF t k)) ⟨np, nl, b, some 0⟩ bs [] = r
  cases r with
  | bad => intro z; cases z
  | exc e s1 =>
    simp only [back]
    intro z
    split at z <;> cases z
  | ok c s1 =>
    simp only [back]
    cases hz : frz s1 0 60 c with
    | none => intro z; cases z
    | some c2 =>
      simp only []
      intro z
      split at z
      · cases z
        rw [if_pos (by simp [hfl])]
        simp
      · cases z
end Py

set_option autoImplicit false
set_option linter.all false
set_option Elab.async false
set_option maxRecDepth 100000
set_option maxHeartbeats 4000000
/-! PyP0: programs as plain data, and as values. -/
namespace Py
abbrev Name := List Nat
inductive Kind where | exact | mask | pfx
  deriving DecidableEq
def Kind.nm : Kind → Name
  | .exact => ([101, 120, 97, 99, 116] : List Nat)
  | .mask => ([109, 97, 115, 107] : List Nat)
  | .pfx => ([112, 114, 101, 102, 105, 120] : List Nat)
structure Fld where
  own : Name
  nm : Name
  deriving DecidableEq
def Fld.enc (f : Fld) : A := .tup [.str f.own, .str f.nm]
inductive Opd where
  | num (n : Int)
  | field (f : Fld)
  | param (p : Name)
def Opd.enc : Opd → A
  | .num n => .tup [.str ([110, 117, 109] : List Nat), .int n]
  | .field f => .tup [.str ([102, 105, 101, 108, 100] : List Nat), .str f.own, .str f.nm]
  | .param p => .tup [.str ([112, 97, 114, 97, 109] : List Nat), .str p]
inductive Ex where
  | opd (o : Opd)
  | bin (op : Name) (a b : Opd)
def Ex.enc : Ex → A
  | .opd o => o.enc
  | .bin op a b => .tup [.str op, a.enc, b.enc]
inductive Op where
  | set (f : Fld) (e : Ex)
  | send (e : Ex)
  | drop
  | add (h : Name)
  | remove (h : Name)
def Op.enc : Op → A
  | .set f e => .tup [.str ([115, 101, 116] : List Nat), f.enc, e.enc]
  | .send e => .tup [.str ([115, 101, 110, 100] : List Nat), e.enc]
  | .drop => .tup [.str ([100, 114, 111, 112] : List Nat)]
  | .add h => .tup [.str ([97, 100, 100] : List Nat), .str h]
  | .remove h => .tup [.str ([114, 101, 109, 111, 118, 101] : List Nat), .str h]
/-- a pair (name, width) -/
abbrev NW := Name × Int
def encNW (p : NW) : A := .tup [.str p.1, .int p.2]
structure Act where
  nm : Name
  params : List NW
  ops : List Op
def Act.enc (a : Act) : A := .tup [.str ([97, 99, 116, 105, 111, 110] : List Nat), .str a.nm, .lst (a.params.map encNW), .lst (a.ops.map Op.enc)]
structure SRow where
  v : Int
  m : Option Int
  goal : Name
def encOI : Option Int → A
  | none => .non
  | some i => .int i
def SRow.enc (r : SRow) : A := .tup [.int r.v, encOI r.m, .str r.goal]
inductive Nxt where
  | go (t : Name)
  | select (f : Fld) (rows : List SRow) (other : Name)
def Nxt.enc : Nxt → A
  | .go t => .tup [.str ([103, 111] : List Nat), .str t]
  | .select f rows o => .tup [.str ([115, 101, 108, 101, 99, 116] : List Nat), f.enc, .lst (rows.map SRow.enc), .str o]
def encON : Option Name → A
  | none => .non
  | some x => .str x
structure PSt where
  nm : Name
  hdr : Option Name
  nxt : Nxt
def PSt.enc (p : PSt) : A := .tup [.str ([115, 116, 97, 116, 101] : List Nat), .str p.nm, encON p.hdr, p.nxt.enc]
structure Key where
  f : Fld
  kind : Kind
def Key.enc (k : Key) : A := .tup [k.f.enc, .str k.kind.nm]
structure Tbl where
  nm : Name
  keys : List Key
  uses : List Name
  dact : Name
  dargs : List Int
  size : Int
def Tbl.enc (t : Tbl) : A := .tup [.str ([116, 97, 98, 108, 101] : List Nat), .str t.nm, .lst (t.keys.map Key.enc), .lst (t.uses.map .str), .tup [.str t.dact, .lst (t.dargs.map .int)], .int t.size]
inductive Test where
  | eq (f : Fld) (n : Int)
  | lt (f : Fld) (n : Int)
  | valid (h : Name)
  | not (t : Test)
def Test.enc : Test → A
  | .eq f n => .tup [.str ([61, 61] : List Nat), f.enc, .int n]
  | .lt f n => .tup [.str ([60] : List Nat), f.enc, .int n]
  | .valid h => .tup [.str ([118, 97, 108, 105, 100] : List Nat), .str h]
  | .not t => .tup [.str ([110, 111, 116] : List Nat), t.enc]
inductive Stm where
  | apply (t : Name)
  | ite (c : Test) (a b : List Stm)
mutual
def Stm.enc : Stm → A
  | .apply t => .tup [.str ([97, 112, 112, 108, 121] : List Nat), .str t]
  | .ite c a b => .tup [.str ([105, 102] : List Nat), c.enc, .lst (Stm.encs a), .lst (Stm.encs b)]
def Stm.encs : List Stm → List A
  | [] => []
  | s :: r => s.enc :: Stm.encs r
end
@[simp] theorem encs_map (ss : List Stm) : Stm.encs ss = ss.map Stm.enc := by
  induction ss with
  | nil => rfl
  | cons s r ih => rw [Stm.encs, ih, List.map_cons]
structure Hdr where
  nm : Name
  fields : List NW
def Hdr.enc (h : Hdr) : A := .tup [.str ([104, 101, 97, 100, 101, 114] : List Nat), .str h.nm, .lst (h.fields.map encNW)]
structure Prog where
  nm : Name
  hdrs : List Hdr
  meta_ : List NW
  states : List PSt
  acts : List Act
  tbls : List Tbl
  ctl : List Stm
  emits : List Name
def Prog.enc (p : Prog) : A := .tup [.str ([112, 114, 111, 103, 114, 97, 109] : List Nat), .str p.nm, .lst (p.hdrs.map Hdr.enc), .lst (p.meta_.map encNW), .lst (p.states.map PSt.enc), .lst (p.acts.map Act.enc), .lst (p.tbls.map Tbl.enc), .lst (p.ctl.map Stm.enc), .lst (p.emits.map .str)]
/-! entries -/
inductive Item where
  | one (v : Int)
  | two (v m : Int)
  deriving DecidableEq
def Item.enc : Item → A
  | .one v => .int v
  | .two v m => .tup [.int v, .int m]
structure Ent where
  keys : List Item
  prio : Int
  act : Name
  args : List Int
def Ent.enc (e : Ent) : A := .tup [.str ([101, 110, 116, 114, 121] : List Nat), .lst (e.keys.map Item.enc), .int e.prio, .str e.act, .lst (e.args.map .int)]
/-! ### parts -/
section
variable {s : Sto} {p : Prog} {t : Tbl} {h : Hdr} {a : Act} {q : PSt} {e : Ent} {k : Key} {f : Fld} {r : SRow} {x : NW}
@[simp] theorem ix_Prog0 : idxA p.enc (.int 0) s = .ok (.str ([112, 114, 111, 103, 114, 97, 109] : List Nat)) s := by simp [Prog.enc]
@[simp] theorem ix_Prog1 : idxA p.enc (.int 1) s = .ok (.str p.nm) s := by simp [Prog.enc]
@[simp] theorem ix_Prog2 : idxA p.enc (.int 2) s = .ok (.lst (p.hdrs.map Hdr.enc)) s := by simp [Prog.enc]
@[simp] theorem ix_Prog3 : idxA p.enc (.int 3) s = .ok (.lst (p.meta_.map encNW)) s := by simp [Prog.enc]
@[simp] theorem ix_Prog4 : idxA p.enc (.int 4) s = .ok (.lst (p.states.map PSt.enc)) s := by simp [Prog.enc]
@[simp] theorem ix_Prog5 : idxA p.enc (.int 5) s = .ok (.lst (p.acts.map Act.enc)) s := by simp [Prog.enc]
@[simp] theorem ix_Prog6 : idxA p.enc (.int 6) s = .ok (.lst (p.tbls.map Tbl.enc)) s := by simp [Prog.enc]
@[simp] theorem ix_Prog7 : idxA p.enc (.int 7) s = .ok (.lst (p.ctl.map Stm.enc)) s := by simp [Prog.enc]
@[simp] theorem ix_Prog8 : idxA p.enc (.int 8) s = .ok (.lst (p.emits.map .str)) s := by simp [Prog.enc]
@[simp] theorem ix_Tbl0 : idxA t.enc (.int 0) s = .ok (.str ([116, 97, 98, 108, 101] : List Nat)) s := by simp [Tbl.enc]
@[simp] theorem ix_Tbl1 : idxA t.enc (.int 1) s = .ok (.str t.nm) s := by simp [Tbl.enc]
@[simp] theorem ix_Tbl2 : idxA t.enc (.int 2) s = .ok (.lst (t.keys.map Key.enc)) s := by simp [Tbl.enc]
@[simp] theorem ix_Tbl3 : idxA t.enc (.int 3) s = .ok (.lst (t.uses.map .str)) s := by simp [Tbl.enc]
@[simp] theorem ix_Tbl4 : idxA t.enc (.int 4) s = .ok (.tup [.str t.dact, .lst (t.dargs.map .int)]) s := by simp [Tbl.enc]
@[simp] theorem ix_Tbl5 : idxA t.enc (.int 5) s = .ok (.int t.size) s := by simp [Tbl.enc]
@[simp] theorem ix_Hdr0 : idxA h.enc (.int 0) s = .ok (.str ([104, 101, 97, 100, 101, 114] : List Nat)) s := by simp [Hdr.enc]
@[simp] theorem ix_Hdr1 : idxA h.enc (.int 1) s = .ok (.str h.nm) s := by simp [Hdr.enc]
@[simp] theorem ix_Hdr2 : idxA h.enc (.int 2) s = .ok (.lst (h.fields.map encNW)) s := by simp [Hdr.enc]
@[simp] theorem ix_Act0 : idxA a.enc (.int 0) s = .ok (.str ([97, 99, 116, 105, 111, 110] : List Nat)) s := by simp [Act.enc]
@[simp] theorem ix_Act1 : idxA a.enc (.int 1) s = .ok (.str a.nm) s := by simp [Act.enc]
@[simp] theorem ix_Act2 : idxA a.enc (.int 2) s = .ok (.lst (a.params.map encNW)) s := by simp [Act.enc]
@[simp] theorem ix_Act3 : idxA a.enc (.int 3) s = .ok (.lst (a.ops.map Op.enc)) s := by simp [Act.enc]
@[simp] theorem ix_PSt0 : idxA q.enc (.int 0) s = .ok (.str ([115, 116, 97, 116, 101] : List Nat)) s := by simp [PSt.enc]
@[simp] theorem ix_PSt1 : idxA q.enc (.int 1) s = .ok (.str q.nm) s := by simp [PSt.enc]
@[simp] theorem ix_PSt2 : idxA q.enc (.int 2) s = .ok (encON q.hdr) s := by simp [PSt.enc]
@[simp] theorem ix_PSt3 : idxA q.enc (.int 3) s = .ok (q.nxt.enc) s := by simp [PSt.enc]
@[simp] theorem ix_Ent0 : idxA e.enc (.int 0) s = .ok (.str ([101, 110, 116, 114, 121] : List Nat)) s := by simp [Ent.enc]
@[simp] theorem ix_Ent1 : idxA e.enc (.int 1) s = .ok (.lst (e.keys.map Item.enc)) s := by simp [Ent.enc]
@[simp] theorem ix_Ent2 : idxA e.enc (.int 2) s = .ok (.int e.prio) s := by simp [Ent.enc]
@[simp] theorem ix_Ent3 : idxA e.enc (.int 3) s = .ok (.str e.act) s := by simp [Ent.enc]
@[simp] theorem ix_Ent4 : idxA e.enc (.int 4) s = .ok (.lst (e.args.map .int)) s := by simp [Ent.enc]
@[simp] theorem ix_Key0 : idxA k.enc (.int 0) s = .ok (k.f.enc) s := by simp [Key.enc]
@[simp] theorem ix_Key1 : idxA k.enc (.int 1) s = .ok (.str k.kind.nm) s := by simp [Key.enc]
@[simp] theorem ix_Fld0 : idxA f.enc (.int 0) s = .ok (.str f.own) s := by simp [Fld.enc]
@[simp] theorem ix_Fld1 : idxA f.enc (.int 1) s = .ok (.str f.nm) s := by simp [Fld.enc]
@[simp] theorem ix_SRow0 : idxA r.enc (.int 0) s = .ok (.int r.v) s := by simp [SRow.enc]
@[simp] theorem ix_SRow1 : idxA r.enc (.int 1) s = .ok (encOI r.m) s := by simp [SRow.enc]
@[simp] theorem ix_SRow2 : idxA r.enc (.int 2) s = .ok (.str r.goal) s := by simp [SRow.enc]
@[simp] theorem ix_nw0 : idxA (encNW x) (.int 0) s = .ok (.str x.1) s := by simp [encNW]
@[simp] theorem ix_nw1 : idxA (encNW x) (.int 1) s = .ok (.int x.2) s := by simp [encNW]
end
/-! ### no reference, not deep -/
section
variable {p n : Nat}
theorem lo_mono : ∀ (n m : Nat) (a : A), n ≤ m → lo p n a = true → lo p m a = true := by
  intro n
  induction n with
  | zero =>
    intro m a _ h
    cases a <;> first | (simp; done) | (simpa using h) | cases h
  | succ n ih =>
    intro m a hm h
    obtain ⟨m, rfl⟩ : ∃ k, m = k + 1 := ⟨m - 1, by omega⟩
    cases a with
    | tup as => simp only [lo_tup, List.all_eq_true] at h ⊢; exact fun x hx => ih m x (by omega) (h x hx)
    | lst as => simp only [lo_lst, List.all_eq_true] at h ⊢; exact fun x hx => ih m x (by omega) (h x hx)
    | dct t ks => simp only [lo_dct, List.all_eq_true, Bool.and_eq_true] at h ⊢; exact fun x hx => ⟨(h x hx).1, ih m x.2 (by omega) (h x hx).2⟩
    | _ => simpa using h
@[simp] theorem lo_fld (f : Fld) : lo p (n + 1) f.enc = true := by simp [Fld.enc]
@[simp] theorem lo_opd (o : Opd) : lo p (n + 1) o.enc = true := by cases o <;> simp [Opd.enc]
@[simp] theorem lo_ex (e : Ex) : lo p (n + 2) e.enc = true := by cases e <;> simp [Ex.enc]
@[simp] theorem lo_op (o : Op) : lo p (n + 3) o.enc = true := by cases o <;> simp [Op.enc]
@[simp] theorem lo_nw (x : NW) : lo p (n + 1) (encNW x) = true := by simp [encNW]
@[simp] theorem lo_act (a : Act) : lo p (n + 5) a.enc = true := by simp [Act.enc, List.all_eq_true]
@[simp] theorem lo_oi (x : Option Int) : lo p n (encOI x) = true := by cases x <;> simp [encOI]
@[simp] theorem lo_on (x : Option Name) : lo p n (encON x) = true := by cases x <;> simp [encON]
@[simp] theorem lo_srow (r : SRow) : lo p (n + 1) r.enc = true := by simp [SRow.enc]
@[simp] theorem lo_nxt (x : Nxt) : lo p (n + 3) x.enc = true := by cases x <;> simp [Nxt.enc, List.all_eq_true]
@[simp] theorem lo_pst (x : PSt) : lo p (n + 4) x.enc = true := by simp [PSt.enc]
@[simp] theorem lo_key (x : Key) : lo p (n + 2) x.enc = true := by simp [Key.enc]
@[simp] theorem lo_tbl (x : Tbl) : lo p (n + 4) x.enc = true := by simp [Tbl.enc, List.all_eq_true]
@[simp] theorem lo_hdr (x : Hdr) : lo p (n + 3) x.enc = true := by simp [Hdr.enc, List.all_eq_true]
@[simp] theorem lo_item (x : Item) : lo p (n + 1) x.enc = true := by cases x <;> simp [Item.enc]
@[simp] theorem lo_ent (x : Ent) : lo p (n + 3) x.enc = true := by simp [Ent.enc, List.all_eq_true]
end
@[simp] theorem mapO_frz_map {α : Type} {s : Sto} {p n : Nat} (f : α → A) (xs : List α) (h : ∀ x, lo p n (f x) = true) : mapO (frz s p n) (xs.map f) = some (xs.map f) := mapO_id _ _ fun a ha => by
  obtain ⟨x, _, rfl⟩ := List.mem_map.mp ha
  exact frz_lo s p n _ (h x)
@[simp] theorem mapO_deep_map {α : Type} {s : Sto} {n : Nat} (f : α → A) (xs : List α) (h : ∀ x, deep s n (f x) = some (f x)) : mapO (deep s n) (xs.map f) = some (xs.map f) := mapO_id _ _ fun a ha => by
  obtain ⟨x, _, rfl⟩ := List.mem_map.mp ha
  exact h x
@[simp] theorem deep_item {s : Sto} {n : Nat} (x : Item) : deep s (n + 1) x.enc = some x.enc := by cases x <;> simp [Item.enc]
@[simp] theorem deep_fld {s : Sto} {n : Nat} (x : Fld) : deep s (n + 1) x.enc = some x.enc := by simp [Fld.enc]
@[simp] theorem deep_nw {s : Sto} {n : Nat} (x : NW) : deep s (n + 1) (encNW x) = some (encNW x) := by simp [encNW]
def Test.dep : Test → Nat
  | .not t => t.dep + 1
  | _ => 0
theorem lo_test {p : Nat} : ∀ (t : Test) (n : Nat), t.dep + 2 ≤ n → lo p n t.enc = true
  | .eq f m, n, h => by obtain ⟨n, rfl⟩ : ∃ k, n = k + 2 := ⟨n - 2, by simp [Test.dep] at h; omega⟩; simp [Test.enc]
  | .lt f m, n, h => by obtain ⟨n, rfl⟩ : ∃ k, n = k + 2 := ⟨n - 2, by simp [Test.dep] at h; omega⟩; simp [Test.enc]
  | .valid x, n, h => by obtain ⟨n, rfl⟩ : ∃ k, n = k + 2 := ⟨n - 2, by simp [Test.dep] at h; omega⟩; simp [Test.enc]
  | .not t, n, h => by
    simp only [Test.dep] at h
    obtain ⟨n, rfl⟩ : ∃ k, n = k + 1 := ⟨n - 1, by omega⟩
    simp [Test.enc, lo_test t n (by omega)]
mutual
def Stm.dep : Stm → Nat
  | .apply _ => 1
  | .ite c a b => max (c.dep + 3) (max (Stm.deps a + 2) (Stm.deps b + 2))
def Stm.deps : List Stm → Nat
  | [] => 0
  | s :: r => max s.dep (Stm.deps r)
end
mutual
theorem lo_stm {p : Nat} : ∀ (s : Stm) (n : Nat), s.dep ≤ n → lo p n s.enc = true
  | .apply t, n, h => by obtain ⟨n, rfl⟩ : ∃ k, n = k + 1 := ⟨n - 1, by simp [Stm.dep] at h; omega⟩; simp [Stm.enc]
  | .ite c a b, n, h => by
    simp only [Stm.dep] at h
    obtain ⟨n, rfl⟩ : ∃ k, n = k + 2 := ⟨n - 2, by omega⟩
    have h1 := lo_test (p := p) c (n + 1) (by omega)
    have h2 := lo_stms (p := p) a n (by omega)
    have h3 := lo_stms (p := p) b n (by omega)
    simp only [Stm.enc, lo_tup, List.all_cons, lo_str, h1, lo_lst, h2, h3, List.all_nil, Bool.and_true]
theorem lo_stms {p : Nat} : ∀ (ss : List Stm) (n : Nat), Stm.deps ss ≤ n → (Stm.encs ss).all (lo p n) = true
  | [], n, _ => rfl
  | s :: r, n, h => by
    simp only [Stm.deps] at h
    simp only [Stm.encs, List.all_cons, Bool.and_eq_true]
    exact ⟨lo_stm s n (by omega), lo_stms r n (by omega)⟩
end
theorem lo_prog {p n : Nat} (x : Prog) (h : Stm.deps x.ctl ≤ n + 3) (hn : 4 ≤ n) : lo p (n + 5) x.enc = true := by
  have h1 : (x.ctl.map Stm.enc).all (lo p (n + 3)) = true := by rw [← encs_map]; exact lo_stms x.ctl (n + 3) h
  obtain ⟨n, rfl⟩ : ∃ k, n = k + 4 := ⟨n - 4, by omega⟩
  simp only [Prog.enc, lo_tup, lo_lst, List.all_cons, lo_str, h1, List.all_nil, Bool.and_true, Bool.and_eq_true, List.all_eq_true]
  simp
  intro a b c _ e
  rw [← e]
  exact lo_nw _
end Py

set_option autoImplicit false
set_option linter.all false
set_option maxRecDepth 100000
namespace Py
/- rules_find: slots 0 rows, 1 name, 2 row -/
def b_rules_find : List S := [.forr (.nm 2) .seq [.loc 0]
  [.iff (.cmp .eq (.idx (.loc 2) (.int 1)) (.loc 1))
  [.ret (.loc 2)]
  []] [2],
  .ret (.non)]
def d_rules_find : Fn := ⟨2, 3, b_rules_find, (some 0)⟩
end Py

set_option autoImplicit false
set_option linter.all false
set_option maxRecDepth 100000
namespace Py
/- rules_width_in: slots 0 rows, 1 name, 2 other, 3 width -/
def b_rules_width_in : List S := [.forr (.tp [2, 3]) .seq [.loc 0]
  [.iff (.cmp .eq (.loc 2) (.loc 1))
  [.ret (.loc 3)]
  []] [2, 3],
  .ret (.non)]
def d_rules_width_in : Fn := ⟨2, 4, b_rules_width_in, (some 0)⟩
end Py

set_option autoImplicit false
set_option linter.all false
set_option maxRecDepth 100000
namespace Py
/- rules_width_of: slots 0 program, 1 field, 2 header -/
def b_rules_width_of : List S := [.iff (.cmp .eq (.loc 1) (.glb G.rules_PORT))
  [.ret (.int 3)]
  [],
  .iff (.cmp .eq (.idx (.loc 1) (.int 0)) (.str [109, 101, 116, 97]))
  [.ret (.call F.rules_width_in [.idx (.loc 0) (.int 3), .idx (.loc 1) (.int 1)])]
  [],
  .asg (.nm 2) (.call F.rules_find [.idx (.loc 0) (.int 2), .idx (.loc 1) (.int 0)]),
  .ret (.ite (.isN (.loc 2)) (.non) (.call F.rules_width_in [.idx (.loc 2) (.int 2), .idx (.loc 1) (.int 1)]))]
def d_rules_width_of : Fn := ⟨2, 3, b_rules_width_of, (some 0)⟩
end Py

set_option autoImplicit false
set_option linter.all false
set_option Elab.async false
set_option maxRecDepth 100000
set_option maxHeartbeats 4000000
/-! PyP1: find, width_in, width_of. -/
namespace Py
def orNon {α : Type} (f : α → A) : Option α → A
  | some r => f r
  | none => .non
@[simp] theorem orNon_some {α : Type} (f : α → A) (r : α) : orNon f (some r) = f r := rfl
@[simp] theorem orNon_none {α : Type} (f : α → A) : orNon f none = .non := rfl
theorem eqA_str (x y : List Nat) : eqA (.str x) (.str y) = (x == y) := rfl
theorem r_find {t : Tb} [i : HasF t F.rules_find d_rules_find] {α : Type} (enc : α → A) (nm : α → Name) (rs : List α) (hn : ∀ r ∈ rs, ∃ a tl, enc r = .tup (a :: .str (nm r) :: tl)) (hlo : ∀ r ∈ rs, lo 0 59 (enc r) = true) (k : Nat) (x : Name) (s : Sto) :
    callF t (k + 1) F.rules_find [.lst (rs.map enc), .str x] s = .ok (orNon enc (rs.find? fun r => nm r == x)) s := by
  have h1 : (rs.map enc).all (lo 0 59) = true := by simpa [List.all_eq_true] using hlo
  have hl := forL_find (t := .nm 2) (k := .seq) (as := [.lst (rs.map enc)]) (ks := [2]) (g := evSs (t.env (callF t k)) [.iff (.cmp .eq (.idx (.loc 2) (.int 1)) (.loc 1)) [.ret (.loc 2)] []]) (all := rs.map enc)
    (l := [some (.lst (rs.map enc)), some (.str x), none]) (s := []) (fun a => match a with | .tup (_ :: .str y :: _) => if y = x then some a else none | _ => none) (by simp [kill]) (by simp) (by
      intro a ha
      obtain ⟨r, hr, rfl⟩ := List.mem_map.mp ha
      obtain ⟨a, tl, e⟩ := hn r hr
      rw [e]
      refine ⟨_, rfl, ?_⟩
      by_cases hx : nm r = x
      · left
        refine ⟨.tup (a :: .str (nm r) :: tl), by simp [hx], ?_⟩
        simp [eqA_str, hx]
      · right
        refine ⟨by simp [hx], [some (.lst (rs.map enc)), some (.str x), some (.tup (a :: .str (nm r) :: tl))], .inl ?_, by simp [kill]⟩
        simp [eqA_str, hx]) (rs.map enc) (fun _ h => h)
  have hf : (rs.map enc).findSome? (fun a => match a with | .tup (_ :: .str y :: _) => if y = x then some a else none | _ => none) = (rs.find? fun r => nm r == x).map enc := by
    clear hl h1
    induction rs with
    | nil => rfl
    | cons r rs ih =>
      obtain ⟨a, tl, e⟩ := hn r (by simp)
      have ih2 := ih (fun q hq => hn q (by simp [hq])) (fun q hq => hlo q (by simp [hq]))
      rw [List.map_cons, List.findSome?_cons, List.find?_cons]
      by_cases hx : nm r = x
      · have e2 : (nm r == x) = true := by simpa using hx
        rw [e2, e]
        simp [hx, e]
      · have e2 : (nm r == x) = false := by simpa using hx
        rw [e2, e]
        simp only [hx, if_false]
        exact ih2
  rw [hf] at hl
  cases hr : rs.find? (fun r => nm r == x) with
  | none =>
    rw [hr] at hl
    refine call_pure (s1 := []) i.h (by simp; exact hlo) rfl (by simp) ?_
    simp only [b_rules_find, locs]
    simp
    simp at hl
    rw [hl]
    rfl
  | some r =>
    rw [hr] at hl
    have hm := List.mem_of_find?_eq_some hr
    refine call_pure (s1 := []) i.h (by simp; exact hlo) rfl (lo_mono 59 60 _ (by omega) (hlo r hm)) ?_
    simp only [b_rules_find, locs]
    simp
    simp at hl
    rw [hl]
    rfl
/-- a width by a name -/
def widthIn (rs : List NW) (x : Name) : Option Int := (rs.find? fun r => r.1 == x).map (·.2)
theorem r_width_in {t : Tb} [i : HasF t F.rules_width_in d_rules_width_in] (rs : List NW) (k : Nat) (x : Name) (s : Sto) :
    callF t (k + 1) F.rules_width_in [.lst (rs.map encNW), .str x] s = .ok (encOI (widthIn rs x)) s := by
  have hl := forL_find (t := .tp [2, 3]) (k := .seq) (as := [.lst (rs.map encNW)]) (ks := [2, 3]) (g := evSs (t.env (callF t k)) [.iff (.cmp .eq (.loc 2) (.loc 1)) [.ret (.loc 3)] []]) (all := rs.map encNW)
    (l := [some (.lst (rs.map encNW)), some (.str x), none, none]) (s := []) (fun a => match a with | .tup [.str y, w] => if y = x then some w else none | _ => none) (by simp [kill]) (by simp) (by
      intro a ha
      obtain ⟨r, hr, rfl⟩ := List.mem_map.mp ha
      refine ⟨[some (.lst (rs.map encNW)), some (.str x), some (.str r.1), some (.int r.2)], rfl, ?_⟩
      by_cases hx : r.1 = x
      · left
        refine ⟨.int r.2, by simp [encNW, hx], ?_⟩
        simp [eqA_str, hx]
      · right
        refine ⟨by simp [encNW, hx], [some (.lst (rs.map encNW)), some (.str x), some (.str r.1), some (.int r.2)], .inl ?_, by simp [kill]⟩
        simp [eqA_str, hx]) (rs.map encNW) (fun _ h => h)
  have hf : (rs.map encNW).findSome? (fun a => match a with | .tup [.str y, w] => if y = x then some w else none | _ => none) = (widthIn rs x).map .int := by
    clear hl
    unfold widthIn
    induction rs with
    | nil => rfl
    | cons r rs ih =>
      rw [List.map_cons, List.findSome?_cons, List.find?_cons]
      by_cases hx : r.1 = x
      · have e2 : (r.1 == x) = true := by simpa using hx
        rw [e2]
        simp [encNW, hx]
      · have e2 : (r.1 == x) = false := by simpa using hx
        rw [e2]
        simp only [encNW, hx, if_false]
        exact ih
  rw [hf] at hl
  refine call_pure (s1 := []) i.h (by simp) rfl (by cases widthIn rs x <;> simp [encOI]) ?_
  simp only [b_rules_width_in, locs]
  cases hw : widthIn rs x with
  | none => rw [hw] at hl; simp only [Option.map_none] at hl; simp [hl, encOI]
  | some w => rw [hw] at hl; simp only [Option.map_some] at hl; simp [hl, encOI]
def s_packet : Name := ([112, 97, 99, 107, 101, 116] : List Nat)
def s_port : Name := ([112, 111, 114, 116] : List Nat)
def s_meta : Name := ([109, 101, 116, 97] : List Nat)
def Prog.hdr (p : Prog) (x : Name) : Option Hdr := p.hdrs.find? fun h => h.nm == x
/-- a field's width -/
def Prog.width (p : Prog) (f : Fld) : Option Int :=
  if f.own = s_packet ∧ f.nm = s_port then some 3 else if f.own = s_meta then widthIn p.meta_ f.nm else (p.hdr f.own).bind fun h => widthIn h.fields f.nm
theorem hdr_shape (r : Hdr) : ∃ a tl, r.enc = .tup (a :: .str r.nm :: tl) := ⟨_, _, rfl⟩
theorem r_find_hdr {t : Tb} [HasF t F.rules_find d_rules_find] (hs : List Hdr) (k : Nat) (x : Name) (s : Sto) :
    callF t (k + 1) F.rules_find [.lst (hs.map Hdr.enc), .str x] s = .ok (orNon Hdr.enc (hs.find? fun r => r.nm == x)) s :=
  r_find (t := t) Hdr.enc Hdr.nm hs (fun r _ => hdr_shape r) (fun r _ => lo_hdr r) k x s
theorem r_find_tbl {t : Tb} [HasF t F.rules_find d_rules_find] (hs : List Tbl) (k : Nat) (x : Name) (s : Sto) :
    callF t (k + 1) F.rules_find [.lst (hs.map Tbl.enc), .str x] s = .ok (orNon Tbl.enc (hs.find? fun r => r.nm == x)) s :=
  r_find (t := t) Tbl.enc Tbl.nm hs (fun r _ => ⟨_, _, rfl⟩) (fun r _ => lo_tbl r) k x s
theorem r_find_act {t : Tb} [HasF t F.rules_find d_rules_find] (hs : List Act) (k : Nat) (x : Name) (s : Sto) :
    callF t (k + 1) F.rules_find [.lst (hs.map Act.enc), .str x] s = .ok (orNon Act.enc (hs.find? fun r => r.nm == x)) s :=
  r_find (t := t) Act.enc Act.nm hs (fun r _ => ⟨_, _, rfl⟩) (fun r _ => lo_act r) k x s
theorem r_find_pst {t : Tb} [HasF t F.rules_find d_rules_find] (hs : List PSt) (k : Nat) (x : Name) (s : Sto) :
    callF t (k + 1) F.rules_find [.lst (hs.map PSt.enc), .str x] s = .ok (orNon PSt.enc (hs.find? fun r => r.nm == x)) s :=
  r_find (t := t) PSt.enc PSt.nm hs (fun r _ => ⟨_, _, rfl⟩) (fun r _ => lo_pst r) k x s
/-- the program is not too deep -/
def Prog.shal (p : Prog) : Prop := Stm.deps p.ctl ≤ 50
theorem lo_prog59 {q : Nat} (p : Prog) (h : p.shal) : lo q 60 p.enc = true := lo_prog (n := 55) p (by have := h; unfold Prog.shal at this; omega) (by omega)
theorem r_width_of {t : Tb} [HasF t F.rules_find d_rules_find] [HasF t F.rules_width_in d_rules_width_in] [HasG t G.rules_PORT v_rules_PORT] [i : HasF t F.rules_width_of d_rules_width_of] (p : Prog) (hp : p.shal) (f : Fld) (k : Nat) (s : Sto) :
    callF t (k + 2) F.rules_width_of [p.enc, f.enc] s = .ok (encOI (p.width f)) s := by
  have w1 := fun (rs : List NW) (x : Name) (s : Sto) => r_width_in (t := t) rs k x s
  have w2 := fun (hs : List Hdr) (x : Name) (s : Sto) => r_find_hdr (t := t) hs k x s
  refine call_pure (s1 := []) i.h (by simp [lo_prog59 p hp]) rfl (by simp) ?_
  unfold Prog.width Prog.hdr
  by_cases h1 : f.own = s_packet ∧ f.nm = s_port
  · rw [if_pos h1]
    obtain ⟨o, n⟩ := f
    obtain ⟨rfl, rfl⟩ := h1
    simp [b_rules_width_of, locs, Fld.enc, v_rules_PORT, eqA, eqAs, s_packet, s_port, encOI]
  · rw [if_neg h1]
    have e1 : (f.own == s_packet && f.nm == s_port) = false := by
      simp only [Bool.and_eq_false_iff, beq_eq_false_iff_ne]
      by_cases z : f.own = s_packet
      · exact .inr fun q => h1 ⟨z, q⟩
      · exact .inl z
    by_cases h2 : f.own = s_meta
    · rw [if_pos h2]
      obtain ⟨o, n⟩ := f
      obtain rfl : o = s_meta := h2
      simp [b_rules_width_of, locs, Fld.enc, v_rules_PORT, eqA, eqAs, s_meta, Prog.enc, w1]
    · rw [if_neg h2]
      have e2 : (f.own == s_meta) = false := by simpa using h2
      simp only [s_packet, s_port] at e1
      simp only [s_meta] at e2
      obtain ⟨o, n⟩ := f
      have w3 := w2 p.hdrs o []
      cases hh : p.hdrs.find? (fun r => r.nm == o) with
      | none =>
        rw [hh] at w3
        simp [b_rules_width_of, locs, Fld.enc, v_rules_PORT, eqA, eqAs, Prog.enc, e1, e2, w3, encOI, hh]
      | some r =>
        rw [hh] at w3
        simp [b_rules_width_of, locs, Fld.enc, v_rules_PORT, eqA, eqAs, Prog.enc, e1, e2, w3, hh, Hdr.enc, w1]
end Py

set_option autoImplicit false
set_option linter.all false
set_option Elab.async false
set_option maxRecDepth 100000
set_option maxHeartbeats 4000000
/-! PyB: bits. -/
namespace Py
abbrev band (a b : Int) : Int := PySem.Builtin.bitAnd a b
abbrev bor (a b : Int) : Int := PySem.Builtin.bitOr a b
theorem band_nat (a b : Nat) : band a b = ((a &&& b : Nat) : Int) := PySem.W.os_band a b
theorem int_nat {a : Int} (h : 0 ≤ a) : ∃ n : Nat, a = n := ⟨a.toNat, by omega⟩
theorem band_band (a b : Int) (ha : 0 ≤ a) (hb : 0 ≤ b) : band (band a b) b = band a b ∧ 0 ≤ band a b ∧ band a b ≤ b := by
  obtain ⟨a, rfl⟩ := int_nat ha
  obtain ⟨b, rfl⟩ := int_nat hb
  have h : (a &&& b) &&& b = a &&& b := by rw [Nat.and_assoc, Nat.and_self]
  have h2 : a &&& b ≤ b := Nat.and_le_right
  refine ⟨?_, ?_, ?_⟩
  · rw [band_nat, band_nat, h]
  · rw [band_nat]; omega
  · rw [band_nat]; omega
theorem pow_cast (n : Nat) : ((2 ^ n : Nat) : Int) = (2 : Int) ^ n := by push_cast; rfl
theorem and_high (v l n : Nat) (hv : v < 2 ^ (l + n)) : v &&& (2 ^ (l + n) - 2 ^ n) = v / 2 ^ n * 2 ^ n := by
  have e : 2 ^ (l + n) - 2 ^ n = (2 ^ l - 1) <<< n := by
    rw [Nat.shiftLeft_eq, Nat.pow_add, Nat.sub_mul, Nat.one_mul]
  have e2 : v / 2 ^ n * 2 ^ n = (v >>> n) <<< n := by rw [Nat.shiftLeft_eq, Nat.shiftRight_eq_div_pow]
  rw [e, e2]
  apply Nat.eq_of_testBit_eq
  intro i
  rw [Nat.testBit_and, Nat.testBit_shiftLeft, Nat.testBit_shiftLeft, Nat.testBit_shiftRight, Nat.testBit_two_pow_sub_one]
  by_cases h : n ≤ i
  · have h2 : n + (i - n) = i := by omega
    rw [h2]
    by_cases h3 : i - n < l
    · simp [h, h3]
    · have : v.testBit i = false := Nat.testBit_lt_two_pow (Nat.lt_of_lt_of_le hv (Nat.pow_le_pow_right (by decide) (by omega)))
      simp [this]
  · simp [h]
theorem band_high (v w l : Int) (h0 : 0 ≤ v) (h1 : v < 2 ^ w.toNat) (hl : 0 ≤ l ∧ l ≤ w) : band v (2 ^ w.toNat - 2 ^ (w - l).toNat) = v / 2 ^ (w - l).toNat * 2 ^ (w - l).toNat := by
  obtain ⟨v, rfl⟩ := int_nat h0
  obtain ⟨w, rfl⟩ := int_nat (a := w) (by omega)
  obtain ⟨l, rfl⟩ := int_nat hl.1
  obtain ⟨n, rfl⟩ : ∃ n, w = l + n := ⟨w - l, by omega⟩
  have e1 : ((l + n : Nat) : Int).toNat = l + n := by omega
  have e2 : (((l + n : Nat) : Int) - (l : Int)).toNat = n := by omega
  rw [e1] at h1
  rw [e1, e2]
  have h2 : v < 2 ^ (l + n) := by
    rw [← pow_cast] at h1
    exact Int.ofNat_lt.mp h1
  have h3 : 2 ^ n ≤ 2 ^ (l + n) := Nat.pow_le_pow_right (by decide) (by omega)
  have e3 : (2 : Int) ^ (l + n) - 2 ^ n = ((2 ^ (l + n) - 2 ^ n : Nat) : Int) := by rw [Int.ofNat_sub h3]; push_cast; rfl
  rw [e3, band_nat, and_high v l n h2]
  push_cast
  rfl
/-- a bit -/
def bit (v : Int) (k : Nat) : Int := v / 2 ^ k % 2
theorem bit_nat (v k : Nat) : bit v k = if v.testBit k = true then 1 else 0 := by
  unfold bit
  rw [← pow_cast, Nat.testBit_eq_decide_div_mod_eq]
  have e : ((v : Int) / ((2 ^ k : Nat) : Int)) % 2 = ((v / 2 ^ k % 2 : Nat) : Int) := by push_cast; rfl
  rw [e]
  have : v / 2 ^ k % 2 < 2 := Nat.mod_lt _ (by decide)
  by_cases h : v / 2 ^ k % 2 = 1
  · simp [h]
  · have h0 : v / 2 ^ k % 2 = 0 := by omega
    simp [h0]
theorem band_one (v : Int) (k : Nat) : band (v / 2 ^ k) 1 = bit v k := PyProof.Rows.bitAnd_m1 _
theorem bit_eq (a b k : Nat) : (bit a k = bit b k) ↔ (a.testBit k = b.testBit k) := by
  rw [bit_nat, bit_nat]
  cases a.testBit k <;> cases b.testBit k <;> simp
/-- under a mask -/
theorem band_mask (v a m w : Int) (hv : 0 ≤ v ∧ v < 2 ^ w.toNat) (hm : 0 ≤ m ∧ m < 2 ^ w.toNat) (ha : 0 ≤ a) (e : band a m = a) : band v m = a ↔ ∀ k : Nat, k < w.toNat → bit m k = 1 → bit v k = bit a k := by
  obtain ⟨v, rfl⟩ := int_nat hv.1
  obtain ⟨m, rfl⟩ := int_nat hm.1
  obtain ⟨a, rfl⟩ := int_nat ha
  rw [band_nat] at e ⊢
  have e' : a &&& m = a := Int.ofNat_inj.mp e
  have hv' : v < 2 ^ w.toNat := by have := hv.2; rw [← pow_cast] at this; exact Int.ofNat_lt.mp this
  have hm' : m < 2 ^ w.toNat := by have := hm.2; rw [← pow_cast] at this; exact Int.ofNat_lt.mp this
  rw [Int.ofNat_inj]
  constructor
  · intro h k hk h1
    rw [bit_eq, ← h, Nat.testBit_and]
    have : m.testBit k = true := by rw [bit_nat] at h1; by_cases z : m.testBit k = true; exact z; rw [if_neg z] at h1; cases h1
    simp [this]
  · intro h
    apply Nat.eq_of_testBit_eq
    intro k
    rw [Nat.testBit_and]
    have ea : a.testBit k = (a.testBit k && m.testBit k) := by rw [← Nat.testBit_and, e']
    by_cases hk : k < w.toNat
    · cases hmk : m.testBit k with
      | true =>
        have h1 : bit m k = 1 := by rw [bit_nat, if_pos hmk]
        have := (bit_eq v a k).mp (h k hk h1)
        simp [this]
      | false => rw [ea, hmk]; simp
    · have : m.testBit k = false := Nat.testBit_lt_two_pow (Nat.lt_of_lt_of_le hm' (Nat.pow_le_pow_right (by decide) (by omega)))
      rw [ea, this]; simp
/-- under a prefix -/
theorem band_prefix (v a l w : Int) (hv : 0 ≤ v ∧ v < 2 ^ w.toNat) (ha : 0 ≤ a ∧ a < 2 ^ w.toNat) (hl : 0 ≤ l ∧ l ≤ w) (q : Int) (e : a = q * 2 ^ (w - l).toNat) : band v (2 ^ w.toNat - 2 ^ (w - l).toNat) = a ↔ ∀ k : Nat, k < w.toNat → (w - l).toNat ≤ k → bit v k = bit a k := by
  rw [band_high v w l hv.1 hv.2 hl]
  generalize (w - l).toNat = n at e ⊢
  have hp : (0 : Int) < 2 ^ n := by rw [← pow_cast]; exact Int.ofNat_lt.mpr (Nat.pow_pos (by decide))
  have ea : a / 2 ^ n * 2 ^ n = a := by rw [e, Int.mul_ediv_cancel _ (by omega)]
  have key : v / 2 ^ n * 2 ^ n = a ↔ v / 2 ^ n = a / 2 ^ n := by
    constructor
    · intro h; rw [← h, Int.mul_ediv_cancel _ (by omega)]
    · intro h; rw [h, ea]
  rw [key]
  obtain ⟨v, rfl⟩ := int_nat hv.1
  obtain ⟨a, rfl⟩ := int_nat ha.1
  have hv' : v < 2 ^ w.toNat := by have := hv.2; rw [← pow_cast] at this; exact Int.ofNat_lt.mp this
  have ha' : a < 2 ^ w.toNat := by have := ha.2; rw [← pow_cast] at this; exact Int.ofNat_lt.mp this
  have e2 : ((v : Int) / 2 ^ n = (a : Int) / 2 ^ n) ↔ v >>> n = a >>> n := by
    rw [Nat.shiftRight_eq_div_pow, Nat.shiftRight_eq_div_pow, ← pow_cast, ← Int.natCast_ediv, ← Int.natCast_ediv, Int.ofNat_inj]
  rw [e2]
  constructor
  · intro h k hk h1
    rw [bit_eq]
    have := congrArg (fun z => Nat.testBit z (k - n)) h
    simp only [Nat.testBit_shiftRight] at this
    rwa [show n + (k - n) = k from by omega] at this
  · intro h
    apply Nat.eq_of_testBit_eq
    intro k
    rw [Nat.testBit_shiftRight, Nat.testBit_shiftRight]
    by_cases hk : n + k < w.toNat
    · exact (bit_eq v a (n + k)).mp (h (n + k) hk (by omega))
    · rw [Nat.testBit_lt_two_pow (Nat.lt_of_lt_of_le hv' (Nat.pow_le_pow_right (by decide) (by omega))), Nat.testBit_lt_two_pow (Nat.lt_of_lt_of_le ha' (Nat.pow_le_pow_right (by decide) (by omega)))]
theorem bor_lt (a b w : Int) (ha : 0 ≤ a ∧ a < 2 ^ w.toNat) (hb : 0 ≤ b ∧ b < 2 ^ w.toNat) : 0 ≤ bor a b ∧ bor a b < 2 ^ w.toNat := by
  obtain ⟨a, rfl⟩ := int_nat ha.1
  obtain ⟨b, rfl⟩ := int_nat hb.1
  have e : bor (a : Int) (b : Int) = ((a ||| b : Nat) : Int) := by
    have := Bits.bitOr_pp (Int.natCast_nonneg a) (Int.natCast_nonneg b)
    simpa using this
  have ha' : a < 2 ^ w.toNat := by have := ha.2; rw [← pow_cast] at this; exact Int.ofNat_lt.mp this
  have hb' : b < 2 ^ w.toNat := by have := hb.2; rw [← pow_cast] at this; exact Int.ofNat_lt.mp this
  rw [e, ← pow_cast]
  exact ⟨by omega, Int.ofNat_lt.mpr (Nat.or_lt_two_pow ha' hb')⟩
theorem band_ge (a b : Int) (ha : 0 ≤ a) (hb : 0 ≤ b) : 0 ≤ band a b ∧ band a b ≤ b := ⟨(band_band a b ha hb).2.1, (band_band a b ha hb).2.2⟩
end Py

set_option autoImplicit false
set_option linter.all false
set_option maxRecDepth 100000
namespace Py
/- entries_high_bits: slots 0 width, 1 length -/
def b_entries_high_bits : List S := [.ret (.bin .sub true (.bin .shl true (.int 1) (.loc 0)) (.bin .shl true (.int 1) (.bin .sub true (.loc 0) (.loc 1))))]
def d_entries_high_bits : Fn := ⟨2, 2, b_entries_high_bits, (some 0)⟩
end Py

set_option autoImplicit false
set_option linter.all false
set_option maxRecDepth 100000
namespace Py
/- entries_key_matches: slots 0 kind, 1 width, 2 item, 3 value -/
def b_entries_key_matches : List S := [.iff (.cmp .eq (.loc 0) (.str [101, 120, 97, 99, 116]))
  [.ret (.cmp .eq (.loc 2) (.loc 3))]
  [],
  .iff (.cmp .eq (.loc 0) (.str [109, 97, 115, 107]))
  [.ret (.cmp .eq (.bin .band true (.loc 3) (.idx (.loc 2) (.int 1))) (.idx (.loc 2) (.int 0)))]
  [],
  .ret (.cmp .eq (.bin .band true (.loc 3) (.call F.entries_high_bits [.loc 1, .idx (.loc 2) (.int 1)])) (.idx (.loc 2) (.int 0)))]
def d_entries_key_matches : Fn := ⟨4, 4, b_entries_key_matches, (some 0)⟩
end Py

set_option autoImplicit false
set_option linter.all false
set_option maxRecDepth 100000
namespace Py
/- entries_matches: slots 0 program, 1 table, 2 entry, 3 values, 4 row, 5 item, 6 key, 7 value -/
def b_entries_matches : List S := [.asg (.nm 4) (.call F.rules_find [.idx (.loc 0) (.int 6), .loc 1]),
  .forr (.tp [5, 6, 7]) .zip [.idx (.loc 2) (.int 1), .idx (.loc 4) (.int 2), .loc 3]
  [.iff (.not (.call F.entries_key_matches [.idx (.loc 6) (.int 1), .call F.rules_width_of [.loc 0, .idx (.loc 6) (.int 0)], .loc 5, .loc 7]))
  [.ret (.bl false)]
  []] [5, 6, 7],
  .ret (.bl true)]
def d_entries_matches : Fn := ⟨4, 8, b_entries_matches, (some 0)⟩
end Py

set_option autoImplicit false
set_option linter.all false
set_option maxRecDepth 100000
namespace Py
/- entries_prefix_length: slots 0 program, 1 table, 2 entry, 3 row, 4 total, 5 item, 6 key -/
def b_entries_prefix_length : List S := [.asg (.nm 3) (.call F.rules_find [.idx (.loc 0) (.int 6), .loc 1]),
  .asg (.nm 4) (.int 0),
  .forr (.tp [5, 6]) .zip [.idx (.loc 2) (.int 1), .idx (.loc 3) (.int 2)]
  [.iff (.cmp .eq (.idx (.loc 6) (.int 1)) (.str [112, 114, 101, 102, 105, 120]))
  [.asg (.nm 4) (.bin .add true (.loc 4) (.idx (.loc 5) (.int 1)))]
  []] [5, 6],
  .ret (.loc 4)]
def d_entries_prefix_length : Fn := ⟨3, 7, b_entries_prefix_length, (some 0)⟩
end Py

set_option autoImplicit false
set_option linter.all false
set_option maxRecDepth 100000
namespace Py
/- entries_choose: slots 0 program, 1 table, 2 entries, 3 values, 4 best, 5 rank, 6 at, 7 entry, 8 own -/
def b_entries_choose : List S := [.asg (.nm 4) (.glb G.entries_DEFAULT),
  .asg (.nm 5) (.tup [.neg (.int 1), .neg (.int 1)]),
  .forr (.tp [6, 7]) .enum [.loc 2]
  [.asg (.nm 8) (.tup [.idx (.loc 7) (.int 2), .call F.entries_prefix_length [.loc 0, .loc 1, .loc 7]]),
  .iff (.and (.cmp .gt (.loc 8) (.loc 5)) (.call F.entries_matches [.loc 0, .loc 1, .loc 7, .loc 3]))
  [.asg (.nm 4) (.loc 6),
  .asg (.nm 5) (.loc 8)]
  []] [6, 7, 8],
  .ret (.loc 4)]
def d_entries_choose : Fn := ⟨4, 9, b_entries_choose, (some 0)⟩
end Py

set_option autoImplicit false
set_option linter.all false
set_option maxRecDepth 100000
namespace Py
/- entries_call_of: slots 0 program, 1 table, 2 entries, 3 index, 4 default -/
def b_entries_call_of : List S := [.iff (.cmp .eq (.loc 3) (.glb G.entries_DEFAULT))
  [.asg (.nm 4) (.idx (.call F.rules_find [.idx (.loc 0) (.int 6), .loc 1]) (.int 4)),
  .ret (.tup [.idx (.loc 4) (.int 0), .bc .list true [.idx (.loc 4) (.int 1)]])]
  [],
  .kil [4],
  .ret (.tup [.idx (.idx (.loc 2) (.loc 3)) (.int 3), .bc .list true [.idx (.idx (.loc 2) (.loc 3)) (.int 4)]])]
def d_entries_call_of : Fn := ⟨4, 5, b_entries_call_of, (some 0)⟩
end Py

set_option autoImplicit false
set_option linter.all false
set_option Elab.async false
set_option maxRecDepth 100000
set_option maxHeartbeats 4000000
/-! PyP2: entries: what matches, what is chosen. -/
namespace Py
def highBits (w l : Int) : Int := 2 ^ w.toNat - 2 ^ (w - l).toNat
@[simp] theorem one_huge : 1 < huge := lt_huge (by decide)
theorem r_high_bits {t : Tb} [i : HasF t F.entries_high_bits d_entries_high_bits] (w l : Int) (hw : 0 ≤ w ∧ w ≤ 1000) (hl : 0 ≤ w - l ∧ w - l ≤ 1000) (k : Nat) (s : Sto) : callF t (k + 1) F.entries_high_bits [.int w, .int l] s = .ok (.int (highBits w l)) s := by
  refine call_pure (s1 := []) i.h (by simp) rfl (by simp) ?_
  simp only [b_entries_high_bits, locs, highBits]
  have h2 : l ≤ w := by omega
  simp [hw, hl, h2]
/-- does the item match -/
def itemHit (kd : Kind) (w : Int) (it : Item) (v : Int) : Bool := match kd, it with
  | .exact, .one a => a == v
  | .mask, .two a m => band v m == a
  | .pfx, .two a l => band v (highBits w l) == a
  | _, _ => false
/-- the item's form -/
def Item.form (kd : Kind) (w : Int) : Item → Prop
  | .one _ => kd = .exact
  | .two _ l => kd ≠ .exact ∧ (kd = .pfx → 0 ≤ l ∧ l ≤ w)
theorem r_key_matches {t : Tb} [HasF t F.entries_high_bits d_entries_high_bits] [i : HasF t F.entries_key_matches d_entries_key_matches] (kd : Kind) (w : Int) (it : Item) (v : Int) (hw : 0 ≤ w ∧ w ≤ 1000) (hf : it.form kd w) (k : Nat) (s : Sto) :
    callF t (k + 2) F.entries_key_matches [.str kd.nm, .int w, it.enc, .int v] s = .ok (.bl (itemHit kd w it v)) s := by
  refine call_pure (s1 := []) i.h (by simp) rfl (by simp) ?_
  simp only [b_entries_key_matches, locs]
  cases it with
  | one a =>
    obtain rfl : kd = .exact := hf
    simp [Kind.nm, Item.enc, itemHit, eqA]
  | two a l =>
    obtain ⟨h1, h2⟩ := hf
    cases kd with
    | exact => exact absurd rfl h1
    | mask => simp [Kind.nm, Item.enc, itemHit, eqA]
    | pfx =>
      obtain ⟨h3, h4⟩ := h2 rfl
      have hb := r_high_bits (t := t) w l hw (by omega) k []
      simp [Kind.nm, Item.enc, itemHit, eqA, hb]
/-! ### three lists side by side -/
def zip3 {α β γ : Type} : List α → List β → List γ → List (α × β × γ)
  | a :: as, b :: bs, c :: cs => (a, b, c) :: zip3 as bs cs
  | _, _, _ => []
theorem zip3A_map {α β γ : Type} (f : α → A) (g : β → A) (h : γ → A) : ∀ (as : List α) (bs : List β) (cs : List γ), zip3A (as.map f) (bs.map g) (cs.map h) = (zip3 as bs cs).map fun x => .tup [f x.1, g x.2.1, h x.2.2]
  | [], _, _ => by simp [zip3A, zip3]
  | _ :: _, [], _ => by simp [zip3A, zip3]
  | _ :: _, _ :: _, [] => by simp [zip3A, zip3]
  | a :: as, b :: bs, c :: cs => by simp [zip3A, zip3, zip3A_map f g h as bs cs]
theorem zip2A_map {α β : Type} (f : α → A) (g : β → A) : ∀ (as : List α) (bs : List β), zip2A (as.map f) (bs.map g) = (as.zip bs).map fun x => .tup [f x.1, g x.2]
  | [], _ => by simp [zip2A]
  | _ :: _, [] => by simp [zip2A]
  | a :: as, b :: bs => by simp [zip2A, zip2A_map f g as bs]
def Prog.tbl (p : Prog) (x : Name) : Option Tbl := p.tbls.find? fun t => t.nm == x
/-- an item, its key and its value -/
def hit1 (p : Prog) (x : Item × Key × Int) : Bool := match p.width x.2.1.f with
  | some w => itemHit x.2.1.kind w x.1 x.2.2
  | none => false
def entHits (p : Prog) (T : Tbl) (e : Ent) (vs : List Int) : Bool := (zip3 e.keys T.keys vs).all (hit1 p)
/-- the entry's items have their keys' forms -/
def Ent.forms (p : Prog) (T : Tbl) (e : Ent) : Prop := ∀ x ∈ e.keys.zip T.keys, ∃ w, p.width x.2.f = some w ∧ 0 ≤ w ∧ w ≤ 1000 ∧ x.1.form x.2.kind w
theorem zip3_mem {α β γ : Type} : ∀ {as : List α} {bs : List β} {cs : List γ} {x : α × β × γ}, x ∈ zip3 as bs cs → (x.1, x.2.1) ∈ as.zip bs
  | [], _, _, _, h => by simp [zip3] at h
  | _ :: _, [], _, _, h => by simp [zip3] at h
  | _ :: _, _ :: _, [], _, h => by simp [zip3] at h
  | a :: as, b :: bs, c :: cs, x, h => by
    simp only [zip3, List.mem_cons] at h
    rcases h with rfl | h
    · simp
    · exact List.mem_cons_of_mem _ (zip3_mem h)
theorem r_matches {t : Tb} [HasF t F.rules_find d_rules_find] [HasF t F.rules_width_in d_rules_width_in] [HasG t G.rules_PORT v_rules_PORT] [HasF t F.rules_width_of d_rules_width_of] [HasF t F.entries_high_bits d_entries_high_bits] [HasF t F.entries_key_matches d_entries_key_matches] [i : HasF t F.entries_matches d_entries_matches]
    (p : Prog) (hp : p.shal) (x : Name) (T : Tbl) (hT : p.tbl x = some T) (e : Ent) (hf : e.forms p T) (vs : List Int) (k : Nat) (s : Sto) :
    callF t (k + 3) F.entries_matches [p.enc, .str x, e.enc, .lst (vs.map .int)] s = .ok (.bl (entHits p T e vs)) s := by
  refine call_pure (s1 := []) i.h (by simp [lo_prog59 p hp]) rfl (by simp) ?_
  have hz : itA .zip [.lst (e.keys.map Item.enc), .lst (T.keys.map Key.enc), .lst (vs.map .int)] [] = some ((zip3 e.keys T.keys vs).map fun x => .tup [x.1.enc, x.2.1.enc, .int x.2.2]) := by
    simp only [q329, q331, lstOf, zip3A_map]
  have hfind := r_find_tbl (t := t) p.tbls (k + 1) x []
  rw [show p.tbls.find? (fun r => r.nm == x) = some T from hT, orNon_some] at hfind
  have hl := forL_findE (fun x : Item × Key × Int => A.tup [x.1.enc, x.2.1.enc, .int x.2.2]) (fun x => if hit1 p x = true then none else some (.bl false)) (t := .tp [5, 6, 7]) (k := .zip) (as := [.lst (e.keys.map Item.enc), .lst (T.keys.map Key.enc), .lst (vs.map .int)]) (ks := [5, 6, 7])
    (g := evSs (t.env (callF t (k + 2))) [.iff (.not (.call F.entries_key_matches [.idx (.loc 6) (.int 1), .call F.rules_width_of [.loc 0, .idx (.loc 6) (.int 0)], .loc 5, .loc 7])) [.ret (.bl false)] []])
    (zip3 e.keys T.keys vs) (l := [some p.enc, some (.str x), some e.enc, some (.lst (vs.map .int)), some T.enc, none, none, none]) (s := []) (by simp [kill]) hz (by
      rintro ⟨it, ky, v⟩ hm
      obtain ⟨w, h1, h2, h3, h4⟩ := hf _ (zip3_mem hm)
      have q1 := r_width_of (t := t) p hp ky.f k []
      have q2 := r_key_matches (t := t) ky.kind w it v ⟨h2, h3⟩ h4 k []
      rw [h1] at q1
      simp only [encOI] at q1
      have hh : hit1 p (it, ky, v) = itemHit ky.kind w it v := by simp only [hit1, h1]
      refine ⟨[some p.enc, some (.str x), some e.enc, some (.lst (vs.map .int)), some T.enc, some it.enc, some ky.enc, some (.int v)], by simp [setAll], ?_⟩
      rw [hh]
      cases hb : itemHit ky.kind w it v with
      | true =>
        rw [hb] at q2
        exact .inr ⟨by simp, [some p.enc, some (.str x), some e.enc, some (.lst (vs.map .int)), some T.enc, some it.enc, some ky.enc, some (.int v)], .inl (by simp [Key.enc, q1, q2]), by simp [kill]⟩
      | false =>
        rw [hb] at q2
        exact .inl ⟨.bl false, by simp, by simp [Key.enc, q1, q2]⟩)
  have hfs : ∀ xs : List (Item × Key × Int), xs.findSome? (fun x => if hit1 p x = true then none else some (A.bl false)) = if xs.all (hit1 p) = true then none else some (.bl false) := by
    intro xs
    induction xs with
    | nil => rfl
    | cons x xs ih =>
      rw [List.findSome?_cons, List.all_cons]
      cases hx : hit1 p x with
      | true => simp only [if_true, Bool.true_and]; exact ih
      | false => simp
  rw [hfs] at hl
  simp only [b_entries_matches, locs]
  unfold entHits
  by_cases ha : (zip3 e.keys T.keys vs).all (hit1 p) = true
  · rw [if_pos ha] at hl
    simp only [] at hl
    simp [hfind, hz, hl, ha]
  · rw [if_neg ha] at hl
    simp only [] at hl
    have ha' : (zip3 e.keys T.keys vs).all (hit1 p) = false := by simpa using ha
    simp [hfind, hz, hl, ha']
def Item.snd : Item → Int
  | .one _ => 0
  | .two _ l => l
/-- what an item adds to the prefix length -/
def plen1 (x : Item × Key) : Int := if x.2.kind = .pfx then x.1.snd else 0
def plen (T : Tbl) (e : Ent) : Int := (e.keys.zip T.keys).foldl (fun z x => z + plen1 x) 0
@[simp] theorem kind_prefix (k : Kind) : (k.nm = [112, 114, 101, 102, 105, 120]) = (k = .pfx) := by cases k <;> simp [Kind.nm]
@[simp] theorem kind_mask (k : Kind) : (k.nm = [109, 97, 115, 107]) = (k = .mask) := by cases k <;> simp [Kind.nm]
@[simp] theorem kind_exact (k : Kind) : (k.nm = [101, 120, 97, 99, 116]) = (k = .exact) := by cases k <;> simp [Kind.nm]
theorem r_prefix_length {t : Tb} [HasF t F.rules_find d_rules_find] [i : HasF t F.entries_prefix_length d_entries_prefix_length] (p : Prog) (hp : p.shal) (x : Name) (T : Tbl) (hT : p.tbl x = some T) (e : Ent) (hf : e.forms p T) (k : Nat) (s : Sto) :
    callF t (k + 2) F.entries_prefix_length [p.enc, .str x, e.enc] s = .ok (.int (plen T e)) s := by
  refine call_pure (s1 := []) i.h (by simp [lo_prog59 p hp]) rfl (by simp) ?_
  have hz : itA .zip [.lst (e.keys.map Item.enc), .lst (T.keys.map Key.enc)] [] = some ((e.keys.zip T.keys).map fun x => .tup [x.1.enc, x.2.enc]) := by
    simp only [q328, q330, lstOf, zip2A_map]
  have hfind := r_find_tbl (t := t) p.tbls k x []
  rw [show p.tbls.find? (fun r => r.nm == x) = some T from hT, orNon_some] at hfind
  obtain ⟨hl, _⟩ := forL_foldE (fun x : Item × Key => A.tup [x.1.enc, x.2.enc]) (fun z : Int => [some p.enc, some (.str x), some e.enc, some T.enc, some (.int z), none, none]) (fun _ => []) (fun z x => z + plen1 x) (fun _ => True) (t := .tp [5, 6]) (k := .zip) (as := [.lst (e.keys.map Item.enc), .lst (T.keys.map Key.enc)]) (ks := [5, 6])
    (g := evSs (t.env (callF t (k + 1))) [.iff (.cmp .eq (.idx (.loc 6) (.int 1)) (.str [112, 114, 101, 102, 105, 120])) [.asg (.nm 4) (.bin .add true (.loc 4) (.idx (.loc 5) (.int 1)))] []])
    (e.keys.zip T.keys) (by simp [kill]) (fun _ _ => hz) (by
      rintro ⟨it, ky⟩ hm z _
      obtain ⟨w, h1, h2, h3, h4⟩ := hf _ hm
      refine ⟨trivial, [some p.enc, some (.str x), some e.enc, some T.enc, some (.int z), some it.enc, some ky.enc], [some p.enc, some (.str x), some e.enc, some T.enc, some (.int (z + plen1 (it, ky))), some it.enc, some ky.enc], by simp [setAll], .inl ?_, by simp [kill]⟩
      unfold plen1
      by_cases hk : ky.kind = .pfx
      · cases it with
        | one a => rw [hk] at h4; cases h4
        | two a l => simp [hk, Item.enc, Item.snd]
      · simp [hk]) 0 trivial
  simp only [b_entries_prefix_length, locs]
  unfold plen
  simp [hfind, hz, hl]
/-- (priority, prefix length) -/
def rank (T : Tbl) (e : Ent) : Int × Int := (e.prio, plen T e)
def gt2 (a b : Int × Int) : Bool := if a.1 = b.1 then decide (b.2 < a.2) else decide (b.1 < a.1)
structure Best where
  at_ : Int
  rk : Int × Int
def step1 (p : Prog) (T : Tbl) (vs : List Int) (z : Best) (x : Ent × Nat) : Best := if (gt2 (rank T x.1) z.rk && entHits p T x.1 vs) = true then ⟨x.2, rank T x.1⟩ else z
def chosen (p : Prog) (T : Tbl) (es : List Ent) (vs : List Int) : Best := es.zipIdx.foldl (step1 p T vs) ⟨-1, (-1, -1)⟩
theorem lexGt2 (a b c d : Int) : lexGt [a, b] [c, d] = gt2 (a, b) (c, d) := by
  simp only [lexGt, gt2]
  by_cases h : a = c
  · simp only [h, if_true]
    by_cases h2 : b = d <;> simp [h2]
  · simp [h]
theorem r_choose {t : Tb} [HasF t F.rules_find d_rules_find] [HasF t F.rules_width_in d_rules_width_in] [HasG t G.rules_PORT v_rules_PORT] [HasF t F.rules_width_of d_rules_width_of] [HasF t F.entries_high_bits d_entries_high_bits] [HasF t F.entries_key_matches d_entries_key_matches] [HasF t F.entries_matches d_entries_matches]
    [HasF t F.entries_prefix_length d_entries_prefix_length] [HasG t G.entries_DEFAULT v_entries_DEFAULT] [i : HasF t F.entries_choose d_entries_choose]
    (p : Prog) (hp : p.shal) (x : Name) (T : Tbl) (hT : p.tbl x = some T) (es : List Ent) (hf : ∀ e ∈ es, e.forms p T) (vs : List Int) (k : Nat) (s : Sto) :
    callF t (k + 4) F.entries_choose [p.enc, .str x, .lst (es.map Ent.enc), .lst (vs.map .int)] s = .ok (.int (chosen p T es vs).at_) s := by
  refine call_pure (s1 := []) i.h (by simp [lo_prog59 p hp]) rfl (by simp) ?_
  have hz : itA .enum [.lst (es.map Ent.enc)] [] = some (es.zipIdx.map fun x => .tup [.int x.2, x.1.enc]) := by
    simp only [q327, lstOf, Option.map_some, enumA_map]
  obtain ⟨hl, _⟩ := forL_foldE (fun x : Ent × Nat => A.tup [.int x.2, x.1.enc]) (fun z : Best => [some p.enc, some (.str x), some (.lst (es.map Ent.enc)), some (.lst (vs.map .int)), some (.int z.at_), some (.tup [.int z.rk.1, .int z.rk.2]), none, none, none]) (fun _ => []) (step1 p T vs) (fun _ => True)
    (t := .tp [6, 7]) (k := .enum) (as := [.lst (es.map Ent.enc)]) (ks := [6, 7, 8])
    (g := evSs (t.env (callF t (k + 3))) [.asg (.nm 8) (.tup [.idx (.loc 7) (.int 2), .call F.entries_prefix_length [.loc 0, .loc 1, .loc 7]]),
  .iff (.and (.cmp .gt (.loc 8) (.loc 5)) (.call F.entries_matches [.loc 0, .loc 1, .loc 7, .loc 3]))
  [.asg (.nm 4) (.loc 6),
  .asg (.nm 5) (.loc 8)]
  []])
    es.zipIdx (by simp [kill]) (fun _ _ => hz) (by
      rintro ⟨e, n⟩ hm z _
      have he := List.fst_mem_of_mem_zipIdx hm
      have q1 := r_prefix_length (t := t) p hp x T hT e (hf e he) (k + 1) []
      have q2 := r_matches (t := t) p hp x T hT e (hf e he) vs k []
      refine ⟨trivial, [some p.enc, some (.str x), some (.lst (es.map Ent.enc)), some (.lst (vs.map .int)), some (.int z.at_), some (.tup [.int z.rk.1, .int z.rk.2]), some (.int n), some e.enc, none],
        [some p.enc, some (.str x), some (.lst (es.map Ent.enc)), some (.lst (vs.map .int)), some (.int (step1 p T vs z (e, n)).at_), some (.tup [.int (step1 p T vs z (e, n)).rk.1, .int (step1 p T vs z (e, n)).rk.2]), some (.int n), some e.enc, some (.tup [.int e.prio, .int (plen T e)])], by simp [setAll], .inl ?_, by simp [kill]⟩
      have hg : lexGt [e.prio, plen T e] [z.rk.1, z.rk.2] = gt2 (rank T e) z.rk := lexGt2 _ _ _ _
      unfold step1
      cases h1 : gt2 (rank T e) z.rk with
      | true =>
        rw [h1] at hg
        cases h2 : entHits p T e vs with
        | true => rw [h2] at q2; simp [q1, q2, intsOf, hg, h2, rank]
        | false => rw [h2] at q2; simp [q1, q2, intsOf, hg, h2]
      | false =>
        rw [h1] at hg
        simp [q1, intsOf, hg]) ⟨-1, (-1, -1)⟩ trivial
  simp only [b_entries_choose, locs]
  unfold chosen
  simp [hz, v_entries_DEFAULT, hl]
theorem r_call_of {t : Tb} [HasF t F.rules_find d_rules_find] [HasG t G.entries_DEFAULT v_entries_DEFAULT] [i : HasF t F.entries_call_of d_entries_call_of] (p : Prog) (hp : p.shal) (x : Name) (T : Tbl) (hT : p.tbl x = some T) (hd : T.dargs.length ≤ big) (es : List Ent) (hs : ∀ e ∈ es, e.args.length ≤ big) (ix : Int) (hix : ix = -1 ∨ ∃ n : Nat, ix = n ∧ n < es.length) (k : Nat) (s : Sto) :
    ∃ a xs, callF t (k + 2) F.entries_call_of [p.enc, .str x, .lst (es.map Ent.enc), .int ix] s = .ok (.tup [.str a, .lst (xs.map .int)]) s ∧ ((ix = -1 ∧ a = T.dact ∧ xs = T.dargs) ∨ ∃ (n : Nat) (e : Ent), ix = n ∧ es[n]? = some e ∧ a = e.act ∧ xs = e.args) := by
  have hfind := r_find_tbl (t := t) p.tbls k x []
  rw [show p.tbls.find? (fun r => r.nm == x) = some T from hT, orNon_some] at hfind
  rcases hix with rfl | ⟨n, rfl, hn⟩
  · refine ⟨T.dact, T.dargs, ?_, .inl ⟨rfl, rfl, rfl⟩⟩
    refine call_pure (s1 := []) i.h (by simp [lo_prog59 p hp]) rfl (by simp) ?_
    simp only [b_entries_call_of, locs]
    simp [v_entries_DEFAULT, eqA, hfind, hd]
  · have he := List.getElem?_eq_getElem hn
    have hm := List.getElem_mem hn
    generalize es[n] = e at he hm
    have hg : atI (es.map Ent.enc) (n : Int) = some e.enc := by
      rw [atI_nat (by omega) (by simpa using hn)]
      simp [he]
    have h1 : ¬ ((n : Int) = -1) := by omega
    refine ⟨e.act, e.args, ?_, .inr ⟨n, e, rfl, he, rfl, rfl⟩⟩
    refine call_pure (s1 := []) i.h (by simp [lo_prog59 p hp]) rfl (by simp) ?_
    simp only [b_entries_call_of, locs]
    simp [v_entries_DEFAULT, eqA, h1, hg, hs e hm]
end Py

set_option autoImplicit false
set_option linter.all false
set_option maxRecDepth 100000
namespace Py
/- L_width: slots 0 _law_program, 1 _law_field, 2 _law_rows, 3 _law_header, 4 _law_name, 5 _law_width_here -/
def b_L_width : List S := [.iff (.cmp .eq (.loc 1) (.tup [.str [112, 97, 99, 107, 101, 116], .str [112, 111, 114, 116]]))
  [.ret (.int 3)]
  [],
  .asg (.nm 2) (.idx (.loc 0) (.int 3)),
  .forr (.nm 3) .seq [.idx (.loc 0) (.int 2)]
  [.iff (.cmp .eq (.idx (.loc 3) (.int 1)) (.idx (.loc 1) (.int 0)))
  [.asg (.nm 2) (.idx (.loc 3) (.int 2))]
  []] [3],
  .ret (.idx (.lcomp true (.loc 5) (.tp [4, 5]) .seq [.loc 2] (some (.cmp .eq (.loc 4) (.idx (.loc 1) (.int 1)))) [4, 5]) (.int 0))]
def d_L_width : Fn := ⟨2, 6, b_L_width, (some 0)⟩
end Py

set_option autoImplicit false
set_option linter.all false
set_option maxRecDepth 100000
namespace Py
/- L_item: slots 0 _law_state_here, 1 _law_width_here, 2 _law_kind, 3 _law_value, 4 _law_mask, 5 _law_size -/
def b_L_item : List S := [.asg (.nm 3) (.call F.L_draw [.loc 0, .call F.L_pick [.loc 0, .lst true [.bc .min2 true [.int 4, .bin .shl true (.int 1) (.loc 1)], .bin .shl true (.int 1) (.loc 1)]]]),
  .iff (.cmp .eq (.loc 2) (.str [101, 120, 97, 99, 116]))
  [.ret (.loc 3)]
  [],
  .iff (.cmp .eq (.loc 2) (.str [109, 97, 115, 107]))
  [.asg (.nm 4) (.call F.L_pick [.loc 0, .lst true [.int 0, .bin .sub true (.bin .shl true (.int 1) (.loc 1)) (.int 1), .int 1, .call F.L_draw [.loc 0, .bin .shl true (.int 1) (.loc 1)]]]),
  .ret (.tup [.bin .band true (.loc 3) (.loc 4), .loc 4])]
  [],
  .kil [4],
  .asg (.nm 5) (.call F.L_draw [.loc 0, .bin .add true (.loc 1) (.int 1)]),
  .ret (.tup [.bin .shl true (.bin .shr true (.loc 3) (.bin .sub true (.loc 1) (.loc 5))) (.bin .sub true (.loc 1) (.loc 5)), .loc 5])]
def d_L_item : Fn := ⟨3, 6, b_L_item, (some 2)⟩
end Py

set_option autoImplicit false
set_option linter.all false
set_option Elab.async false
set_option maxRecDepth 100000
set_option maxHeartbeats 4000000
/-! PyP3: widths and items, as the laws have them. -/
namespace Py
/-- headers have names of their own, none is meta -/
structure Prog.Names (p : Prog) : Prop where
  nd : (p.hdrs.map Hdr.nm).Nodup
  nm : ∀ h ∈ p.hdrs, h.nm ≠ s_meta
theorem foldl_rows (o : Name) : ∀ (hs : List Hdr) (z : List NW), (hs.map Hdr.nm).Nodup → hs.foldl (fun z h => if h.nm = o then h.fields else z) z = match hs.find? (fun h => h.nm == o) with | some h => h.fields | none => z
  | [], z, _ => rfl
  | h :: hs, z, nd => by
    simp only [List.map_cons, List.nodup_cons] at nd
    rw [List.foldl_cons, foldl_rows o hs _ nd.2, List.find?_cons]
    by_cases e : h.nm = o
    · have e2 : (h.nm == o) = true := by simpa using e
      have e3 : hs.find? (fun h => h.nm == o) = none := by
        rw [List.find?_eq_none]
        intro q hq z
        have : q.nm = o := by simpa using z
        exact nd.1 (by rw [e, ← this]; exact List.mem_map_of_mem hq)
      rw [e2, e3]
      simp [e]
    · have e2 : (h.nm == o) = false := by simpa using e
      rw [e2]
      simp [e]
theorem filterMap_head (rs : List NW) (x : Name) (w : Int) (h : widthIn rs x = some w) : ∃ tl, (rs.map encNW).filterMap (fun a => match a with | .tup [.str y, .int v] => if y = x then some (A.int v) else none | _ => none) = .int w :: tl := by
  unfold widthIn at h
  induction rs with
  | nil => simp at h
  | cons r rs ih =>
    rw [List.find?_cons] at h
    rw [List.map_cons, List.filterMap_cons]
    by_cases e : r.1 = x
    · have e2 : (r.1 == x) = true := by simpa using e
      rw [e2] at h
      simp at h
      subst h
      simp [encNW, e]
    · have e2 : (r.1 == x) = false := by simpa using e
      rw [e2] at h
      obtain ⟨tl, e3⟩ := ih h
      exact ⟨tl, by simp only [encNW, e, if_false]; exact e3⟩
theorem r_law_width {t : Tb} [i : HasF t F.L_width d_L_width] (p : Prog) (hp : p.shal) (hn : p.Names) (hb : p.meta_.length ≤ big ∧ ∀ h ∈ p.hdrs, h.fields.length ≤ big) (f : Fld) (w : Int) (hw : p.width f = some w) (k : Nat) (s : Sto) :
    callF t (k + 1) F.L_width [p.enc, f.enc] s = .ok (.int w) s := by
  refine call_pure (s1 := []) i.h (by simp [lo_prog59 p hp]) rfl (by simp) ?_
  unfold Prog.width at hw
  by_cases h1 : f.own = s_packet ∧ f.nm = s_port
  · rw [if_pos h1] at hw
    cases hw
    obtain ⟨o, n⟩ := f
    obtain ⟨rfl, rfl⟩ := h1
    simp [b_L_width, locs, Fld.enc, eqA, eqAs, s_packet, s_port]
  · rw [if_neg h1] at hw
    have e1 : (f.own == s_packet && f.nm == s_port) = false := by
      simp only [Bool.and_eq_false_iff, beq_eq_false_iff_ne]
      by_cases z : f.own = s_packet
      · exact .inr fun q => h1 ⟨z, q⟩
      · exact .inl z
    simp only [s_packet, s_port] at e1
    obtain ⟨hl, _⟩ := forL_foldE Hdr.enc (fun z : List NW => [some p.enc, some f.enc, some (.lst (z.map encNW)), none, none, none]) (fun _ => []) (fun z h => if h.nm = f.own then h.fields else z) (fun _ => True) (t := .nm 3) (k := .seq) (as := [.lst (p.hdrs.map Hdr.enc)]) (ks := [3])
      (g := evSs (t.env (callF t k)) [.iff (.cmp .eq (.idx (.loc 3) (.int 1)) (.idx (.loc 1) (.int 0))) [.asg (.nm 2) (.idx (.loc 3) (.int 2))] []])
      p.hdrs (by simp [kill]) (fun _ _ => by simp) (by
        intro h hm z _
        refine ⟨trivial, [some p.enc, some f.enc, some (.lst (z.map encNW)), some h.enc, none, none], [some p.enc, some f.enc, some (.lst ((if h.nm = f.own then h.fields else z).map encNW)), some h.enc, none, none], by simp, .inl ?_, by simp [kill]⟩
        by_cases e : h.nm = f.own <;> simp [e]) p.meta_ trivial
    rw [foldl_rows f.own p.hdrs p.meta_ hn.nd] at hl
    -- the rows
    obtain ⟨rows, hr, hb2, hw2⟩ : ∃ rows : List NW, (match p.hdrs.find? (fun h => h.nm == f.own) with | some h => h.fields | none => p.meta_) = rows ∧ rows.length ≤ big ∧ widthIn rows f.nm = some w := by
      by_cases h2 : f.own = s_meta
      · rw [if_pos h2] at hw
        have e3 : p.hdrs.find? (fun h => h.nm == f.own) = none := by
          rw [List.find?_eq_none]
          intro q hq z
          have : q.nm = f.own := by simpa using z
          exact hn.nm q hq (this.trans h2)
        rw [e3]
        exact ⟨_, rfl, hb.1, hw⟩
      · rw [if_neg h2] at hw
        obtain ⟨h, h3, h4⟩ := Option.bind_eq_some_iff.mp hw
        rw [show p.hdrs.find? (fun h => h.nm == f.own) = some h from h3]
        exact ⟨_, rfl, hb.2 h (List.mem_of_find?_eq_some h3), h4⟩
    rw [hr] at hl
    obtain ⟨tl, ht⟩ := filterMap_head rows f.nm w hw2
    have hc := compL_filt (evE (t.env (callF t k)) (.loc 5)) (evC (t.env (callF t k)) (some (.cmp .eq (.loc 4) (.idx (.loc 1) (.int 1))))) (.tp [4, 5]) .seq [.lst (rows.map encNW)] [some p.enc, some f.enc, some (.lst (rows.map encNW)), none, none, none] (rows.map encNW)
      (fun a => match a with | .tup [.str y, .int v] => if y = f.nm then some (A.int v) else none | _ => none) [] (by simp) (rows.map encNW) (by
        intro a ha
        obtain ⟨r, _, rfl⟩ := List.mem_map.mp ha
        by_cases e : r.1 = f.nm <;> simp [encNW, setAll, e])
    rw [ht] at hc
    have e4 : kill [4, 5] [some p.enc, some f.enc, some (.lst (rows.map encNW)), none, none, none] = [some p.enc, some f.enc, some (.lst (rows.map encNW)), none, none, none] := rfl
    simp only [b_L_width, locs]
    obtain ⟨o, n⟩ := f
    simp only [Fld.enc] at hl hc e4 ⊢
    simp [eqA, eqAs, e1, hl, hc, hb2, e4]
/-! ### draws whose ends are not asked -/
theorem x_draw {t : Tb} [HasF t F.L_draw d_L_draw] (k : Nat) (m : Int) (d : Dr) (h0 : 0 < m) (h1 : m < 2 ^ 64) (hd : d.Ok) : ∃ i d2, 0 ≤ i ∧ i < m ∧ d2.Ok ∧ ∀ rest, callF t (k + 1) F.L_draw [.ref 1, .int m] (dst d ++ rest) = .ok (.int i) (dst d2 ++ rest) := by
  obtain ⟨h2, h3, h4⟩ := draw_ok h0 hd
  exact ⟨_, _, h2, h3, h4, fun rest => r_draw k m d rest h0 h1 hd⟩
theorem x_pick {t : Tb} [HasF t F.L_draw d_L_draw] [HasF t F.L_pick d_L_pick] {α : Type} (enc : α → A) (k : Nat) (row : List α) (d : Dr) (h0 : row ≠ []) (h1 : row.length ≤ 1000) (hd : d.Ok) : ∃ a d2, a ∈ row ∧ d2.Ok ∧ ∀ rest, callF t (k + 2) F.L_pick [.ref 1, .lst (row.map enc)] (dst d ++ rest) = .ok (enc a) (dst d2 ++ rest) := by
  have hp : (0 : Int) < row.length := by
    have := List.length_pos_iff.mpr h0
    omega
  obtain ⟨h2, h3, h4⟩ := draw_ok hp hd
  have hlt : (draw row.length d).1.toNat < row.length := by omega
  refine ⟨row[(draw row.length d).1.toNat], (draw row.length d).2, List.getElem_mem hlt, h4, fun rest => ?_⟩
  obtain ⟨a, e1, e2⟩ := r_pickV (t := t) k (row.map enc) d rest (by simpa using h0) (by simpa using h1) hd
  rw [List.length_map] at e1 e2
  rw [e2]
  rw [List.getElem?_map, List.getElem?_eq_getElem hlt] at e1
  cases e1
  rfl
theorem x_pickR {t : Tb} [HasF t F.L_draw d_L_draw] [HasF t F.L_pick d_L_pick] {α : Type} (enc : α → A) (k n : Nat) (row : List α) (d : Dr) (rest : Sto) (hr : rest[n]? = some (.lst (row.map enc))) (h0 : row ≠ []) (h1 : row.length ≤ 1000) (hd : d.Ok) : ∃ a d2, a ∈ row ∧ d2.Ok ∧ callF t (k + 2) F.L_pick [.ref 1, .ref (n + 2)] (dst d ++ rest) = .ok (enc a) (dst d2 ++ rest) := by
  have hp : (0 : Int) < row.length := by
    have := List.length_pos_iff.mpr h0
    omega
  obtain ⟨h2, h3, h4⟩ := draw_ok hp hd
  have hlt : (draw row.length d).1.toNat < row.length := by omega
  refine ⟨row[(draw row.length d).1.toNat], (draw row.length d).2, List.getElem_mem hlt, h4, ?_⟩
  obtain ⟨a, e1, e2⟩ := r_pickR (t := t) k n (row.map enc) d rest hr (by simpa using h0) (by simpa using h1) hd
  rw [List.length_map] at e1 e2
  rw [e2]
  rw [List.getElem?_map, List.getElem?_eq_getElem hlt] at e1
  cases e1
  rfl
/-! ### an item that is drawn -/
def Item.Ok (kd : Kind) (w : Int) : Item → Prop
  | .one v => kd = .exact ∧ 0 ≤ v ∧ v < 2 ^ w.toNat
  | .two v m => (kd = .mask ∧ 0 ≤ v ∧ 0 ≤ m ∧ m < 2 ^ w.toNat ∧ band v m = v) ∨ (kd = .pfx ∧ 0 ≤ m ∧ m ≤ w ∧ 0 ≤ v ∧ v < 2 ^ w.toNat ∧ ∃ q : Int, 0 ≤ q ∧ v = q * 2 ^ (w - m).toNat)
theorem pow_le32 {w : Int} (h : 0 ≤ w ∧ w ≤ 32) : (1 : Int) ≤ 2 ^ w.toNat ∧ (2 : Int) ^ w.toNat ≤ 4294967296 := by
  have h1 : w.toNat ≤ 32 := by omega
  have h2 : (2 : Nat) ^ w.toNat ≤ 2 ^ 32 := Nat.pow_le_pow_right (by decide) h1
  have h3 : 0 < (2 : Nat) ^ w.toNat := Nat.pow_pos (by decide)
  have e : ((2 ^ w.toNat : Nat) : Int) = (2 : Int) ^ w.toNat := by push_cast; rfl
  constructor <;> omega
theorem x_item {t : Tb} [HasF t F.L_draw d_L_draw] [HasF t F.L_pick d_L_pick] [i : HasF t F.L_item d_L_item] (k : Nat) (w : Int) (kd : Kind) (d : Dr) (hw : 1 ≤ w ∧ w ≤ 32) (hd : d.Ok) :
    ∃ it d2, Item.Ok kd w it ∧ d2.Ok ∧ ∀ rest, callF t (k + 3) F.L_item [.ref 1, .int w, .str kd.nm] (dst d ++ rest) = .ok it.enc (dst d2 ++ rest) := by
  obtain ⟨p1, p2⟩ := pow_le32 (w := w) (by omega)
  have hsh : (0 : Int) ≤ w ∧ w ≤ 1000 := by omega
  obtain ⟨m, d1, hm, ok1, e1⟩ := x_pick (t := t) A.int k [if (2 : Int) ^ w.toNat < 4 then 2 ^ w.toNat else 4, 2 ^ w.toNat] d (by simp) (by simp) hd
  have hm2 : 0 < m ∧ m ≤ 2 ^ w.toNat := by
    simp only [List.mem_cons, List.not_mem_nil, or_false] at hm
    rcases hm with rfl | rfl
    · split <;> omega
    · omega
  obtain ⟨v, d2, v0, v1, ok2, e2⟩ := x_draw (t := t) (k + 1) m d1 hm2.1 (by omega) ok1
  simp only [List.map_cons, List.map_nil] at e1
  cases kd with
  | exact =>
    refine ⟨.one v, d2, ⟨rfl, v0, by omega⟩, ok2, fun rest => ?_⟩
    refine call_two (s2 := []) (np := 3) (nl := 6) (b := b_L_item) i.h (by simp) rfl (a := .int v) ?_ (by simp [Item.enc])
    simp only [b_L_item, locs, Kind.nm]
    have e1' := e1 []
    have e2' := e2 []
    simp only [List.append_nil] at e1' e2' ⊢
    simp [hsh, e1', e2']
  | mask =>
    obtain ⟨g, d3, g0, g1, ok3, e3⟩ := x_draw (t := t) (k + 1) (2 ^ w.toNat) d2 (by omega) (by omega) ok2
    obtain ⟨m2, d4, hm3, ok4, e4⟩ := x_pick (t := t) A.int k [0, 2 ^ w.toNat - 1, 1, g] d3 (by simp) (by simp) ok3
    have hm4 : 0 ≤ m2 ∧ m2 < 2 ^ w.toNat := by
      simp only [List.mem_cons, List.not_mem_nil, or_false] at hm3
      have : (2 : Int) ≤ 2 ^ w.toNat := by
        have h1 : 1 ≤ w.toNat := by omega
        have h2 : (2 : Nat) ^ 1 ≤ 2 ^ w.toNat := Nat.pow_le_pow_right (by decide) h1
        rw [← pow_cast]
        omega
      rcases hm3 with rfl | rfl | rfl | rfl <;> omega
    obtain ⟨b1, b2, b3⟩ := band_band v m2 v0 hm4.1
    simp only [List.map_cons, List.map_nil] at e4
    refine ⟨.two (band v m2) m2, d4, .inl ⟨rfl, b2, hm4.1, hm4.2, b1⟩, ok4, fun rest => ?_⟩
    refine call_two (s2 := []) (np := 3) (nl := 6) (b := b_L_item) i.h (by simp) rfl (a := .tup [.int (band v m2), .int m2]) ?_ (by simp [Item.enc])
    simp only [b_L_item, locs, Kind.nm]
    have e1' := e1 []
    have e2' := e2 []
    have e3' := e3 []
    have e4' := e4 []
    simp only [List.append_nil] at e1' e2' e3' e4' ⊢
    simp [hsh, e1', e2', e3', e4', band]
  | pfx =>
    obtain ⟨l, d3, l0, l1, ok3, e3⟩ := x_draw (t := t) (k + 1) (w + 1) d2 (by omega) (by omega) ok2
    have hn : (0 : Int) ≤ w - l ∧ w - l ≤ 1000 := by omega
    have hl : l ≤ w := by omega
    have hp : (0 : Int) < 2 ^ (w - l).toNat := by rw [← pow_cast]; exact Int.ofNat_lt.mpr (Nat.pow_pos (by decide))
    have q0 : 0 ≤ v / 2 ^ (w - l).toNat := Int.ediv_nonneg v0 (by omega)
    have q1 : v / 2 ^ (w - l).toNat * 2 ^ (w - l).toNat ≤ v := Int.ediv_mul_le _ (by omega)
    have q2 : v / 2 ^ (w - l).toNat ≤ v := by
      have := Int.ediv_le_self (2 ^ (w - l).toNat) v0
      exact this
    have q3 : (v / 2 ^ (w - l).toNat).natAbs < huge := lt_huge (by omega)
    refine ⟨.two (v / 2 ^ (w - l).toNat * 2 ^ (w - l).toNat) l, d3, .inr ⟨rfl, l0, hl, Int.mul_nonneg q0 (by omega), by omega, _, q0, rfl⟩, ok3, fun rest => ?_⟩
    refine call_two (s2 := []) (np := 3) (nl := 6) (b := b_L_item) i.h (by simp) rfl (a := .tup [.int (v / 2 ^ (w - l).toNat * 2 ^ (w - l).toNat), .int l]) ?_ (by simp [Item.enc])
    simp only [b_L_item, locs, Kind.nm]
    have e1' := e1 []
    have e2' := e2 []
    have e3' := e3 []
    simp only [List.append_nil] at e1' e2' e3' ⊢
    simp [hsh, e1', e2', e3', hn, hl, q3]
end Py

set_option autoImplicit false
set_option linter.all false
set_option maxRecDepth 100000
namespace Py
/- L_table_program_v2: slots 0 _law_state_here, 1 _law_headers, 2 _law_meta, 3 _law_refs, 4 _law_actions, 5 _law_keys, 6 _law_kinds, 7 _law_owner, 8 _law_name, 9 _law_width_here, 10 _law_kind, 11 _law_uses, 12 _law_default, 13 _law_table, 14 _law_states -/
def b_L_table_program_v2 : List S := [.asg (.nm 1) (.lst true [.tup [.str [104, 101, 97, 100, 101, 114], .str [104], .lst true [.tup [.str [97], .int 1], .tup [.str [98], .int 7], .tup [.str [99], .int 8], .tup [.str [100], .int 32]]]]),
  .asg (.nm 2) (.lst true [.tup [.str [109], .int 5]]),
  .asg (.nm 3) (.lst true [.tup [.str [112, 97, 99, 107, 101, 116], .str [112, 111, 114, 116], .int 3], .tup [.str [104], .str [97], .int 1], .tup [.str [104], .str [98], .int 7], .tup [.str [104], .str [99], .int 8], .tup [.str [104], .str [100], .int 32], .tup [.str [109, 101, 116, 97], .str [109], .int 5]]),
  .asg (.nm 4) (.lst true [.tup [.str [97, 99, 116, 105, 111, 110], .str [120], .lst true [], .lst true []], .tup [.str [97, 99, 116, 105, 111, 110], .str [121], .lst true [.tup [.str [112], .int 3], .tup [.str [113], .int 32]], .lst true []], .tup [.str [97, 99, 116, 105, 111, 110], .str [122], .lst true [.tup [.str [114], .int 1]], .lst true []]]),
  .asg (.nm 5) (.lst false []),
  .asg (.nm 6) (.lst true [.str [101, 120, 97, 99, 116], .str [109, 97, 115, 107], .str [112, 114, 101, 102, 105, 120]]),
  .forr (.tp [7, 8, 9]) .seq [.loc 3]
  [.iff (.and (.cmp .lt (.bc .len true [.loc 5]) (.int 4)) (.cmp .eq (.call F.L_draw [.loc 0, .int 2]) (.int 0)))
  [.asg (.nm 10) (.call F.L_pick [.loc 0, .loc 6]),
  .iff (.cmp .eq (.loc 10) (.str [112, 114, 101, 102, 105, 120]))
  [.asg (.nm 6) (.lst true [.str [101, 120, 97, 99, 116], .str [109, 97, 115, 107]])]
  [],
  .ex (.bm .append true (.loc 5) [.tup [.tup [.loc 7, .loc 8], .loc 10]])]
  []] [7, 8, 9, 10],
  .asg (.nm 11) (.call F.L_pick [.loc 0, .lst true [.lst true [.str [120]], .lst true [.str [120], .str [121]], .lst true [.str [122], .str [121], .str [120]]]]),
  .asg (.nm 8) (.call F.L_pick [.loc 0, .loc 11]),
  .asg (.nm 12) (.tup [.loc 8, .idx (.dct true false [.str [120], .lst true [], .str [121], .lst true [.call F.L_draw [.loc 0, .int 8], .call F.L_draw [.loc 0, .int 4294967296]], .str [122], .lst true [.int 1]]) (.loc 8)]),
  .asg (.nm 13) (.tup [.str [116, 97, 98, 108, 101], .str [116], .loc 5, .loc 11, .loc 12, .bin .add true (.int 1) (.call F.L_draw [.loc 0, .int 16])]),
  .asg (.nm 14) (.lst true [.tup [.str [115, 116, 97, 116, 101], .str [115, 116, 97, 114, 116], .str [104], .tup [.str [103, 111], .str [97, 99, 99, 101, 112, 116]]]]),
  .ret (.tup [.str [112, 114, 111, 103, 114, 97, 109], .str [112], .loc 1, .loc 2, .loc 14, .loc 4, .lst true [.tup [.str [116, 97, 98, 108, 101], .str [115], .lst true [], .lst true [.str [122]], .tup [.str [122], .lst true [.int 1]], .int 2], .loc 13], .lst true [], .lst true []])]
def d_L_table_program_v2 : Fn := ⟨1, 15, b_L_table_program_v2, (some 2)⟩
end Py

set_option autoImplicit false
set_option linter.all false
set_option maxRecDepth 100000
namespace Py
/- L_hits: slots 0 _law_kind, 1 _law_width_here, 2 _law_item_here, 3 _law_value, 4 _law_k, 5 _law_here, 6 _law_wanted, 7 _law_counts -/
def b_L_hits : List S := [.iff (.cmp .eq (.loc 0) (.str [101, 120, 97, 99, 116]))
  [.ret (.cmp .eq (.loc 3) (.loc 2))]
  [],
  .forr (.nm 4) .rng [.loc 1]
  [.asg (.nm 5) (.bin .band true (.bin .shr true (.loc 3) (.loc 4)) (.int 1)),
  .asg (.nm 6) (.bin .band true (.bin .shr true (.idx (.loc 2) (.int 0)) (.loc 4)) (.int 1)),
  .asg (.nm 7) (.cmp .eq (.bin .band true (.bin .shr true (.idx (.loc 2) (.int 1)) (.loc 4)) (.int 1)) (.int 1)),
  .iff (.cmp .eq (.loc 0) (.str [112, 114, 101, 102, 105, 120]))
  [.asg (.nm 7) (.cmp .ge (.loc 4) (.bin .sub true (.loc 1) (.idx (.loc 2) (.int 1))))]
  [],
  .iff (.and (.loc 7) (.cmp .ne (.loc 5) (.loc 6)))
  [.ret (.bl false)]
  []] [4, 5, 6, 7],
  .ret (.bl true)]
def d_L_hits : Fn := ⟨4, 8, b_L_hits, (some 0)⟩
end Py

set_option autoImplicit false
set_option linter.all false
set_option maxRecDepth 100000
namespace Py
/- L_near: slots 0 _law_state_here, 1 _law_width_here, 2 _law_kind, 3 _law_item_here -/
def b_L_near : List S := [.iff (.cmp .eq (.call F.L_draw [.loc 0, .int 4]) (.int 0))
  [.ret (.call F.L_draw [.loc 0, .bin .shl true (.int 1) (.loc 1)])]
  [],
  .iff (.cmp .eq (.loc 2) (.str [101, 120, 97, 99, 116]))
  [.ret (.loc 3)]
  [],
  .iff (.cmp .eq (.loc 2) (.str [109, 97, 115, 107]))
  [.ret (.bin .bor true (.idx (.loc 3) (.int 0)) (.bin .band true (.call F.L_draw [.loc 0, .bin .shl true (.int 1) (.loc 1)]) (.bin .sub true (.bin .sub true (.bin .shl true (.int 1) (.loc 1)) (.int 1)) (.idx (.loc 3) (.int 1)))))]
  [],
  .ret (.bin .bor true (.idx (.loc 3) (.int 0)) (.call F.L_draw [.loc 0, .bin .shl true (.int 1) (.bin .sub true (.loc 1) (.idx (.loc 3) (.int 1)))]))]
def d_L_near : Fn := ⟨4, 4, b_L_near, (some 2)⟩
end Py

set_option autoImplicit false
set_option linter.all false
set_option maxRecDepth 100000
namespace Py
/- L_rows: slots 0 _law_state_here, 1 _law_program, 2 _law_table, 3 _law_rows_here, 4 _law_k, 5 _law_keys, 6 _law_key, 7 _law_priority, 8 _law_action, 9 _law_args, 10 _law_row -/
def b_L_rows : List S := [.asg (.nm 3) (.lst false []),
  .forr (.nm 4) .rng [.call F.L_draw [.loc 0, .int 13]]
  [.asg (.nm 5) (.lcomp true (.call F.L_item [.loc 0, .call F.L_width [.loc 1, .idx (.loc 6) (.int 0)], .idx (.loc 6) (.int 1)]) (.nm 6) .seq [.idx (.loc 2) (.int 2)] none [6]),
  .iff (.and (.cmp .gt (.bc .len true [.loc 3]) (.int 0)) (.cmp .eq (.call F.L_draw [.loc 0, .int 3]) (.int 0)))
  [.asg (.nm 5) (.bc .list true [.idx (.call F.L_pick [.loc 0, .loc 3]) (.int 1)])]
  [],
  .asg (.nm 7) (.call F.L_pick [.loc 0, .lst true [.int 0, .int 0, .int 7, .call F.L_draw [.loc 0, .int 256]]]),
  .asg (.nm 8) (.call F.L_pick [.loc 0, .idx (.loc 2) (.int 3)]),
  .asg (.nm 9) (.idx (.dct true false [.str [120], .lst true [], .str [121], .lst true [.bin .mod true (.loc 4) (.int 8), .loc 4], .str [122], .lst true [.bin .mod true (.loc 4) (.int 2)]]) (.loc 8)),
  .iff (.cmp .eq (.bc .len true [.lcomp true (.loc 10) (.nm 10) .seq [.loc 3] (some (.and (.cmp .eq (.idx (.loc 10) (.int 1)) (.loc 5)) (.cmp .eq (.idx (.loc 10) (.int 2)) (.loc 7)))) [10]]) (.int 0))
  [.ex (.bm .append true (.loc 3) [.tup [.str [101, 110, 116, 114, 121], .loc 5, .loc 7, .loc 8, .loc 9]])]
  []] [4, 5, 7, 8, 9],
  .ret (.loc 3)]
def d_L_rows : Fn := ⟨3, 11, b_L_rows, (some 2)⟩
end Py

set_option autoImplicit false
set_option linter.all false
set_option maxRecDepth 100000
namespace Py
/- L_rank: slots 0 _law_table, 1 _law_row, 2 _law_size, 3 _law_k -/
def b_L_rank : List S := [.asg (.nm 2) (.int 0),
  .forr (.nm 3) .rlen [.idx (.loc 0) (.int 2)]
  [.iff (.cmp .eq (.idx (.idx (.idx (.loc 0) (.int 2)) (.loc 3)) (.int 1)) (.str [112, 114, 101, 102, 105, 120]))
  [.asg (.nm 2) (.idx (.idx (.idx (.loc 1) (.int 1)) (.loc 3)) (.int 1))]
  []] [3],
  .ret (.lst true [.idx (.loc 1) (.int 2), .loc 2])]
def d_L_rank : Fn := ⟨2, 4, b_L_rank, (some 0)⟩
end Py

set_option autoImplicit false
set_option linter.all false
set_option maxRecDepth 100000
namespace Py
/- L_main_v9: slots 0 _law_script, 1 _law_state_here, 2 _law_program, 3 _law_table, 4 _law_rows_here, 5 _law_j, 6 _law_values, 7 _law_near_here, 8 _law_k, 9 _law_width_here, 10 _law_best, 11 _law_at, 12 _law_right, 13 _law_told, 14 _law_due -/
def b_L_main_v9 : List S := [.asg (.nm 1) (.call F.L_state [.loc 0]),
  .asg (.nm 2) (.call F.L_table_program_v2 [.loc 1]),
  .asg (.nm 3) (.idx (.idx (.loc 2) (.int 6)) (.int 1)),
  .asg (.nm 4) (.call F.L_rows [.loc 1, .loc 2, .loc 3]),
  .forr (.nm 5) .rng [.int 4]
  [.asg (.nm 6) (.lst false []),
  .asg (.nm 7) (.ite (.cmp .gt (.bc .len true [.loc 4]) (.int 0)) (.idx (.call F.L_pick [.loc 1, .loc 4]) (.int 1)) (.non)),
  .forr (.nm 8) .rlen [.idx (.loc 3) (.int 2)]
  [.asg (.nm 9) (.call F.L_width [.loc 2, .idx (.idx (.idx (.loc 3) (.int 2)) (.loc 8)) (.int 0)]),
  .ex (.bm .append true (.loc 6) [.ite (.isN (.loc 7)) (.call F.L_draw [.loc 1, .bin .shl true (.int 1) (.loc 9)]) (.call F.L_near [.loc 1, .loc 9, .idx (.idx (.idx (.loc 3) (.int 2)) (.loc 8)) (.int 1), .idx (.loc 7) (.loc 8)])])] [8, 9],
  .asg (.nm 10) (.neg (.int 1)),
  .forr (.nm 11) .rlen [.loc 4]
  [.asg (.nm 12) (.bl true),
  .forr (.nm 8) .rlen [.loc 6]
  [.asg (.nm 9) (.call F.L_width [.loc 2, .idx (.idx (.idx (.loc 3) (.int 2)) (.loc 8)) (.int 0)]),
  .asg (.nm 12) (.and (.loc 12) (.call F.L_hits [.idx (.idx (.idx (.loc 3) (.int 2)) (.loc 8)) (.int 1), .loc 9, .idx (.idx (.idx (.loc 4) (.loc 11)) (.int 1)) (.loc 8), .idx (.loc 6) (.loc 8)]))] [8, 9],
  .asg (.nm 13) (.call F.entries_matches [.loc 2, .str [116], .idx (.loc 4) (.loc 11), .loc 6]),
  .iff (.or (.not (.isa (.loc 13) .bool)) (.cmp .ne (.loc 13) (.loc 12)))
  [.ret (.bl false)]
  [],
  .iff (.and (.loc 12) (.or (.cmp .lt (.loc 10) (.int 0)) (.cmp .gt (.call F.L_rank [.loc 3, .idx (.loc 4) (.loc 11)]) (.call F.L_rank [.loc 3, .idx (.loc 4) (.loc 10)]))))
  [.asg (.nm 10) (.loc 11)]
  []] [8, 9, 11, 12, 13],
  .asg (.nm 13) (.call F.entries_choose [.loc 2, .str [116], .loc 4, .loc 6]),
  .iff (.or (.isa (.loc 13) .bool) (.cmp .ne (.loc 13) (.loc 10)))
  [.ret (.bl false)]
  [],
  .asg (.nm 14) (.ite (.cmp .lt (.loc 10) (.int 0)) (.idx (.loc 3) (.int 4)) (.tup [.idx (.idx (.loc 4) (.loc 10)) (.int 3), .idx (.idx (.loc 4) (.loc 10)) (.int 4)])),
  .iff (.cmp .ne (.call F.entries_call_of [.loc 2, .str [116], .loc 4, .loc 13]) (.loc 14))
  [.ret (.bl false)]
  []] [5, 6, 7, 8, 9, 10, 11, 12, 13, 14],
  .ret (.bl true)]
def d_L_main_v9 : Fn := ⟨1, 15, b_L_main_v9, none⟩
end Py

set_option autoImplicit false
set_option linter.all false
set_option maxRecDepth 100000
/-! The text of k09: its tables, printed by gen.py. -/
namespace Py
def lt : LT where
  fns := [(F.rules_find, d_rules_find),
    (F.rules_width_in, d_rules_width_in),
    (F.rules_width_of, d_rules_width_of),
    (F.entries_high_bits, d_entries_high_bits),
    (F.entries_key_matches, d_entries_key_matches),
    (F.entries_matches, d_entries_matches),
    (F.entries_prefix_length, d_entries_prefix_length),
    (F.entries_choose, d_entries_choose),
    (F.entries_call_of, d_entries_call_of),
    (F.L_state, d_L_state),
    (F.L_draw, d_L_draw),
    (F.L_pick, d_L_pick),
    (F.L_width, d_L_width),
    (F.L_item, d_L_item),
    (F.L_table_program_v2, d_L_table_program_v2),
    (F.L_hits, d_L_hits),
    (F.L_near, d_L_near),
    (F.L_rows, d_L_rows),
    (F.L_rank, d_L_rank),
    (F.L_main_v9, d_L_main_v9)]
  at_ := [a1 F.rules_find "find",
    a1 F.rules_width_in "width_in",
    a1 F.rules_width_of "width_of",
    a1 F.entries_high_bits "high_bits",
    a1 F.entries_key_matches "key_matches",
    a1 F.entries_matches "matches",
    a1 F.entries_prefix_length "prefix_length",
    a1 F.entries_choose "choose",
    a1 F.entries_call_of "call_of",
    a1 F.L_state "_law_state",
    a1 F.L_draw "_law_draw",
    a1 F.L_pick "_law_pick",
    a1 F.L_width "_law_width",
    a1 F.L_item "_law_item",
    a1 F.L_table_program_v2 "_law_table_program",
    a1 F.L_hits "_law_hits",
    a1 F.L_near "_law_near",
    a1 F.L_rows "_law_rows",
    a1 F.L_rank "_law_rank",
    a1 F.L_main_v9 "law"]
  glo := [g1 F.rules_find "find",
    g1 F.rules_width_in "width_in",
    g1 F.rules_width_of "width_of",
    g1 F.entries_high_bits "high_bits",
    g1 F.entries_key_matches "key_matches",
    g1 F.entries_matches "matches",
    g1 F.entries_prefix_length "prefix_length",
    g1 F.entries_choose "choose",
    g1 F.entries_call_of "call_of",
    g1 F.L_state "_law_state",
    g1 F.L_draw "_law_draw",
    g1 F.L_pick "_law_pick",
    g1 F.L_width "_law_width",
    g1 F.L_item "_law_item",
    g1 F.L_table_program_v2 "_law_table_program",
    g1 F.L_hits "_law_hits",
    g1 F.L_near "_law_near",
    g1 F.L_rows "_law_rows",
    g1 F.L_rank "_law_rank",
    g1 F.L_main_v9 "law"]
  glb := [g3 G.rules_PORT "PORT" v_rules_PORT,
    g3 G.entries_DEFAULT "DEFAULT" v_entries_DEFAULT]
  cls := []
  ini := []
  met := []
  flds := []
  xts := []
  anc := []
def tb : Tb := lt.tb
instance : HasF tb F.rules_find d_rules_find := ⟨rfl⟩
instance : HasF tb F.rules_width_in d_rules_width_in := ⟨rfl⟩
instance : HasF tb F.rules_width_of d_rules_width_of := ⟨rfl⟩
instance : HasF tb F.entries_high_bits d_entries_high_bits := ⟨rfl⟩
instance : HasF tb F.entries_key_matches d_entries_key_matches := ⟨rfl⟩
instance : HasF tb F.entries_matches d_entries_matches := ⟨rfl⟩
instance : HasF tb F.entries_prefix_length d_entries_prefix_length := ⟨rfl⟩
instance : HasF tb F.entries_choose d_entries_choose := ⟨rfl⟩
instance : HasF tb F.entries_call_of d_entries_call_of := ⟨rfl⟩
instance : HasF tb F.L_state d_L_state := ⟨rfl⟩
instance : HasF tb F.L_draw d_L_draw := ⟨rfl⟩
instance : HasF tb F.L_pick d_L_pick := ⟨rfl⟩
instance : HasF tb F.L_width d_L_width := ⟨rfl⟩
instance : HasF tb F.L_item d_L_item := ⟨rfl⟩
instance : HasF tb F.L_table_program_v2 d_L_table_program_v2 := ⟨rfl⟩
instance : HasF tb F.L_hits d_L_hits := ⟨rfl⟩
instance : HasF tb F.L_near d_L_near := ⟨rfl⟩
instance : HasF tb F.L_rows d_L_rows := ⟨rfl⟩
instance : HasF tb F.L_rank d_L_rank := ⟨rfl⟩
instance : HasF tb F.L_main_v9 d_L_main_v9 := ⟨rfl⟩
instance : HasG tb G.rules_PORT v_rules_PORT := ⟨rfl⟩
instance : HasG tb G.entries_DEFAULT v_entries_DEFAULT := ⟨rfl⟩
end Py

set_option autoImplicit false
set_option linter.all false
set_option Elab.async false
set_option maxRecDepth 100000
set_option maxHeartbeats 4000000
/-! K09: chosen entries. -/
namespace Py
theorem rng_any {n : Int} (h : inB n) (s : Sto) : itA .rng [.int n] s = some (upFrom 0 1 n.toNat) := by
  show (if inB n then some (upFrom 0 1 n.toNat) else none) = _
  rw [if_pos h]
def refs9 : List (Fld × Int) := [(⟨([112, 97, 99, 107, 101, 116] : List Nat), ([112, 111, 114, 116] : List Nat)⟩, 3), (⟨([104] : List Nat), ([97] : List Nat)⟩, 1), (⟨([104] : List Nat), ([98] : List Nat)⟩, 7), (⟨([104] : List Nat), ([99] : List Nat)⟩, 8), (⟨([104] : List Nat), ([100] : List Nat)⟩, 32), (⟨([109, 101, 116, 97] : List Nat), ([109] : List Nat)⟩, 5)]
def encRef (x : Fld × Int) : A := .tup [.str x.1.own, .str x.1.nm, .int x.2]
def P9 (T : Tbl) : Prog where
  nm := ([112] : List Nat)
  hdrs := [⟨([104] : List Nat), [(([97] : List Nat), 1), (([98] : List Nat), 7), (([99] : List Nat), 8), (([100] : List Nat), 32)]⟩]
  meta_ := [(([109] : List Nat), 5)]
  states := [⟨([115, 116, 97, 114, 116] : List Nat), some ([104] : List Nat), .go ([97, 99, 99, 101, 112, 116] : List Nat)⟩]
  acts := [⟨([120] : List Nat), [], []⟩, ⟨([121] : List Nat), [(([112] : List Nat), 3), (([113] : List Nat), 32)], []⟩, ⟨([122] : List Nat), [(([114] : List Nat), 1)], []⟩]
  tbls := [⟨([115] : List Nat), [], [([122] : List Nat)], ([122] : List Nat), [1], 2⟩, T]
  ctl := []
  emits := []
structure T9 (T : Tbl) : Prop where
  nm : T.nm = ([116] : List Nat)
  key : ∀ k ∈ T.keys, ∃ w, (k.f, w) ∈ refs9
  len : T.keys.length ≤ 4
  one : (T.keys.filter fun k => decide (k.kind = .pfx)).length ≤ 1
  use : T.uses = [([120] : List Nat)] ∨ T.uses = [([120] : List Nat), ([121] : List Nat)] ∨ T.uses = [([122] : List Nat), ([121] : List Nat), ([120] : List Nat)]
  arg : T.dargs.length ≤ 2
theorem refs_w (T : Tbl) : ∀ x ∈ refs9, (P9 T).width x.1 = some x.2 ∧ 1 ≤ x.2 ∧ x.2 ≤ 32 := by
  intro x hx
  simp only [refs9, List.mem_cons, List.not_mem_nil, or_false] at hx
  rcases hx with rfl | rfl | rfl | rfl | rfl | rfl <;> exact ⟨by rfl, by decide, by decide⟩
theorem P9_shal (T : Tbl) : (P9 T).shal := by simp [Prog.shal, P9, Stm.deps]
theorem P9_names (T : Tbl) : (P9 T).Names := ⟨by simp [P9], by simp [P9, s_meta]⟩
theorem P9_big (T : Tbl) : (P9 T).meta_.length ≤ big ∧ ∀ h ∈ (P9 T).hdrs, h.fields.length ≤ big := ⟨by simp [P9, big], by simp [P9, big]⟩
theorem P9_tbl {T : Tbl} (h : T9 T) : (P9 T).tbl ([116] : List Nat) = some T := by
  simp [Prog.tbl, P9, h.nm]
def b9Turn : List S := [.iff (.and (.cmp .lt (.bc .len true [.loc 5]) (.int 4)) (.cmp .eq (.call F.L_draw [.loc 0, .int 2]) (.int 0)))
  [.asg (.nm 10) (.call F.L_pick [.loc 0, .loc 6]),
  .iff (.cmp .eq (.loc 10) (.str [112, 114, 101, 102, 105, 120]))
  [.asg (.nm 6) (.lst true [.str [101, 120, 97, 99, 116], .str [109, 97, 115, 107]])]
  [],
  .ex (.bm .append true (.loc 5) [.tup [.tup [.loc 7, .loc 8], .loc 10]])]
  []]
def kinds9 (keys : List Key) : List Kind := if (keys.filter fun k => decide (k.kind = .pfx)).length = 0 then [.exact, .mask, .pfx] else [.exact, .mask]
def l9 (h m r a : A) (keys : List Key) (x7 x8 x9 x10 : Option A) : Loc := [some (.ref 1), some h, some m, some r, some a, some (.ref 2), some (.lst ((kinds9 keys).map fun k => .str k.nm)), x7, x8, x9, x10, none, none, none, none]
theorem turn9 (k : Nat) (h m r a : A) (keys : List Key) (d : Dr) (x : Fld × Int) (hx : x ∈ refs9) (hd : d.Ok) (h1 : ∀ k ∈ keys, ∃ w, (k.f, w) ∈ refs9) (h2 : keys.length ≤ 4) (h3 : (keys.filter fun k => decide (k.kind = .pfx)).length ≤ 1) :
    ∃ keys2 d2 x10, d2.Ok ∧ (∀ k ∈ keys2, ∃ w, (k.f, w) ∈ refs9) ∧ keys2.length ≤ 4 ∧ (keys2.filter fun k => decide (k.kind = .pfx)).length ≤ 1 ∧
      evSs (tb.env (callF tb (k + 2))) b9Turn (l9 h m r a keys (some (.str x.1.own)) (some (.str x.1.nm)) (some (.int x.2)) none) (dst d ++ [.lst (keys.map Key.enc)]) = .nx (l9 h m r a keys2 (some (.str x.1.own)) (some (.str x.1.nm)) (some (.int x.2)) x10) (dst d2 ++ [.lst (keys2.map Key.enc)]) := by
  by_cases hl : keys.length < 4
  · obtain ⟨c, d1, c0, c1, ok1, e1⟩ := x_draw (t := tb) (k + 1) 2 d (by omega) (by omega) hd
    have e1' := e1 [.lst (keys.map Key.enc)]
    have hl2 : (keys.length : Int) < 4 := by omega
    by_cases hc : c = 0
    · subst hc
      obtain ⟨kd, d2, hk, ok2, e2⟩ := x_pick (t := tb) (fun k : Kind => A.str k.nm) k (kinds9 keys) d1 (by unfold kinds9; split <;> simp) (by unfold kinds9; split <;> simp) ok1
      have e2' := e2 [.lst (keys.map Key.enc)]
      have hbig : keys.length < big := by simp only [big]; omega
      refine ⟨keys ++ [⟨x.1, kd⟩], d2, some (.str kd.nm), ok2, ?_, by simp; omega, ?_, ?_⟩
      · intro q hq
        rcases List.mem_append.mp hq with hq | hq
        · exact h1 q hq
        · simp at hq; subst hq; exact ⟨x.2, hx⟩
      · rw [List.filter_append, List.length_append]
        by_cases z : kd = .pfx
        · subst z
          unfold kinds9 at hk
          split at hk
          · rename_i z2; simp [z2]
          · simp at hk
        · simp [z]; exact h3
      · by_cases z : kd = .pfx
        · subst z
          have e3 : kinds9 (keys ++ [⟨x.1, .pfx⟩]) = [.exact, .mask] := by
            unfold kinds9
            rw [if_neg]
            simp [List.filter_append]
          rw [l9, l9, e3]
          simp [b9Turn, hl2, e1', e2', hbig, Key.enc, Fld.enc]
          simp [Kind.nm]
        · have e3 : kinds9 (keys ++ [⟨x.1, kd⟩]) = kinds9 keys := by
            unfold kinds9
            simp [List.filter_append, z]
          rw [l9, l9, e3]
          simp [b9Turn, hl2, e1', e2', hbig, Key.enc, Fld.enc, z]
    · refine ⟨keys, d1, none, ok1, h1, h2, h3, ?_⟩
      simp [b9Turn, l9, hl2, e1', hc]
  · refine ⟨keys, d, none, hd, h1, h2, h3, ?_⟩
    have hl2 : ¬ (keys.length : Int) < 4 := by omega
    simp [b9Turn, l9, hl2]
theorem x_table (k : Nat) (d : Dr) (hd : d.Ok) : ∃ T d2, T9 T ∧ d2.Ok ∧ ∀ rest, callF tb (k + 3) F.L_table_program_v2 [.ref 1] (dst d ++ rest) = .ok (P9 T).enc (dst d2 ++ rest) := by
  let h : A := .lst [.tup [.str ([104, 101, 97, 100, 101, 114] : List Nat), .str ([104] : List Nat), .lst [.tup [.str ([97] : List Nat), .int 1], .tup [.str ([98] : List Nat), .int 7], .tup [.str ([99] : List Nat), .int 8], .tup [.str ([100] : List Nat), .int 32]]]]
  let m : A := .lst [.tup [.str ([109] : List Nat), .int 5]]
  let r : A := .lst (refs9.map encRef)
  let a : A := .lst [.tup [.str ([97, 99, 116, 105, 111, 110] : List Nat), .str ([120] : List Nat), .lst [], .lst []], .tup [.str ([97, 99, 116, 105, 111, 110] : List Nat), .str ([121] : List Nat), .lst [.tup [.str ([112] : List Nat), .int 3], .tup [.str ([113] : List Nat), .int 32]], .lst []], .tup [.str ([97, 99, 116, 105, 111, 110] : List Nat), .str ([122] : List Nat), .lst [.tup [.str ([114] : List Nat), .int 1]], .lst []]]
  obtain ⟨l2, s2, q1, q2⟩ := for_inv (t := .tp [7, 8, 9]) (k := .seq) (as := [r]) (ks := [7, 8, 9, 10]) (g := evSs (tb.env (callF tb (k + 2))) b9Turn) (all := refs9.map encRef) (l := l9 h m r a [] none none none none) (s := dst d ++ [.lst []])
    (fun _ l s => ∃ keys d2, d2.Ok ∧ (∀ k ∈ keys, ∃ w, (k.f, w) ∈ refs9) ∧ keys.length ≤ 4 ∧ (keys.filter fun k => decide (k.kind = .pfx)).length ≤ 1 ∧ l = l9 h m r a keys none none none none ∧ s = dst d2 ++ [.lst (keys.map Key.enc)])
    ⟨[], d, hd, by simp, by simp, by simp, rfl, rfl⟩ (by
      rintro i x l s hx ⟨keys, d2, ok, h1, h2, h3, rfl, rfl⟩
      rw [List.getElem?_map] at hx
      obtain ⟨x, hx2, rfl⟩ := Option.map_eq_some_iff.mp hx
      obtain ⟨keys2, d3, x10, ok3, g1, g2, g3, e⟩ := turn9 k h m r a keys d2 x (List.mem_of_getElem? hx2) ok h1 h2 h3
      exact ⟨_, _, _, rfl, .inl e, rfl, keys2, d3, ok3, g1, g2, g3, rfl, rfl⟩)
  obtain ⟨keys, d1, ok1, h1, h2, h3, rfl, rfl⟩ := q2
  obtain ⟨us, d2, hu, ok2, e2⟩ := x_pick (t := tb) (fun xs : List Name => A.lst (xs.map .str)) k [[([120] : List Nat)], [([120] : List Nat), ([121] : List Nat)], [([122] : List Nat), ([121] : List Nat), ([120] : List Nat)]] d1 (by simp) (by simp) ok1
  have hu2 : us ≠ [] ∧ us.length ≤ 1000 ∧ ∀ u ∈ us, u = ([120] : List Nat) ∨ u = ([121] : List Nat) ∨ u = ([122] : List Nat) := by
    simp only [List.mem_cons, List.not_mem_nil, or_false] at hu
    rcases hu with rfl | rfl | rfl <;> simp
  obtain ⟨nm, d3, hn, ok3, e3⟩ := x_pick (t := tb) A.str k us d2 hu2.1 hu2.2.1 ok2
  obtain ⟨i1, d4, i0, i2, ok4, e4⟩ := x_draw (t := tb) (k + 1) 8 d3 (by omega) (by omega) ok3
  obtain ⟨j1, d5, j0, j2, ok5, e5⟩ := x_draw (t := tb) (k + 1) 4294967296 d4 (by omega) (by omega) ok4
  obtain ⟨z1, d6, z0, z2, ok6, e6⟩ := x_draw (t := tb) (k + 1) 16 d5 (by omega) (by omega) ok5
  have hg : ∃ args : List Int, args.length ≤ 2 ∧ dget (dput (dput (dput [] (.str ([120] : List Nat)) (.lst [])) (.str ([121] : List Nat)) (.lst [.int i1, .int j1])) (.str ([122] : List Nat)) (.lst [.int 1])) (.str nm) = some (.lst (args.map .int)) := by
    rcases hu2.2.2 nm hn with rfl | rfl | rfl
    · exact ⟨[], by simp, by simp [dget, dput]⟩
    · exact ⟨[i1, j1], by simp, by simp [dget, dput]⟩
    · exact ⟨[1], by simp, by simp [dget, dput]⟩
  obtain ⟨args, ha, hg⟩ := hg
  let T : Tbl := ⟨([116] : List Nat), keys, us, nm, args, 1 + z1⟩
  refine ⟨T, d6, ⟨rfl, h1, h2, h3, by simpa using hu, ha⟩, ok6, fun rest => ?_⟩
  refine call_two (s2 := [.lst (keys.map Key.enc)]) (np := 1) (nl := 15) (b := b_L_table_program_v2) (HasF.h (t := tb) (f := F.L_table_program_v2)) (by simp) rfl
    (a := .tup [.str ([112, 114, 111, 103, 114, 97, 109] : List Nat), .str ([112] : List Nat), h, m, .lst [.tup [.str ([115, 116, 97, 116, 101] : List Nat), .str ([115, 116, 97, 114, 116] : List Nat), .str ([104] : List Nat), .tup [.str ([103, 111] : List Nat), .str ([97, 99, 99, 101, 112, 116] : List Nat)]]], a, .lst [.tup [.str ([116, 97, 98, 108, 101] : List Nat), .str ([115] : List Nat), .lst [], .lst [.str ([122] : List Nat)], .tup [.str ([122] : List Nat), .lst [.int 1]], .int 2], .tup [.str ([116, 97, 98, 108, 101] : List Nat), .str ([116] : List Nat), .ref 2, .lst (us.map .str), .tup [.str nm, .lst (args.map .int)], .int (1 + z1)]], .lst [], .lst []]) ?_ ?_
  · have e2' := e2 [.lst (keys.map Key.enc)]
    have e3' := e3 [.lst (keys.map Key.enc)]
    have e4' := e4 [.lst (keys.map Key.enc)]
    have e5' := e5 [.lst (keys.map Key.enc)]
    have e6' := e6 [.lst (keys.map Key.enc)]
    simp only [List.map_cons, List.map_nil] at e2'
    have p1 : evSs (tb.env (callF tb (k + 2))) (b_L_table_program_v2.take 6) (locs 1 15 [.ref 1]) (dst d) = .nx (l9 h m r a [] none none none none) (dst d ++ [.lst []]) := by
      simp only [b_L_table_program_v2, locs, List.take, l9, h, m, r, a, refs9, encRef, kinds9]
      simp [dst_len, Kind.nm, encRef]
    have p2 : evSs (tb.env (callF tb (k + 2))) ((b_L_table_program_v2.drop 6).take 1) (l9 h m r a [] none none none none) (dst d ++ [.lst []]) = .nx (l9 h m r a keys none none none none) (dst d1 ++ [.lst (keys.map Key.enc)]) := by
      show (evS (tb.env (callF tb (k + 2))) (.forr (.tp [7, 8, 9]) .seq [.loc 3] b9Turn [7, 8, 9, 10]) _ _).seq _ = _
      have hh : evS (tb.env (callF tb (k + 2))) (.forr (.tp [7, 8, 9]) .seq [.loc 3] b9Turn [7, 8, 9, 10]) (l9 h m r a [] none none none none) (dst d ++ [.lst []]) = .nx (l9 h m r a keys none none none none) (dst d1 ++ [.lst (keys.map Key.enc)]) := by
        have q3 : kill [7, 8, 9, 10] (l9 h m r a keys none none none none) = l9 h m r a keys none none none none := rfl
        rw [q3] at q1
        simp only [l9] at q1 ⊢
        simp [r] at q1 ⊢
        exact q1
      rw [hh]
      rfl
    have p3 : evSs (tb.env (callF tb (k + 2))) (b_L_table_program_v2.drop 7) (l9 h m r a keys none none none none) (dst d1 ++ [.lst (keys.map Key.enc)]) = .ret (.tup [.str ([112, 114, 111, 103, 114, 97, 109] : List Nat), .str ([112] : List Nat), h, m, .lst [.tup [.str ([115, 116, 97, 116, 101] : List Nat), .str ([115, 116, 97, 114, 116] : List Nat), .str ([104] : List Nat), .tup [.str ([103, 111] : List Nat), .str ([97, 99, 99, 101, 112, 116] : List Nat)]]], a, .lst [.tup [.str ([116, 97, 98, 108, 101] : List Nat), .str ([115] : List Nat), .lst [], .lst [.str ([122] : List Nat)], .tup [.str ([122] : List Nat), .lst [.int 1]], .int 2], .tup [.str ([116, 97, 98, 108, 101] : List Nat), .str ([116] : List Nat), .ref 2, .lst (us.map .str), .tup [.str nm, .lst (args.map .int)], .int (1 + z1)]], .lst [], .lst []]) (dst d6 ++ [.lst (keys.map Key.enc)]) := by
      simp only [b_L_table_program_v2, List.drop, l9]
      simp [e2', e3', e4', e5', e6', hg]
    have r1 := evSs_app _ (b_L_table_program_v2.take 6) (b_L_table_program_v2.drop 6) _ _ _ _ p1
    have r2 := evSs_app _ ((b_L_table_program_v2.drop 6).take 1) (b_L_table_program_v2.drop 7) _ _ _ _ p2
    exact congrArg Fl.res ((r1.trans r2).trans p3)
  · simp [T, P9, Prog.enc, Hdr.enc, encNW, PSt.enc, encON, Nxt.enc, Act.enc, Tbl.enc, h, m, a]
/-! ### hits, bit by bit -/
def cnt9 (kd : Kind) (w m : Int) (k : Nat) : Bool := match kd with
  | .pfx => decide (w - m ≤ k)
  | _ => decide (bit m k = 1)
def ok9 (kd : Kind) (w a m v : Int) (k : Nat) : Bool := !(cnt9 kd w m k && !decide (bit v k = bit a k))
theorem hit_all (kd : Kind) (w a m v : Int) (h : Item.Ok kd w (.two a m)) (hw : 0 ≤ w) (hv : 0 ≤ v ∧ v < 2 ^ w.toNat) : (List.range w.toNat).all (ok9 kd w a m v) = itemHit kd w (.two a m) v := by
  rcases h with ⟨rfl, h1, h2, h3, h4⟩ | ⟨rfl, h1, h2, h3, h4, q, _, h5⟩
  · have key := band_mask v a m w hv ⟨h2, h3⟩ h1 h4
    have e : (itemHit .mask w (.two a m) v = true) ↔ ∀ k : Nat, k < w.toNat → bit m k = 1 → bit v k = bit a k := by
      rw [← key]; simp [itemHit]
    rw [Bool.eq_iff_iff, e, List.all_eq_true]
    simp only [List.mem_range, ok9, cnt9]
    constructor
    · intro h k hk h1
      have := h k hk
      simpa [h1] using this
    · intro h k hk
      have := h k hk
      by_cases z : bit m k = 1 <;> simp [z]
      exact this z
  · have key := band_prefix v a m w hv ⟨h3, h4⟩ ⟨h1, h2⟩ q h5
    have e : (itemHit .pfx w (.two a m) v = true) ↔ ∀ k : Nat, k < w.toNat → (w - m).toNat ≤ k → bit v k = bit a k := by
      rw [← key]; simp [itemHit, highBits]
    rw [Bool.eq_iff_iff, e, List.all_eq_true]
    simp only [List.mem_range, ok9, cnt9]
    constructor
    · intro h k hk h1
      have := h k hk
      have z : w - m ≤ (k : Int) := by omega
      simpa [z] using this
    · intro h k hk
      have := h k hk
      by_cases z : w - m ≤ (k : Int)
      · simp [z]; exact this (by omega)
      · simp [z]
theorem x_hits (k : Nat) (kd : Kind) (w : Int) (it : Item) (v : Int) (h : Item.Ok kd w it) (hw : 1 ≤ w ∧ w ≤ 32) (hv : 0 ≤ v ∧ v < 2 ^ w.toNat) (s : Sto) :
    callF tb (k + 1) F.L_hits [.str kd.nm, .int w, it.enc, .int v] s = .ok (.bl (itemHit kd w it v)) s := by
  refine call_pure (s1 := []) (np := 4) (nl := 8) (b := b_L_hits) (HasF.h (t := tb) (f := F.L_hits)) (by simp) rfl (by simp) ?_
  cases it with
  | one a =>
    obtain ⟨rfl, _, _⟩ := h
    simp only [b_L_hits, locs]
    simp [Item.enc, itemHit]
    by_cases z : v = a
    · simp [z]
    · have z2 : ¬ a = v := fun q => z q.symm
      have z3 : (v == a) = false := by simpa using z
      have z4 : (a == v) = false := by simpa using z2
      rw [z3, z4]
  | two a m =>
    have hk : ¬ kd = .exact := by rcases h with ⟨rfl, _⟩ | ⟨rfl, _⟩ <;> simp
    have hl := forL_findE (fun i : Nat => A.int i) (fun i => if ok9 kd w a m v i = true then none else some (.bl false)) (t := .nm 4) (k := .rng) (as := [.int w]) (ks := [4, 5, 6, 7])
      (g := evSs (tb.env (callF tb k)) [.asg (.nm 5) (.bin .band true (.bin .shr true (.loc 3) (.loc 4)) (.int 1)),
  .asg (.nm 6) (.bin .band true (.bin .shr true (.idx (.loc 2) (.int 0)) (.loc 4)) (.int 1)),
  .asg (.nm 7) (.cmp .eq (.bin .band true (.bin .shr true (.idx (.loc 2) (.int 1)) (.loc 4)) (.int 1)) (.int 1)),
  .iff (.cmp .eq (.loc 0) (.str [112, 114, 101, 102, 105, 120]))
  [.asg (.nm 7) (.cmp .ge (.loc 4) (.bin .sub true (.loc 1) (.idx (.loc 2) (.int 1))))]
  [],
  .iff (.and (.loc 7) (.cmp .ne (.loc 5) (.loc 6)))
  [.ret (.bl false)]
  []])
      (List.range w.toNat) (l := [some (.str kd.nm), some (.int w), some (Item.two a m).enc, some (.int v), none, none, none, none]) (s := []) (by simp [kill]) (it_range ⟨by omega, by omega⟩ []) (by
        intro i hi
        refine ⟨[some (.str kd.nm), some (.int w), some (Item.two a m).enc, some (.int v), some (.int i), none, none, none], by simp, ?_⟩
        have b1 : PySem.Builtin.bitAnd (v / 2 ^ i) 1 = bit v i := band_one v i
        have b2 : PySem.Builtin.bitAnd (a / 2 ^ i) 1 = bit a i := band_one a i
        have b3 : PySem.Builtin.bitAnd (m / 2 ^ i) 1 = bit m i := band_one m i
        have hc : cnt9 kd w m i = if kd = .pfx then decide (w - m ≤ i) else decide (bit m i = 1) := by cases kd <;> simp [cnt9]
        have hee : eqA (.int (bit v i)) (.int (bit a i)) = decide (bit v i = bit a i) := by
          show (bit v i == bit a i) = _
          by_cases z : bit v i = bit a i <;> simp [z]
        unfold ok9
        rw [hc]
        by_cases hp : kd = .pfx
        · rw [if_pos hp]
          by_cases c1 : w - m ≤ (i : Int)
          · by_cases c2 : bit v i = bit a i
            · exact .inr ⟨by simp [c2], [some (.str kd.nm), some (.int w), some (Item.two a m).enc, some (.int v), some (.int i), some (.int (bit v i)), some (.int (bit a i)), some (.bl true)], .inl (by simp [Item.enc, b1, b2, b3, hp, c1, c2]), by simp [kill]⟩
            · exact .inl ⟨.bl false, by simp [c1, c2], by simp [Item.enc, b1, b2, b3, hp, c1, c2]⟩
          · exact .inr ⟨by simp [c1], [some (.str kd.nm), some (.int w), some (Item.two a m).enc, some (.int v), some (.int i), some (.int (bit v i)), some (.int (bit a i)), some (.bl false)], .inl (by simp [Item.enc, b1, b2, b3, hp, c1]), by simp [kill]⟩
        · rw [if_neg hp]
          by_cases c1 : bit m i = 1
          · by_cases c2 : bit v i = bit a i
            · exact .inr ⟨by simp [c2], [some (.str kd.nm), some (.int w), some (Item.two a m).enc, some (.int v), some (.int i), some (.int (bit v i)), some (.int (bit a i)), some (.bl true)], .inl (by simp [Item.enc, b1, b2, b3, hp, c1, c2]), by simp [kill]⟩
            · exact .inl ⟨.bl false, by simp [c1, c2], by simp [Item.enc, b1, b2, b3, hp, c1, c2]⟩
          · exact .inr ⟨by simp [c1], [some (.str kd.nm), some (.int w), some (Item.two a m).enc, some (.int v), some (.int i), some (.int (bit v i)), some (.int (bit a i)), some (.bl false)], .inl (by simp [Item.enc, b1, b2, b3, hp, c1]), by simp [kill]⟩)
    rw [findSome_all, hit_all kd w a m v h (by omega) hv] at hl
    have hi2 : itA .rng [.int w] [] = _ := it_range ⟨by omega, by omega⟩ []
    simp only [b_L_hits, locs]
    cases hb : itemHit kd w (.two a m) v with
    | true => rw [hb] at hl; simp at hl; simp [hk, hi2, hl]
    | false => rw [hb] at hl; simp at hl; simp [hk, hi2, hl]
/-! ### a value near an item -/
theorem x_near (k : Nat) (kd : Kind) (w : Int) (it : Item) (d : Dr) (h : Item.Ok kd w it) (hw : 1 ≤ w ∧ w ≤ 32) (hd : d.Ok) :
    ∃ v d2, (0 ≤ v ∧ v < 2 ^ w.toNat) ∧ d2.Ok ∧ ∀ rest, callF tb (k + 2) F.L_near [.ref 1, .int w, .str kd.nm, it.enc] (dst d ++ rest) = .ok (.int v) (dst d2 ++ rest) := by
  obtain ⟨p1, p2⟩ := pow_le32 (w := w) (by omega)
  have hsh : (0 : Int) ≤ w ∧ w ≤ 1000 := by omega
  obtain ⟨c, d1, c0, c1, ok1, e1⟩ := x_draw (t := tb) k 4 d (by omega) (by omega) hd
  have e1' := e1 []
  have fin : ∀ (v : Int) (d2 : Dr), (evSs (tb.env (callF tb (k + 1))) b_L_near (locs 4 4 [.ref 1, .int w, .str kd.nm, it.enc]) (dst d)).res = .ok (.int v) (dst d2 ++ []) → ∀ rest, callF tb (k + 2) F.L_near [.ref 1, .int w, .str kd.nm, it.enc] (dst d ++ rest) = .ok (.int v) (dst d2 ++ rest) := fun v d2 e rest =>
    call_two (s2 := []) (np := 4) (nl := 4) (b := b_L_near) (HasF.h (t := tb) (f := F.L_near)) (by simp) rfl e (by simp)
  by_cases hc : c = 0
  · subst hc
    obtain ⟨v, d2, v0, v1, ok2, e2⟩ := x_draw (t := tb) k (2 ^ w.toNat) d1 (by omega) (by omega) ok1
    have e2' := e2 []
    simp only [List.append_nil] at e1' e2'
    exact ⟨v, d2, ⟨v0, v1⟩, ok2, fin v d2 (by simp only [b_L_near, locs, List.append_nil]; simp [e1', e2', hsh])⟩
  · cases it with
    | one a =>
      obtain ⟨rfl, a0, a1⟩ := h
      simp only [List.append_nil] at e1'
      exact ⟨a, d1, ⟨a0, a1⟩, ok1, fin a d1 (by simp only [b_L_near, locs, List.append_nil]; simp [e1', hc, Item.enc])⟩
    | two a m =>
      rcases h with ⟨rfl, h1, h2, h3, h4⟩ | ⟨rfl, h1, h2, h3, h4, q, _, h5⟩
      · obtain ⟨g, d2, g0, g1, ok2, e2⟩ := x_draw (t := tb) k (2 ^ w.toNat) d1 (by omega) (by omega) ok1
        have e2' := e2 []
        simp only [List.append_nil] at e1' e2'
        obtain ⟨b1, b2⟩ := band_ge g (2 ^ w.toNat - 1 - m) g0 (by omega)
        have ha : a ≤ m := by rw [← h4]; exact (band_ge a m h1 h2).2
        have hb := bor_lt a (band g (2 ^ w.toNat - 1 - m)) w ⟨h1, by omega⟩ ⟨b1, by omega⟩
        exact ⟨_, d2, hb, ok2, fin _ d2 (by simp only [b_L_near, locs, List.append_nil]; simp [e1', e2', hc, hsh, Item.enc])⟩
      · have hn : (0 : Int) ≤ w - m ∧ w - m ≤ 1000 := by omega
        have hm : m ≤ w := by omega
        obtain ⟨p3, p4⟩ := pow_le32 (w := w - m) (by omega)
        obtain ⟨g, d2, g0, g1, ok2, e2⟩ := x_draw (t := tb) k (2 ^ (w - m).toNat) d1 (by omega) (by omega) ok1
        have e2' := e2 []
        simp only [List.append_nil] at e1' e2'
        have hle : (2 : Int) ^ (w - m).toNat ≤ 2 ^ w.toNat := by
          rw [← pow_cast, ← pow_cast]
          exact Int.ofNat_le.mpr (Nat.pow_le_pow_right (by decide) (by omega))
        have hb := bor_lt a g w ⟨h3, h4⟩ ⟨g0, by omega⟩
        exact ⟨_, d2, hb, ok2, fin _ d2 (by simp only [b_L_near, locs, List.append_nil]; simp [e1', e2', hc, hn, hm, Item.enc])⟩
/-! ### the rank -/
theorem zipIdx_enc {α : Type} (xs : List α) : (xs.zipIdx.map fun x => A.int x.2) = (List.range xs.length).map fun i : Nat => A.int i := by
  apply List.ext_getElem?
  intro i
  simp only [List.getElem?_map, List.getElem?_zipIdx, List.getElem?_range]
  by_cases h : i < xs.length
  · simp [h]
  · simp [h]
theorem foldl_idx {α σ : Type} (f : σ → α → σ) : ∀ (xs : List α) (n : Nat) (z : σ), (xs.zipIdx n).foldl (fun z x => f z x.1) z = xs.foldl f z
  | [], n, z => rfl
  | x :: xs, n, z => by simp [foldl_idx f xs (n + 1)]
def last1 (z : Int) (x : Item × Key) : Int := if x.2.kind = .pfx then x.1.snd else z
def isP (x : Item × Key) : Bool := decide (x.2.kind = .pfx)
theorem last_plus : ∀ (xs : List (Item × Key)) (z : Int), xs.countP isP ≤ 1 → (z = 0 ∨ xs.countP isP = 0) → xs.foldl last1 z = xs.foldl (fun z x => z + plen1 x) z
  | [], z, _, _ => rfl
  | x :: xs, z, h, h2 => by
    rw [List.foldl_cons, List.foldl_cons]
    rw [List.countP_cons] at h h2
    by_cases hx : x.2.kind = .pfx
    · have e0 : isP x = true := by simp [isP, hx]
      rw [if_pos e0] at h h2
      have hz : z = 0 := by omega
      subst hz
      have e : last1 0 x = 0 + plen1 x := by simp [last1, plen1, hx]
      rw [e]
      exact last_plus xs _ (by omega) (.inr (by omega))
    · have e0 : ¬ isP x = true := by simp [isP, hx]
      rw [if_neg e0] at h h2
      have e : last1 z x = z := by simp [last1, hx]
      have e2 : z + plen1 x = z := by simp [plen1, hx]
      rw [e, e2]
      exact last_plus xs z (by omega) (by omega)
theorem countP_zip : ∀ (is : List Item) (ks : List Key), (is.zip ks).countP isP ≤ (ks.filter fun k => decide (k.kind = .pfx)).length
  | [], ks => by simp
  | _ :: _, [] => by simp
  | i :: is, k :: ks => by
    have ih := countP_zip is ks
    rw [List.zip_cons_cons, List.countP_cons, List.filter_cons]
    by_cases hk : k.kind = .pfx
    · simp [isP, hk] at ih ⊢; omega
    · simp [isP, hk] at ih ⊢; exact ih
/-- an entry of the law -/
structure E9 (T : Tbl) (e : Ent) : Prop where
  len : e.keys.length = T.keys.length
  itm : ∀ x ∈ e.keys.zip T.keys, ∃ w, (x.2.f, w) ∈ refs9 ∧ Item.Ok x.2.kind w x.1
  pri : 0 ≤ e.prio
  arg : e.args.length ≤ 2
theorem E9.forms {T : Tbl} {e : Ent} (h : E9 T e) : e.forms (P9 T) T := fun x hx => by
  obtain ⟨w, h1, h2⟩ := h.itm x hx
  obtain ⟨g1, g2, g3⟩ := refs_w T _ h1
  refine ⟨w, g1, by omega, by omega, ?_⟩
  cases hi : x.1 with
  | one v => rw [hi] at h2; exact h2.1
  | two v m =>
    rw [hi] at h2
    rcases h2 with ⟨h3, _⟩ | ⟨h3, h4, h5, _⟩
    · exact ⟨by rw [h3]; decide, fun q => by rw [h3] at q; cases q⟩
    · exact ⟨by rw [h3]; decide, fun _ => ⟨h4, h5⟩⟩
theorem x_rank (k : Nat) (T : Tbl) (hT : T9 T) (e : Ent) (he : E9 T e) (s : Sto) : callF tb (k + 1) F.L_rank [T.enc, e.enc] s = .ok (.lst [.int e.prio, .int (plen T e)]) s := by
  refine call_pure (s1 := []) (np := 2) (nl := 4) (b := b_L_rank) (HasF.h (t := tb) (f := F.L_rank)) (by simp) rfl (by simp) ?_
  have hlz : (e.keys.zip T.keys).length = T.keys.length := by simp [he.len]
  have hz : itA .rlen [.lst (T.keys.map Key.enc)] [] = some ((e.keys.zip T.keys).zipIdx.map fun x => A.int x.2) := by
    rw [zipIdx_enc, hlz]
    simp [upFrom_range]
  obtain ⟨hl, _⟩ := forL_foldE (fun x : (Item × Key) × Nat => A.int x.2) (fun z : Int => [some T.enc, some e.enc, some (.int z), none]) (fun _ => []) (fun z x => last1 z x.1) (fun _ => True) (t := .nm 3) (k := .rlen) (as := [.lst (T.keys.map Key.enc)]) (ks := [3])
    (g := evSs (tb.env (callF tb k)) [.iff (.cmp .eq (.idx (.idx (.idx (.loc 0) (.int 2)) (.loc 3)) (.int 1)) (.str [112, 114, 101, 102, 105, 120])) [.asg (.nm 2) (.idx (.idx (.idx (.loc 1) (.int 1)) (.loc 3)) (.int 1))] []])
    (e.keys.zip T.keys).zipIdx (by simp [kill]) (fun _ _ => hz) (by
      rintro ⟨⟨it, ky⟩, i⟩ hm z _
      have hg := List.mem_zipIdx_iff_getElem?.mp hm
      simp only [List.getElem?_zip_eq_some] at hg
      obtain ⟨h1, h2⟩ := hg
      have hi : i < T.keys.length := (List.getElem?_eq_some_iff.mp h2).1
      have a1 : atI (T.keys.map Key.enc) (i : Int) = some ky.enc := by rw [atI_nat (by omega) (by simpa using hi)]; simp [h2]
      have a2 : atI (e.keys.map Item.enc) (i : Int) = some it.enc := by rw [atI_nat (by omega) (by simp [he.len]; exact hi)]; simp [h1]
      obtain ⟨w, g1, g2⟩ := he.itm (it, ky) (List.mem_of_getElem? (List.getElem?_zip_eq_some.mpr ⟨h1, h2⟩))
      refine ⟨trivial, [some T.enc, some e.enc, some (.int z), some (.int i)], [some T.enc, some e.enc, some (.int (last1 z (it, ky))), some (.int i)], by simp, .inl ?_, by simp [kill]⟩
      unfold last1
      by_cases hk : ky.kind = .pfx
      · cases it with
        | one a => have := g2.1; simp only [hk] at this; cases this
        | two a m => simp [a1, a2, hk, Item.enc, Item.snd]
      · simp [a1, hk]) 0 trivial
  rw [foldl_idx last1] at hl
  rw [last_plus _ 0 (Nat.le_trans (countP_zip _ _) hT.one) (.inl rfl)] at hl
  simp only [b_L_rank, locs]
  unfold plen
  simp [hz, hl]
/-! ### the rows -/
def bRows9 : List S := [.asg (.nm 5) (.lcomp true (.call F.L_item [.loc 0, .call F.L_width [.loc 1, .idx (.loc 6) (.int 0)], .idx (.loc 6) (.int 1)]) (.nm 6) .seq [.idx (.loc 2) (.int 2)] none [6]),
  .iff (.and (.cmp .gt (.bc .len true [.loc 3]) (.int 0)) (.cmp .eq (.call F.L_draw [.loc 0, .int 3]) (.int 0)))
  [.asg (.nm 5) (.bc .list true [.idx (.call F.L_pick [.loc 0, .loc 3]) (.int 1)])]
  [],
  .asg (.nm 7) (.call F.L_pick [.loc 0, .lst true [.int 0, .int 0, .int 7, .call F.L_draw [.loc 0, .int 256]]]),
  .asg (.nm 8) (.call F.L_pick [.loc 0, .idx (.loc 2) (.int 3)]),
  .asg (.nm 9) (.idx (.dct true false [.str [120], .lst true [], .str [121], .lst true [.bin .mod true (.loc 4) (.int 8), .loc 4], .str [122], .lst true [.bin .mod true (.loc 4) (.int 2)]]) (.loc 8)),
  .iff (.cmp .eq (.bc .len true [.lcomp true (.loc 10) (.nm 10) .seq [.loc 3] (some (.and (.cmp .eq (.idx (.loc 10) (.int 1)) (.loc 5)) (.cmp .eq (.idx (.loc 10) (.int 2)) (.loc 7)))) [10]]) (.int 0))
  [.ex (.bm .append true (.loc 3) [.tup [.str [101, 110, 116, 114, 121], .loc 5, .loc 7, .loc 8, .loc 9]])]
  []]
def lr9 (T : Tbl) (i keys pr ac ar : Option A) : Loc := [some (.ref 1), some (P9 T).enc, some T.enc, some (.ref 2), i, keys, none, pr, ac, ar, none]
/-- the items fit the keys -/
def fit9 (T : Tbl) (its : List Item) : Prop := its.length = T.keys.length ∧ ∀ x ∈ its.zip T.keys, ∃ w, (x.2.f, w) ∈ refs9 ∧ Item.Ok x.2.kind w x.1
theorem keys9 (k : Nat) (T : Tbl) (hT : T9 T) (d : Dr) (hd : d.Ok) (rest : Sto) (l : Loc) (h0 : l[0]? = some (some (.ref 1))) (h1 : l[1]? = some (some (P9 T).enc)) (h6 : l.length = 11) :
    ∃ its d2, fit9 T its ∧ d2.Ok ∧ compL (evE (tb.env (callF tb (k + 3))) (.call F.L_item [.loc 0, .call F.L_width [.loc 1, .idx (.loc 6) (.int 0)], .idx (.loc 6) (.int 1)])) (evC (tb.env (callF tb (k + 3))) none) (.nm 6) .seq [.lst (T.keys.map Key.enc)] l (T.keys.map Key.enc) (T.keys.map Key.enc) (dst d ++ rest) = .ok (its.map Item.enc) (dst d2 ++ rest) := by
  obtain ⟨its, d2, ok, hl, hq, e⟩ := compL_rel Item.enc Dr.Ok (fun i it => ∃ ky, T.keys[i]? = some ky ∧ ∃ w, (ky.f, w) ∈ refs9 ∧ Item.Ok ky.kind w it) (evE (tb.env (callF tb (k + 3))) (.call F.L_item [.loc 0, .call F.L_width [.loc 1, .idx (.loc 6) (.int 0)], .idx (.loc 6) (.int 1)])) (evC (tb.env (callF tb (k + 3))) none) (.nm 6) .seq [.lst (T.keys.map Key.enc)] l (T.keys.map Key.enc) (fun d => dst d ++ rest) (fun d => by simp) (by
      intro i x d hx hd
      rw [List.getElem?_map] at hx
      obtain ⟨ky, hk, rfl⟩ := Option.map_eq_some_iff.mp hx
      obtain ⟨w, hw⟩ := hT.key ky (List.mem_of_getElem? hk)
      obtain ⟨g1, g2, g3⟩ := refs_w T _ hw
      obtain ⟨it, d2, i1, i2, i3⟩ := x_item (t := tb) k w ky.kind d ⟨g2, g3⟩ hd
      have q1 := r_law_width (t := tb) (P9 T) (P9_shal T) (P9_names T) (P9_big T) ky.f w g1 (k + 2) (dst d ++ rest)
      refine ⟨it, d2, i2, ⟨ky, hk, w, hw, i1⟩, ?_⟩
      have n0 : (l.set 6 (some ky.enc))[0]? = some (some (.ref 1)) := by simpa using h0
      have n1 : (l.set 6 (some ky.enc))[1]? = some (some (P9 T).enc) := by simpa using h1
      have n6 : (l.set 6 (some ky.enc))[6]? = some (some ky.enc) := by simp [h6]
      show kTurn _ _ (some (l.set 6 (some ky.enc))) _ = _
      generalize l.set 6 (some ky.enc) = l1 at n0 n1 n6
      have i3' := i3 rest
      simp [kTurn, n0, n1, n6, q1, i3']) (T.keys.map Key.enc) 0 d (by simp) hd
  refine ⟨its, d2, ⟨by simpa using hl, fun x hx => ?_⟩, ok, e⟩
  obtain ⟨j, hj⟩ := List.mem_iff_getElem?.mp hx
  simp only [List.getElem?_zip_eq_some] at hj
  obtain ⟨ky, h3, h4⟩ := hq j x.1 hj.1
  rw [Nat.zero_add, hj.2] at h3
  cases h3
  exact h4
theorem turn_rows (k : Nat) (T : Tbl) (hT : T9 T) (d : Dr) (hd : d.Ok) (es : List Ent) (he : ∀ e ∈ es, E9 T e) (hl : es.length ≤ 12) (i : Nat) :
    ∃ (es2 : List Ent) (d2 : Dr) (keys pr ac ar : Option A), (∀ e ∈ es2, E9 T e) ∧ es2.length ≤ es.length + 1 ∧ d2.Ok ∧ evSs (tb.env (callF tb (k + 3))) bRows9 (lr9 T (some (.int i)) none none none none) (dst d ++ [.lst (es.map Ent.enc)]) = .nx (lr9 T (some (.int i)) keys pr ac ar) (dst d2 ++ [.lst (es2.map Ent.enc)]) := by
  obtain ⟨its, d1, hf, ok1, e1⟩ := keys9 k T hT d hd [.lst (es.map Ent.enc)] (lr9 T (some (.int i)) none none none none) rfl rfl rfl
  have hkb : T.keys.length ≤ big := by have := hT.len; simp only [big]; omega
  -- perhaps another row's keys
  have alt : ∃ its2 d2, fit9 T its2 ∧ d2.Ok ∧ evS (tb.env (callF tb (k + 3))) (.iff (.and (.cmp .gt (.bc .len true [.loc 3]) (.int 0)) (.cmp .eq (.call F.L_draw [.loc 0, .int 3]) (.int 0)))
  [.asg (.nm 5) (.bc .list true [.idx (.call F.L_pick [.loc 0, .loc 3]) (.int 1)])]
  []) (lr9 T (some (.int i)) (some (.lst (its.map Item.enc))) none none none) (dst d1 ++ [.lst (es.map Ent.enc)]) = .nx (lr9 T (some (.int i)) (some (.lst (its2.map Item.enc))) none none none) (dst d2 ++ [.lst (es.map Ent.enc)]) := by
    by_cases h0 : es = []
    · subst h0
      exact ⟨its, d1, hf, ok1, by simp [lr9]⟩
    · have hp : 0 < es.length := List.length_pos_iff.mpr h0
      have hp2 : (0 : Int) < es.length := by omega
      obtain ⟨c, d2, c0, c1, ok2, e2⟩ := x_draw (t := tb) (k + 2) 3 d1 (by omega) (by omega) ok1
      have e2' := e2 [.lst (es.map Ent.enc)]
      by_cases hc : c = 0
      · subst hc
        obtain ⟨e, d3, hm, ok3, e3⟩ := x_pickR (t := tb) Ent.enc (k + 1) 0 es d2 [.lst (es.map Ent.enc)] rfl h0 (by omega) ok2
        have hk : e.keys.length ≤ big := by have := (he e hm).len; have := hT.len; simp only [big]; omega
        refine ⟨e.keys, d3, ⟨(he e hm).len, (he e hm).itm⟩, ok3, ?_⟩
        simp only [Nat.zero_add] at e3
        simp [lr9, hp, e2', e3, hk]
      · exact ⟨its, d2, hf, ok2, by simp [lr9, hp, e2', hc]⟩
  obtain ⟨its2, d2, hf2, ok2, e2⟩ := alt
  obtain ⟨g, d3, g0, g1, ok3, e3⟩ := x_draw (t := tb) (k + 2) 256 d2 (by omega) (by omega) ok2
  obtain ⟨pr, d4, hpr, ok4, e4⟩ := x_pick (t := tb) A.int (k + 1) [0, 0, 7, g] d3 (by simp) (by simp) ok3
  have hu2 : T.uses ≠ [] ∧ T.uses.length ≤ 1000 ∧ ∀ u ∈ T.uses, u = ([120] : List Nat) ∨ u = ([121] : List Nat) ∨ u = ([122] : List Nat) := by
    rcases hT.use with h | h | h <;> (rw [h]; simp)
  obtain ⟨ac, d5, hac, ok5, e5⟩ := x_pick (t := tb) A.str (k + 1) T.uses d4 hu2.1 hu2.2.1 ok4
  have hg : ∃ args : List Int, args.length ≤ 2 ∧ dget (dput (dput (dput [] (.str ([120] : List Nat)) (.lst [])) (.str ([121] : List Nat)) (.lst [.int ((i : Int) % 8), .int i])) (.str ([122] : List Nat)) (.lst [.int ((i : Int) % 2)])) (.str ac) = some (.lst (args.map .int)) := by
    rcases hu2.2.2 ac hac with rfl | rfl | rfl
    · exact ⟨[], by simp, by simp [dget, dput]⟩
    · exact ⟨[(i : Int) % 8, i], by simp, by simp [dget, dput]⟩
    · exact ⟨[(i : Int) % 2], by simp, by simp [dget, dput]⟩
  obtain ⟨args, ha, hg⟩ := hg
  have hpos : 0 ≤ pr := by
    simp only [List.mem_cons, List.not_mem_nil, or_false] at hpr
    rcases hpr with rfl | rfl | rfl | rfl <;> omega
  have hc := compL_filt (evE (tb.env (callF tb (k + 3))) (.loc 10)) (evC (tb.env (callF tb (k + 3))) (some (.and (.cmp .eq (.idx (.loc 10) (.int 1)) (.loc 5)) (.cmp .eq (.idx (.loc 10) (.int 2)) (.loc 7))))) (.nm 10) .seq [.ref 2]
    (lr9 T (some (.int i)) (some (.lst (its2.map Item.enc))) (some (.int pr)) (some (.str ac)) (some (.lst (args.map .int)))) (es.map Ent.enc)
    (fun a => match a with | .tup [_, ks, .int p, _, _] => if (eqA ks (.lst (its2.map Item.enc)) && (p == pr)) = true then some a else none | _ => none) (dst d5 ++ [.lst (es.map Ent.enc)]) (by simp) (es.map Ent.enc) (by
      intro a ha
      obtain ⟨e, hm, rfl⟩ := List.mem_map.mp ha
      cases h1 : eqA (.lst (e.keys.map Item.enc)) (.lst (its2.map Item.enc)) with
      | true =>
        by_cases h2 : e.prio = pr
        · simp [lr9, kTurn, Ent.enc, h1, h2]
        · have h3 : (e.prio == pr) = false := by simpa using h2
          simp [lr9, kTurn, Ent.enc, h1, h2, h3]
      | false => simp [lr9, kTurn, Ent.enc, h1])
  generalize hfs : (es.map Ent.enc).filterMap (fun a => match a with | .tup [_, ks, .int p, _, _] => if (eqA ks (.lst (its2.map Item.enc)) && (p == pr)) = true then some a else none | _ => none) = fs at hc
  have hfl : fs.length ≤ big := by
    have := List.length_filterMap_le (fun a => match a with | .tup [_, ks, .int p, _, _] => if (eqA ks (.lst (its2.map Item.enc)) && (p == pr)) = true then some a else none | _ => none) (es.map Ent.enc)
    rw [hfs, List.length_map] at this
    simp only [big]; omega
  have hbig : es.length < big := by simp only [big]; omega
  have hbig2 : es.length ≤ big := by simp only [big]; omega
  have st1 : evS (tb.env (callF tb (k + 3))) (.asg (.nm 5) (.lcomp true (.call F.L_item [.loc 0, .call F.L_width [.loc 1, .idx (.loc 6) (.int 0)], .idx (.loc 6) (.int 1)]) (.nm 6) .seq [.idx (.loc 2) (.int 2)] none [6])) (lr9 T (some (.int i)) none none none none) (dst d ++ [.lst (es.map Ent.enc)]) = .nx (lr9 T (some (.int i)) (some (.lst (its.map Item.enc))) none none none) (dst d1 ++ [.lst (es.map Ent.enc)]) := by
    simp only [lr9] at e1 ⊢
    have e1' := e1
    simp [hkb, e1']
  have e3' := e3 [.lst (es.map Ent.enc)]
  have e4' := e4 [.lst (es.map Ent.enc)]
  have e5' := e5 [.lst (es.map Ent.enc)]
  simp only [List.map_cons, List.map_nil] at e4'
  simp only [lr9] at hc
  have fin : ∀ es2 : List Ent, (dst d5 ++ [Cell.lst (es2.map Ent.enc)]) = (if fs.length = 0 then dst d5 ++ [Cell.lst (es.map Ent.enc ++ [(Ent.mk its2 pr ac args).enc])] else dst d5 ++ [Cell.lst (es.map Ent.enc)]) →
      evSs (tb.env (callF tb (k + 3))) bRows9 (lr9 T (some (.int i)) none none none none) (dst d ++ [.lst (es.map Ent.enc)]) = .nx (lr9 T (some (.int i)) (some (.lst (its2.map Item.enc))) (some (.int pr)) (some (.str ac)) (some (.lst (args.map .int)))) (dst d5 ++ [.lst (es2.map Ent.enc)]) := by
    intro es2 h2
    rw [h2, bRows9, evSs_cons, st1]
    show (evSs _ _ _ _) = _
    rw [evSs_cons, e2]
    show (evSs _ _ _ _) = _
    simp only [lr9]
    by_cases hz : fs.length = 0
    · rw [if_pos hz]
      simp [e3', e4', e5', hg, hc, hfl, hbig, hbig2, hz, Ent.enc]
    · rw [if_neg hz]
      simp [e3', e4', e5', hg, hc, hfl, hbig, hbig2, hz]
  by_cases hz : fs.length = 0
  · refine ⟨es ++ [⟨its2, pr, ac, args⟩], d5, _, _, _, _, ?_, by simp, ok5, fin _ (by rw [if_pos hz]; simp)⟩
    intro e hm
    rcases List.mem_append.mp hm with hm | hm
    · exact he e hm
    · simp at hm; subst hm; exact ⟨hf2.1, hf2.2, hpos, ha⟩
  · exact ⟨es, d5, _, _, _, _, he, by omega, ok5, fin _ (by rw [if_neg hz])⟩
theorem x_rows (k : Nat) (T : Tbl) (hT : T9 T) (d : Dr) (hd : d.Ok) : ∃ (es : List Ent) (d2 : Dr), (∀ e ∈ es, E9 T e) ∧ es.length ≤ 12 ∧ d2.Ok ∧ ∀ rest, callF tb (k + 4) F.L_rows [.ref 1, (P9 T).enc, T.enc] (dst d ++ rest) = .ok (.lst (es.map Ent.enc)) (dst d2 ++ rest) := by
  obtain ⟨n, d1, n0, n1, ok1, e1⟩ := x_draw (t := tb) (k + 2) 13 d (by omega) (by omega) hd
  have hb : inB n := ⟨by omega, by omega⟩
  obtain ⟨l2, s2, q1, q2⟩ := for_inv (t := .nm 4) (k := .rng) (as := [.int n]) (ks := [4, 5, 7, 8, 9]) (g := evSs (tb.env (callF tb (k + 3))) bRows9) (all := upFrom 0 1 n.toNat) (l := lr9 T none none none none none) (s := dst d1 ++ [.lst []])
    (fun i l s => ∃ (es : List Ent) (d2 : Dr), (∀ e ∈ es, E9 T e) ∧ es.length ≤ i ∧ d2.Ok ∧ l = lr9 T none none none none none ∧ s = dst d2 ++ [.lst (es.map Ent.enc)])
    ⟨[], d1, by simp, by simp, ok1, rfl, rfl⟩ (by
      rintro i x l s hx ⟨es, d2, he, hl, ok, rfl, rfl⟩
      obtain ⟨rfl, hi⟩ := upFrom_at 1 _ i 0 x hx
      obtain ⟨es2, d3, ks, pr, ac, ar, he2, hl2, ok3, e⟩ := turn_rows k T hT d2 ok es he (by omega) i
      have e0 : (0 : Int) + (i : Int) * 1 = i := by omega
      rw [e0]
      exact ⟨_, _, _, rfl, .inl e, rng_any hb _, es2, d3, he2, by omega, ok3, rfl, rfl⟩)
  obtain ⟨es, d2, he, hl, ok2, rfl, rfl⟩ := q2
  rw [upFrom_length] at hl
  refine ⟨es, d2, he, by omega, ok2, fun rest => ?_⟩
  have hP : lo 2 60 (P9 T).enc = true := lo_prog59 _ (P9_shal T)
  refine call_two (s2 := [.lst (es.map Ent.enc)]) (np := 3) (nl := 11) (b := b_L_rows) (HasF.h (t := tb) (f := F.L_rows)) (by simp [hP]) rfl (a := .ref 2) ?_ (by simp)
  have e1' := e1 [.lst []]
  have hh : evS (tb.env (callF tb (k + 3))) (.forr (.nm 4) .rng [.call F.L_draw [.loc 0, .int 13]] bRows9 [4, 5, 7, 8, 9]) (lr9 T none none none none none) (dst d ++ [.lst []]) = .nx (lr9 T none none none none none) (dst d2 ++ [.lst (es.map Ent.enc)]) := by
    have q3 : kill [4, 5, 7, 8, 9] (lr9 T none none none none none) = lr9 T none none none none none := rfl
    rw [q3] at q1
    simp only [lr9] at q1 ⊢
    simp [e1', rng_any hb, q1]
  show (evSs (tb.env (callF tb (k + 3))) [.asg (.nm 3) (.lst false []), .forr (.nm 4) .rng [.call F.L_draw [.loc 0, .int 13]] bRows9 [4, 5, 7, 8, 9], .ret (.loc 3)] _ _).res = _
  have h0 : evS (tb.env (callF tb (k + 3))) (.asg (.nm 3) (.lst false [])) (locs 3 11 [.ref 1, (P9 T).enc, T.enc]) (dst d) = .nx (lr9 T none none none none none) (dst d ++ [.lst []]) := by
    simp [locs, lr9, dst_len]
  rw [evSs_cons, h0]
  show (evSs _ _ _ _).res = _
  rw [evSs_cons, hh]
  show (evSs _ _ _ _).res = _
  simp [lr9]
/-! ### the values -/
def V9 (T : Tbl) (vs : List Int) : Prop := ∀ (i : Nat) (ky : Key) (v : Int), T.keys[i]? = some ky → vs[i]? = some v → ∃ w, (ky.f, w) ∈ refs9 ∧ 0 ≤ v ∧ v < 2 ^ w.toNat
def bVal9 : List S := [.asg (.nm 9) (.call F.L_width [.loc 2, .idx (.idx (.idx (.loc 3) (.int 2)) (.loc 8)) (.int 0)]),
  .ex (.bm .append true (.loc 6) [.ite (.isN (.loc 7)) (.call F.L_draw [.loc 1, .bin .shl true (.int 1) (.loc 9)]) (.call F.L_near [.loc 1, .loc 9, .idx (.idx (.idx (.loc 3) (.int 2)) (.loc 8)) (.int 1), .idx (.loc 7) (.loc 8)])])]
def lm9 (sc : A) (T : Tbl) (es : List Ent) (j : A) (n : Nat) (near : A) (k w best at_ right told due : Option A) : Loc := [some sc, some (.ref 1), some (P9 T).enc, some T.enc, some (.lst (es.map Ent.enc)), some j, some (.ref n), some near, k, w, best, at_, right, told, due]
theorem x_values (kf : Nat) (sc : A) (T : Tbl) (hT : T9 T) (es : List Ent) (j : A) (near : A) (hn : near = .non ∨ ∃ its, fit9 T its ∧ near = .lst (its.map Item.enc)) (d : Dr) (hd : d.Ok) (junk : Sto) :
    ∃ (vs : List Int) (d2 : Dr), vs.length = T.keys.length ∧ V9 T vs ∧ d2.Ok ∧ evS (tb.env (callF tb (kf + 2))) (.forr (.nm 8) .rlen [.idx (.loc 3) (.int 2)] bVal9 [8, 9]) (lm9 sc T es j (junk.length + 2) near none none none none none none none) (dst d ++ (junk ++ [.lst []])) = .nx (lm9 sc T es j (junk.length + 2) near none none none none none none none) (dst d2 ++ (junk ++ [.lst (vs.map .int)])) := by
  have hg : ∀ (d : Dr) (c : Cell), (dst d ++ (junk ++ [c]))[junk.length + 2]? = some c := fun d c => by rw [dst_getn]; simp
  have hs : ∀ (d : Dr) (c x : Cell), (dst d ++ (junk ++ [c])).set (junk.length + 2) x = dst d ++ (junk ++ [x]) := fun d c x => by rw [dst_setn]; simp
  obtain ⟨l2, s2, q1, q2⟩ := for_inv (t := .nm 8) (k := .rlen) (as := [.lst (T.keys.map Key.enc)]) (ks := [8, 9]) (g := evSs (tb.env (callF tb (kf + 2))) bVal9) (all := upFrom 0 1 T.keys.length) (l := lm9 sc T es j (junk.length + 2) near none none none none none none none) (s := dst d ++ (junk ++ [.lst []]))
    (fun i l s => ∃ (vs : List Int) (d2 : Dr), vs.length = i ∧ V9 T vs ∧ d2.Ok ∧ l = lm9 sc T es j (junk.length + 2) near none none none none none none none ∧ s = dst d2 ++ (junk ++ [.lst (vs.map .int)]))
    ⟨[], d, rfl, fun i ky v _ h => by simp at h, hd, rfl, rfl⟩ (by
      rintro i x l s hx ⟨vs, d2, hl, hv, ok, rfl, rfl⟩
      obtain ⟨rfl, hi⟩ := upFrom_at 1 _ i 0 x hx
      have e0 : (0 : Int) + (i : Int) * 1 = i := by omega
      rw [e0]
      have hk := List.getElem?_eq_getElem hi
      generalize T.keys[i] = ky at hk
      obtain ⟨w, hw⟩ := hT.key ky (List.mem_of_getElem? hk)
      obtain ⟨g1, g2, g3⟩ := refs_w T _ hw
      obtain ⟨p1, p2⟩ := pow_le32 (w := w) (by omega)
      have hsh : (0 : Int) ≤ w ∧ w ≤ 1000 := by omega
      have a1 : atI (T.keys.map Key.enc) (i : Int) = some ky.enc := by rw [atI_nat (by omega) (by simpa using hi)]; simp [hk]
      have q1 := fun s => r_law_width (t := tb) (P9 T) (P9_shal T) (P9_names T) (P9_big T) ky.f w g1 (kf + 1) s
      have hb : vs.length < big := by have := hT.len; simp only [big]; omega
      have fin : ∀ (v : Int) (d3 : Dr), d3.Ok → 0 ≤ v ∧ v < 2 ^ w.toNat → evSs (tb.env (callF tb (kf + 2))) bVal9 (lm9 sc T es j (junk.length + 2) near (some (.int i)) none none none none none none) (dst d2 ++ (junk ++ [.lst (vs.map .int)])) = .nx (lm9 sc T es j (junk.length + 2) near (some (.int i)) (some (.int w)) none none none none none) (dst d3 ++ (junk ++ [.lst ((vs ++ [v]).map .int)])) →
          ∃ l1 l2 s2, bindT (.nm 8) (.int i) (lm9 sc T es j (junk.length + 2) near none none none none none none none) (dst d2 ++ (junk ++ [.lst (vs.map .int)])) = some l1 ∧ (evSs (tb.env (callF tb (kf + 2))) bVal9 l1 (dst d2 ++ (junk ++ [.lst (vs.map .int)])) = .nx l2 s2 ∨ evSs (tb.env (callF tb (kf + 2))) bVal9 l1 (dst d2 ++ (junk ++ [.lst (vs.map .int)])) = .cnt l2 s2) ∧ itA .rlen [.lst (T.keys.map Key.enc)] s2 = some (upFrom 0 1 T.keys.length) ∧
            ∃ (vs : List Int) (d2 : Dr), vs.length = i + 1 ∧ V9 T vs ∧ d2.Ok ∧ kill [8, 9] l2 = lm9 sc T es j (junk.length + 2) near none none none none none none none ∧ s2 = dst d2 ++ (junk ++ [.lst (vs.map .int)]) := by
        intro v d3 ok3 hv3 e
        refine ⟨_, _, _, rfl, .inl e, by simp, vs ++ [v], d3, by simp [hl], ?_, ok3, rfl, rfl⟩
        intro i2 ky2 v2 h1 h2
        by_cases hlt : i2 < vs.length
        · rw [List.getElem?_append_left hlt] at h2
          exact hv i2 ky2 v2 h1 h2
        · rw [List.getElem?_append_right (by omega)] at h2
          have h3 : i2 - vs.length = 0 := by
            have := (List.getElem?_eq_some_iff.mp h2).1
            simp at this; omega
          have h4 : i2 = i := by omega
          subst h4
          rw [hk] at h1
          cases h1
          rw [h3] at h2
          simp at h2
          subst h2
          exact ⟨w, hw, hv3⟩
      rcases hn with rfl | ⟨its, hf, rfl⟩
      · obtain ⟨v, d3, v0, v1, ok3, e3⟩ := x_draw (t := tb) (kf + 1) (2 ^ w.toNat) d2 (by omega) (by omega) ok
        have e3' := e3 (junk ++ [.lst (vs.map .int)])
        exact fin v d3 ok3 ⟨v0, v1⟩ (by simp [bVal9, lm9, a1, q1, hsh, e3', hg, hs, hb])
      · have hi2 : i < its.length := by rw [hf.1]; exact hi
        have hit := List.getElem?_eq_getElem hi2
        generalize its[i] = it at hit
        obtain ⟨w2, hw2, hok⟩ := hf.2 (it, ky) (List.mem_of_getElem? (List.getElem?_zip_eq_some.mpr ⟨hit, hk⟩))
        have : w2 = w := by
          have h1 := (refs_w T _ hw2).1
          have h2 := g1
          simp only at h1 h2
          rw [h1] at h2
          exact Option.some.inj h2
        subst this
        have a2 : atI (its.map Item.enc) (i : Int) = some it.enc := by rw [atI_nat (by omega) (by simpa using hi2)]; simp [hit]
        obtain ⟨v, d3, hv3, ok3, e3⟩ := x_near kf ky.kind w2 it d2 hok ⟨g2, g3⟩ ok
        have e3' := e3 (junk ++ [.lst (vs.map .int)])
        exact fin v d3 ok3 hv3 (by simp [bVal9, lm9, a1, a2, q1, e3', hg, hs, hb]))
  obtain ⟨vs, d2, hl, hv, ok2, rfl, rfl⟩ := q2
  rw [upFrom_length] at hl
  refine ⟨vs, d2, hl, hv, ok2, ?_⟩
  have q3 : kill [8, 9] (lm9 sc T es j (junk.length + 2) near none none none none none none none) = lm9 sc T es j (junk.length + 2) near none none none none none none none := rfl
  rw [q3] at q1
  simp only [lm9] at q1 ⊢
  simp [q1]
/-! ### one row -/
theorem zip3_len {α β γ : Type} : ∀ (as : List α) (bs : List β) (cs : List γ), as.length = cs.length → bs.length = cs.length → (zip3 as bs cs).length = cs.length
  | [], [], [], _, _ => rfl
  | _ :: as, _ :: bs, _ :: cs, h1, h2 => by simp [zip3, zip3_len as bs cs (by simpa using h1) (by simpa using h2)]
  | [], _ :: _, [], _, h => by simp at h
  | _ :: _, _, [], h, _ => by simp at h
  | [], _, _ :: _, h, _ => by simp at h
  | _ :: _, [], _ :: _, _, h => by simp at h
theorem zip3_get {α β γ : Type} : ∀ (as : List α) (bs : List β) (cs : List γ) (i : Nat) (x : α × β × γ), (zip3 as bs cs)[i]? = some x → as[i]? = some x.1 ∧ bs[i]? = some x.2.1 ∧ cs[i]? = some x.2.2
  | [], _, _, i, x, h => by simp [zip3] at h
  | _ :: _, [], _, i, x, h => by simp [zip3] at h
  | _ :: _, _ :: _, [], i, x, h => by simp [zip3] at h
  | a :: as, b :: bs, c :: cs, 0, x, h => by simp [zip3] at h; subst h; exact ⟨rfl, rfl, rfl⟩
  | a :: as, b :: bs, c :: cs, i + 1, x, h => by simpa using zip3_get as bs cs i x (by simpa [zip3] using h)
theorem foldl_and {α : Type} (p : α → Bool) : ∀ (xs : List α) (z : Bool), xs.foldl (fun z x => z && p x) z = (z && xs.all p)
  | [], z => by simp
  | x :: xs, z => by rw [List.foldl_cons, foldl_and p xs, List.all_cons, Bool.and_assoc]
def bIn9 : List S := [.asg (.nm 9) (.call F.L_width [.loc 2, .idx (.idx (.idx (.loc 3) (.int 2)) (.loc 8)) (.int 0)]),
  .asg (.nm 12) (.and (.loc 12) (.call F.L_hits [.idx (.idx (.idx (.loc 3) (.int 2)) (.loc 8)) (.int 1), .loc 9, .idx (.idx (.idx (.loc 4) (.loc 11)) (.int 1)) (.loc 8), .idx (.loc 6) (.loc 8)]))]
theorem loop_in9 (kf : Nat) (sc : A) (T : Tbl) (hT : T9 T) (es : List Ent) (j : A) (near : A) (vs : List Int) (hvl : vs.length = T.keys.length) (hv : V9 T vs) (d : Dr) (junk : Sto) (best : A) (at_ : Nat) (e : Ent) (hat : es[at_]? = some e) (he : E9 T e) :
    evS (tb.env (callF tb (kf + 1))) (.forr (.nm 8) .rlen [.loc 6] bIn9 [8, 9]) (lm9 sc T es j (junk.length + 2) near none none (some best) (some (.int at_)) (some (.bl true)) none none) (dst d ++ (junk ++ [.lst (vs.map .int)])) =
      .nx (lm9 sc T es j (junk.length + 2) near none none (some best) (some (.int at_)) (some (.bl (entHits (P9 T) T e vs))) none none) (dst d ++ (junk ++ [.lst (vs.map .int)])) := by
  have hg : ∀ (c : Cell), (dst d ++ (junk ++ [c]))[junk.length + 2]? = some c := fun c => by rw [dst_getn]; simp
  have hlz : (zip3 e.keys T.keys vs).length = vs.length := zip3_len _ _ _ (he.len.trans hvl.symm) hvl.symm
  have hz : itA .rlen [.ref (junk.length + 2)] (dst d ++ (junk ++ [.lst (vs.map .int)])) = some ((zip3 e.keys T.keys vs).zipIdx.map fun x => A.int x.2) := by
    rw [zipIdx_enc, hlz]
    simp [hg, upFrom_range]
  have hae : atI (es.map Ent.enc) (at_ : Int) = some e.enc := by
    rw [atI_nat (by omega) (by have := (List.getElem?_eq_some_iff.mp hat).1; simpa using this)]
    simp [hat]
  obtain ⟨hl, _⟩ := forL_foldE (fun x : (Item × Key × Int) × Nat => A.int x.2) (fun z : Bool => lm9 sc T es j (junk.length + 2) near none none (some best) (some (.int at_)) (some (.bl z)) none none) (fun _ => dst d ++ (junk ++ [.lst (vs.map .int)])) (fun z x => z && hit1 (P9 T) x.1) (fun _ => True) (t := .nm 8) (k := .rlen) (as := [.ref (junk.length + 2)]) (ks := [8, 9])
    (g := evSs (tb.env (callF tb (kf + 1))) bIn9) (zip3 e.keys T.keys vs).zipIdx (fun _ => rfl) (fun _ _ => hz) (by
      rintro ⟨⟨it, ky, v⟩, i⟩ hm z _
      have hgi := List.mem_zipIdx_iff_getElem?.mp hm
      obtain ⟨h1, h2, h3⟩ := zip3_get _ _ _ _ _ hgi
      simp only at h1 h2 h3
      obtain ⟨w, hw, hok⟩ := he.itm (it, ky) (List.mem_of_getElem? (List.getElem?_zip_eq_some.mpr ⟨h1, h2⟩))
      obtain ⟨g1, g2, g3⟩ := refs_w T _ hw
      obtain ⟨w2, hw2, v0, v1⟩ := hv i ky v h2 h3
      have : w2 = w := by
        have q1 := (refs_w T _ hw2).1
        simp only at q1 g1
        rw [g1] at q1
        exact (Option.some.inj q1).symm
      subst this
      have a1 : atI (T.keys.map Key.enc) (i : Int) = some ky.enc := by rw [atI_nat (by omega) (by have := (List.getElem?_eq_some_iff.mp h2).1; simpa using this)]; simp [h2]
      have a2 : atI (e.keys.map Item.enc) (i : Int) = some it.enc := by rw [atI_nat (by omega) (by have := (List.getElem?_eq_some_iff.mp h1).1; simpa using this)]; simp [h1]
      have a3 : atI (vs.map A.int) (i : Int) = some (.int v) := by rw [atI_nat (by omega) (by have := (List.getElem?_eq_some_iff.mp h3).1; simpa using this)]; simp [h3]
      have q1 := fun s => r_law_width (t := tb) (P9 T) (P9_shal T) (P9_names T) (P9_big T) ky.f w2 g1 kf s
      have q2 := fun s => x_hits kf ky.kind w2 it v hok ⟨g2, g3⟩ ⟨v0, v1⟩ s
      have hh : hit1 (P9 T) (it, ky, v) = itemHit ky.kind w2 it v := by
        simp only [hit1]
        simp only at g1
        rw [g1]
      refine ⟨trivial, lm9 sc T es j (junk.length + 2) near (some (.int i)) none (some best) (some (.int at_)) (some (.bl z)) none none, lm9 sc T es j (junk.length + 2) near (some (.int i)) (some (.int w2)) (some best) (some (.int at_)) (some (.bl (z && hit1 (P9 T) (it, ky, v)))) none none, rfl, .inl ?_, rfl⟩
      rw [hh]
      cases z <;> simp [bIn9, lm9, a1, a2, a3, q1, q2, hae, hg]) true trivial
  have e1 := foldl_idx (fun (z : Bool) (x : Item × Key × Int) => z && hit1 (P9 T) x) (zip3 e.keys T.keys vs) 0 true
  rw [e1, foldl_and] at hl
  simp only [Bool.true_and] at hl
  unfold entHits
  simp only [lm9] at hl ⊢
  simp [hz, hl]
def bRow9 : List S := [.asg (.nm 12) (.bl true),
  .forr (.nm 8) .rlen [.loc 6] bIn9 [8, 9],
  .asg (.nm 13) (.call F.entries_matches [.loc 2, .str [116], .idx (.loc 4) (.loc 11), .loc 6]),
  .iff (.or (.not (.isa (.loc 13) .bool)) (.cmp .ne (.loc 13) (.loc 12)))
  [.ret (.bl false)]
  [],
  .iff (.and (.loc 12) (.or (.cmp .lt (.loc 10) (.int 0)) (.cmp .gt (.call F.L_rank [.loc 3, .idx (.loc 4) (.loc 11)]) (.call F.L_rank [.loc 3, .idx (.loc 4) (.loc 10)]))))
  [.asg (.nm 10) (.loc 11)]
  []]
/-- the best so far is one of the rows, with its rank -/
def Bst (T : Tbl) (es : List Ent) (z : Best) : Prop := (z.at_ = -1 ∧ z.rk = (-1, -1)) ∨ ∃ (n : Nat) (e : Ent), z.at_ = n ∧ es[n]? = some e ∧ z.rk = rank T e
theorem bst_step (T : Tbl) (es : List Ent) (vs : List Int) (z : Best) (h : Bst T es z) (e : Ent) (n : Nat) (he : es[n]? = some e) : Bst T es (step1 (P9 T) T vs z (e, n)) := by
  unfold step1
  split
  · exact .inr ⟨n, e, rfl, he, rfl⟩
  · exact h
theorem eqA_bl (b : Bool) : eqA (.bl b) (.bl b) = true := by cases b <;> rfl
theorem row9 (kf : Nat) (sc : A) (T : Tbl) (hT : T9 T) (es : List Ent) (hes : ∀ e ∈ es, E9 T e) (j : A) (near : A) (vs : List Int) (hvl : vs.length = T.keys.length) (hv : V9 T vs) (d : Dr) (junk : Sto) (z : Best) (hb : Bst T es z) (n : Nat) (e : Ent) (hat : es[n]? = some e) :
    ∃ right told : A, evSs (tb.env (callF tb (kf + 3))) bRow9 (lm9 sc T es j (junk.length + 2) near none none (some (.int z.at_)) (some (.int n)) none none none) (dst d ++ (junk ++ [.lst (vs.map .int)])) =
      .nx (lm9 sc T es j (junk.length + 2) near none none (some (.int (step1 (P9 T) T vs z (e, n)).at_)) (some (.int n)) (some right) (some told) none) (dst d ++ (junk ++ [.lst (vs.map .int)])) := by
  have he := hes e (List.mem_of_getElem? hat)
  have hg : ∀ (c : Cell), (dst d ++ (junk ++ [c]))[junk.length + 2]? = some c := fun c => by rw [dst_getn]; simp
  have hae : atI (es.map Ent.enc) (n : Int) = some e.enc := by
    rw [atI_nat (by omega) (by have := (List.getElem?_eq_some_iff.mp hat).1; simpa using this)]
    simp [hat]
  have e1 := loop_in9 (kf + 2) sc T hT es j near vs hvl hv d junk (.int z.at_) n e hat he
  have e2 : callF tb (kf + 3) F.entries_matches [(P9 T).enc, .str [116], e.enc, .ref (junk.length + 2)] (dst d ++ (junk ++ [.lst (vs.map .int)])) = .ok (.bl (entHits (P9 T) T e vs)) (dst d ++ (junk ++ [.lst (vs.map .int)])) := by
    refine call_frz_of (np := 4) (nl := 8) (b := b_entries_matches) (bs := [(P9 T).enc, .str [116], e.enc, .lst (vs.map .int)]) (HasF.h (t := tb) (f := F.entries_matches)) ?_ (by simp [lo_prog59 _ (P9_shal T)]) rfl (r_matches (t := tb) (P9 T) (P9_shal T) [116] T (P9_tbl hT) e he.forms vs kf [])
    simp [frz_lo _ 0 60 _ (lo_prog59 (q := 0) _ (P9_shal T)), frz_lo _ 0 60 _ (lo_ent (n := 57) e), hg]
  have e3 := fun s => x_rank (kf + 2) T hT e he s
  refine ⟨.bl (entHits (P9 T) T e vs), .bl (entHits (P9 T) T e vs), ?_⟩
  unfold step1
  rw [bRow9, evSs_cons]
  have h0 : evS (tb.env (callF tb (kf + 3))) (.asg (.nm 12) (.bl true)) (lm9 sc T es j (junk.length + 2) near none none (some (.int z.at_)) (some (.int n)) none none none) (dst d ++ (junk ++ [.lst (vs.map .int)])) = .nx (lm9 sc T es j (junk.length + 2) near none none (some (.int z.at_)) (some (.int n)) (some (.bl true)) none none) (dst d ++ (junk ++ [.lst (vs.map .int)])) := by simp [lm9]
  rw [h0]
  show evSs _ _ _ _ = _
  rw [evSs_cons, e1]
  show evSs _ _ _ _ = _
  generalize entHits (P9 T) T e vs = r at e2
  rcases hb with ⟨h1, h2⟩ | ⟨m, eb, h1, h2, h3⟩
  · have hgt : gt2 (rank T e) z.rk = true := by
      rw [h2]
      have := he.pri
      have h4 : ¬ e.prio = -1 := by omega
      have h5 : (-1 : Int) < e.prio := by omega
      simp [gt2, rank, h4, h5]
    rw [hgt, h1]
    cases r <;> simp [lm9, hae, e2, eqA, h1]
  · have heb := hes eb (List.mem_of_getElem? h2)
    have e4 := fun s => x_rank (kf + 2) T hT eb heb s
    have hab : atI (es.map Ent.enc) (m : Int) = some eb.enc := by
      rw [atI_nat (by omega) (by have := (List.getElem?_eq_some_iff.mp h2).1; simpa using this)]
      simp [h2]
    have hlt : ¬ ((m : Int) < 0) := by omega
    have hgt : lexGt [e.prio, plen T e] [eb.prio, plen T eb] = gt2 (rank T e) z.rk := by rw [h3]; exact lexGt2 _ _ _ _
    rw [h1]
    cases r with
    | false => simp [lm9, hae, e2, eqA, h1]
    | true => cases hq : gt2 (rank T e) z.rk <;> (rw [hq] at hgt; simp [lm9, hae, hab, e2, e3, e4, eqA, hlt, intsOf, hgt, h1])
/-! ### one turn -/
def bMain9 : List S := [.asg (.nm 6) (.lst false []),
  .asg (.nm 7) (.ite (.cmp .gt (.bc .len true [.loc 4]) (.int 0)) (.idx (.call F.L_pick [.loc 1, .loc 4]) (.int 1)) (.non)),
  .forr (.nm 8) .rlen [.idx (.loc 3) (.int 2)] bVal9 [8, 9],
  .asg (.nm 10) (.neg (.int 1)),
  .forr (.nm 11) .rlen [.loc 4] bRow9 [8, 9, 11, 12, 13],
  .asg (.nm 13) (.call F.entries_choose [.loc 2, .str [116], .loc 4, .loc 6]),
  .iff (.or (.isa (.loc 13) .bool) (.cmp .ne (.loc 13) (.loc 10)))
  [.ret (.bl false)]
  [],
  .asg (.nm 14) (.ite (.cmp .lt (.loc 10) (.int 0)) (.idx (.loc 3) (.int 4)) (.tup [.idx (.idx (.loc 4) (.loc 10)) (.int 3), .idx (.idx (.loc 4) (.loc 10)) (.int 4)])),
  .iff (.cmp .ne (.call F.entries_call_of [.loc 2, .str [116], .loc 4, .loc 13]) (.loc 14))
  [.ret (.bl false)]
  []]
def lz9 (sc : A) (T : Tbl) (es : List Ent) (j : Option A) : Loc := [some sc, some (.ref 1), some (P9 T).enc, some T.enc, some (.lst (es.map Ent.enc)), j, none, none, none, none, none, none, none, none, none]
theorem eq_ints : ∀ xs : List Int, eqAs (xs.map .int) (xs.map .int) = true
  | [] => rfl
  | x :: xs => by simp [eqAs, eqA, eq_ints xs]
theorem turn_main9 (kf : Nat) (sc : A) (T : Tbl) (hT : T9 T) (es : List Ent) (hes : ∀ e ∈ es, E9 T e) (hel : es.length ≤ 12) (j : A) (d : Dr) (hd : d.Ok) (junk : Sto) :
    ∃ (l2 : Loc) (d2 : Dr) (junk2 : Sto), d2.Ok ∧ evSs (tb.env (callF tb (kf + 4))) bMain9 (lz9 sc T es (some j)) (dst d ++ junk) = .nx l2 (dst d2 ++ junk2) ∧ kill [5, 6, 7, 8, 9, 10, 11, 12, 13, 14] l2 = lz9 sc T es none := by
  -- what is near
  obtain ⟨near, d1, hn, ok1, e1⟩ : ∃ (near : A) (d1 : Dr), (near = .non ∨ ∃ its, fit9 T its ∧ near = .lst (its.map Item.enc)) ∧ d1.Ok ∧ evSs (tb.env (callF tb (kf + 4))) [.asg (.nm 6) (.lst false []),
  .asg (.nm 7) (.ite (.cmp .gt (.bc .len true [.loc 4]) (.int 0)) (.idx (.call F.L_pick [.loc 1, .loc 4]) (.int 1)) (.non))] (lz9 sc T es (some j)) (dst d ++ junk) = .nx (lm9 sc T es j (junk.length + 2) near none none none none none none none) (dst d1 ++ (junk ++ [.lst []])) := by
    have hlen : (dst d).length + junk.length = junk.length + 2 := by rw [dst_len]; omega
    by_cases h0 : es = []
    · subst h0
      exact ⟨.non, d, .inl rfl, hd, by simp [lz9, lm9, hlen]⟩
    · have hp : 0 < es.length := List.length_pos_iff.mpr h0
      obtain ⟨e, d1, hm, ok1, e1⟩ := x_pick (t := tb) Ent.enc (kf + 2) es d h0 (by omega) hd
      have e1' := e1 (junk ++ [.lst []])
      exact ⟨.lst (e.keys.map Item.enc), d1, .inr ⟨e.keys, ⟨(hes e hm).len, (hes e hm).itm⟩, rfl⟩, ok1, by simp [lz9, lm9, hlen, hp, e1']⟩
  obtain ⟨vs, d2, hvl, hv, ok2, e2⟩ := x_values (kf + 2) sc T hT es j near hn d1 ok1 junk
  -- the rows
  have hz : itA .rlen [.lst (es.map Ent.enc)] (dst d2 ++ (junk ++ [.lst (vs.map .int)])) = some (es.zipIdx.map fun x => A.int x.2) := by
    rw [zipIdx_enc]
    simp [upFrom_range]
  obtain ⟨e3, hb⟩ := forL_foldE (fun x : Ent × Nat => A.int x.2) (fun z : Best => lm9 sc T es j (junk.length + 2) near none none (some (.int z.at_)) none none none none) (fun _ => dst d2 ++ (junk ++ [.lst (vs.map .int)])) (step1 (P9 T) T vs) (Bst T es) (t := .nm 11) (k := .rlen) (as := [.lst (es.map Ent.enc)]) (ks := [8, 9, 11, 12, 13])
    (g := evSs (tb.env (callF tb (kf + 4))) bRow9) es.zipIdx (fun _ => rfl) (fun _ _ => hz) (by
      rintro ⟨e, n⟩ hm z hb
      have hat : es[n]? = some e := List.mem_zipIdx_iff_getElem?.mp hm
      obtain ⟨r, t, ee⟩ := row9 (kf + 1) sc T hT es hes j near vs hvl hv d2 junk z hb n e hat
      exact ⟨bst_step T es vs z hb e n hat, _, _, rfl, .inl ee, rfl⟩) ⟨-1, (-1, -1)⟩ (.inl ⟨rfl, rfl⟩)
  have hch : es.zipIdx.foldl (step1 (P9 T) T vs) ⟨-1, (-1, -1)⟩ = chosen (P9 T) T es vs := rfl
  rw [hch] at e3 hb
  have hg : ∀ (c : Cell), (dst d2 ++ (junk ++ [c]))[junk.length + 2]? = some c := fun c => by rw [dst_getn]; simp
  have e4 : callF tb (kf + 4) F.entries_choose [(P9 T).enc, .str [116], .lst (es.map Ent.enc), .ref (junk.length + 2)] (dst d2 ++ (junk ++ [.lst (vs.map .int)])) = .ok (.int (chosen (P9 T) T es vs).at_) (dst d2 ++ (junk ++ [.lst (vs.map .int)])) := by
    refine call_frz_of (np := 4) (nl := 9) (b := b_entries_choose) (bs := [(P9 T).enc, .str [116], .lst (es.map Ent.enc), .lst (vs.map .int)]) (HasF.h (t := tb) (f := F.entries_choose)) ?_ (by simp [lo_prog59 _ (P9_shal T)]) rfl (r_choose (t := tb) (P9 T) (P9_shal T) [116] T (P9_tbl hT) es (fun e he => (hes e he).forms) vs kf [])
    simp [frz_lo _ 0 60 _ (lo_prog59 (q := 0) _ (P9_shal T)), hg]
  generalize chosen (P9 T) T es vs = bz at e3 hb e4
  obtain ⟨a, xs, e5, h5⟩ := r_call_of (t := tb) (P9 T) (P9_shal T) [116] T (P9_tbl hT) (by have := hT.arg; simp only [big]; omega) es (fun e he => by have := (hes e he).arg; simp only [big]; omega) bz.at_ (by
    rcases hb with ⟨h1, _⟩ | ⟨n, e, h1, h2, _⟩
    · exact .inl h1
    · exact .inr ⟨n, h1, (List.getElem?_eq_some_iff.mp h2).1⟩) (kf + 2) (dst d2 ++ (junk ++ [.lst (vs.map .int)]))
  have p3 : evS (tb.env (callF tb (kf + 4))) (.forr (.nm 11) .rlen [.loc 4] bRow9 [8, 9, 11, 12, 13]) (lm9 sc T es j (junk.length + 2) near none none (some (.int (-1))) none none none none) (dst d2 ++ (junk ++ [.lst (vs.map .int)])) = .nx (lm9 sc T es j (junk.length + 2) near none none (some (.int bz.at_)) none none none none) (dst d2 ++ (junk ++ [.lst (vs.map .int)])) := by
    simp only [lm9] at e3 ⊢
    simp [hz, e3]
  refine ⟨lm9 sc T es j (junk.length + 2) near none none (some (.int bz.at_)) none none (some (.int bz.at_)) (some (.tup [.str a, .lst (xs.map .int)])), d2, junk ++ [.lst (vs.map .int)], ok2, ?_, rfl⟩
  have sp : bMain9 = [.asg (.nm 6) (.lst false []),
  .asg (.nm 7) (.ite (.cmp .gt (.bc .len true [.loc 4]) (.int 0)) (.idx (.call F.L_pick [.loc 1, .loc 4]) (.int 1)) (.non))] ++ bMain9.drop 2 := rfl
  rw [sp, evSs_app _ _ _ _ _ _ _ e1]
  show evSs _ (.forr (.nm 8) .rlen [.idx (.loc 3) (.int 2)] bVal9 [8, 9] :: .asg (.nm 10) (.neg (.int 1)) :: .forr (.nm 11) .rlen [.loc 4] bRow9 [8, 9, 11, 12, 13] :: bMain9.drop 5) _ _ = _
  rw [evSs_cons, e2]
  show evSs _ _ _ _ = _
  have p2 : evS (tb.env (callF tb (kf + 4))) (.asg (.nm 10) (.neg (.int 1))) (lm9 sc T es j (junk.length + 2) near none none none none none none none) (dst d2 ++ (junk ++ [.lst (vs.map .int)])) = .nx (lm9 sc T es j (junk.length + 2) near none none (some (.int (-1))) none none none none) (dst d2 ++ (junk ++ [.lst (vs.map .int)])) := by simp [lm9]
  rw [evSs_cons, p2]
  show evSs _ _ _ _ = _
  rw [evSs_cons, p3]
  show evSs _ _ _ _ = _
  rcases h5 with ⟨h6, rfl, rfl⟩ | ⟨n, e, h6, h7, rfl, rfl⟩
  · rw [h6] at e4 e5 ⊢
    simp only [bMain9, List.drop, lm9]
    simp [e4, e5, eqA, eqAs, eq_ints]
  · have hlt : ¬ ((n : Int) < 0) := by omega
    have hab : atI (es.map Ent.enc) (n : Int) = some e.enc := by
      rw [atI_nat (by omega) (by have := (List.getElem?_eq_some_iff.mp h7).1; simpa using this)]
      simp [h7]
    rw [h6] at e4 e5 ⊢
    simp only [bMain9, List.drop, lm9]
    simp [e4, e5, eqA, eqAs, eq_ints, hlt, hab]
theorem law_ev (ns : List Int) (hl : ns.length ≤ 63) : ∃ k s, k ≤ 100 ∧ callF tb k F.L_main_v9 [.lst (ns.map .int)] [] = .ok (.bl true) s := by
  have hst := r_state (t := tb) 9 ns (by simp only [big]; omega)
  obtain ⟨T, d1, hT, ok1, e1⟩ := x_table 7 (dr0 ns) (dr0_ok ns)
  obtain ⟨es, d2, hes, hel, ok2, e2⟩ := x_rows 6 T hT d1 ok1
  have e1' := e1 []
  have e2' := e2 []
  simp only [List.append_nil] at e1' e2'
  have hu : ∀ s, itA .rng [.int 4] s = some (upFrom 0 1 4) := fun s => rng_any (n := 4) (by decide) s
  obtain ⟨l2, s2, h1, h2⟩ := for_inv (t := .nm 5) (k := .rng) (as := [.int 4]) (ks := [5, 6, 7, 8, 9, 10, 11, 12, 13, 14]) (g := evSs (tb.env (callF tb 10)) bMain9) (all := upFrom 0 1 4)
    (l := lz9 (.lst (ns.map .int)) T es none) (s := dst d2)
    (fun _ l s => ∃ (d : Dr) (junk : Sto), d.Ok ∧ l = lz9 (.lst (ns.map .int)) T es none ∧ s = dst d ++ junk) ⟨d2, [], ok2, rfl, by simp⟩ (by
      rintro i a l s ha ⟨d, junk, ok, rfl, rfl⟩
      obtain ⟨l3, d3, junk3, ok3, q1, q2⟩ := turn_main9 6 (.lst (ns.map .int)) T hT es hes hel a d ok junk
      exact ⟨_, _, _, rfl, .inl q1, hu _, d3, junk3, ok3, q2, rfl⟩)
  obtain ⟨d, junk, ok, rfl, rfl⟩ := h2
  refine ⟨11, dst d ++ junk, by omega, ?_⟩
  refine call_all (np := 1) (nl := 15) (b := b_L_main_v9) (HasF.h (t := tb) (f := F.L_main_v9)) rfl ?_
  show (evSs (tb.env (callF tb 10)) ([.asg (.nm 1) (.call F.L_state [.loc 0]), .asg (.nm 2) (.call F.L_table_program_v2 [.loc 1]), .asg (.nm 3) (.idx (.idx (.loc 2) (.int 6)) (.int 1)), .asg (.nm 4) (.call F.L_rows [.loc 1, .loc 2, .loc 3])] ++ [.forr (.nm 5) .rng [.int 4] bMain9 [5, 6, 7, 8, 9, 10, 11, 12, 13, 14], .ret (.bl true)]) _ _).res = _
  have p1 : evSs (tb.env (callF tb 10)) [.asg (.nm 1) (.call F.L_state [.loc 0]), .asg (.nm 2) (.call F.L_table_program_v2 [.loc 1]), .asg (.nm 3) (.idx (.idx (.loc 2) (.int 6)) (.int 1)), .asg (.nm 4) (.call F.L_rows [.loc 1, .loc 2, .loc 3])] (locs 1 15 [.lst (ns.map .int)]) [] = .nx (lz9 (.lst (ns.map .int)) T es none) (dst d2) := by
    have hix : idxA (.lst ((P9 T).tbls.map Tbl.enc)) (.int 1) (dst d1) = .ok T.enc (dst d1) := by simp [P9]
    simp only [locs, lz9]
    simp [hst, e1', e2', hix]
  rw [evSs_app _ _ _ _ _ _ _ p1]
  have h3 : evS (tb.env (callF tb 10)) (.forr (.nm 5) .rng [.int 4] bMain9 [5, 6, 7, 8, 9, 10, 11, 12, 13, 14]) (lz9 (.lst (ns.map .int)) T es none) (dst d2) = .nx (lz9 (.lst (ns.map .int)) T es none) (dst d ++ junk) := by
    have q3 : kill [5, 6, 7, 8, 9, 10, 11, 12, 13, 14] (lz9 (.lst (ns.map .int)) T es none) = lz9 (.lst (ns.map .int)) T es none := rfl
    rw [q3] at h1
    simp only [lz9] at h1 ⊢
    simp [hu, h1]
  rw [evSs_cons, h3]
  show (evSs _ _ _ _).res = _
  simp
end Py

set_option maxHeartbeats 0
namespace Py
namespace Hd
open PySem PySem.Spec PyProof.Rows
abbrev rw_ : PySem.W.OpenLaw := PySem.Challenge.rw_wholepackets_k09_chosen_entries
def top (i : Nat) : Stmt := PySem.Challenge.pw_wholepackets_k09_chosen_entries.main.body.getD i (.Pass ⟨0, 0, 0, 0⟩)
def inn (st : Stmt) (j : Nat) : Stmt := match st with
  | .ClassDef _ _ _ b _ _ _ _ _ _ _ => b.getD j (.Pass ⟨0, 0, 0, 0⟩)
  | _ => .Pass ⟨0, 0, 0, 0⟩
abbrev s_rules_find : Stmt := top 2
def h_rules_find : He.DefD := ⟨("find", none), "find", "find", L2.defArgs s_rules_find, L2.defBody s_rules_find, L2.defScope s_rules_find, [], []⟩
def n_rules_find : List Str := ["rows", "name", "row"]
def p_rules_find : List Str := ["rows", "name"]
abbrev s_rules_width_in : Stmt := top 3
def h_rules_width_in : He.DefD := ⟨("width_in", none), "width_in", "width_in", L2.defArgs s_rules_width_in, L2.defBody s_rules_width_in, L2.defScope s_rules_width_in, [], []⟩
def n_rules_width_in : List Str := ["rows", "name", "other", "width"]
def p_rules_width_in : List Str := ["rows", "name"]
abbrev s_rules_width_of : Stmt := top 4
def h_rules_width_of : He.DefD := ⟨("width_of", none), "width_of", "width_of", L2.defArgs s_rules_width_of, L2.defBody s_rules_width_of, L2.defScope s_rules_width_of, [], []⟩
def n_rules_width_of : List Str := ["program", "field", "header"]
def p_rules_width_of : List Str := ["program", "field"]
abbrev s_entries_high_bits : Stmt := top 7
def h_entries_high_bits : He.DefD := ⟨("high_bits", none), "high_bits", "high_bits", L2.defArgs s_entries_high_bits, L2.defBody s_entries_high_bits, L2.defScope s_entries_high_bits, [], []⟩
def n_entries_high_bits : List Str := ["width", "length"]
def p_entries_high_bits : List Str := ["width", "length"]
abbrev s_entries_key_matches : Stmt := top 8
def h_entries_key_matches : He.DefD := ⟨("key_matches", none), "key_matches", "key_matches", L2.defArgs s_entries_key_matches, L2.defBody s_entries_key_matches, L2.defScope s_entries_key_matches, [], []⟩
def n_entries_key_matches : List Str := ["kind", "width", "item", "value"]
def p_entries_key_matches : List Str := ["kind", "width", "item", "value"]
abbrev s_entries_matches : Stmt := top 9
def h_entries_matches : He.DefD := ⟨("matches", none), "matches", "matches", L2.defArgs s_entries_matches, L2.defBody s_entries_matches, L2.defScope s_entries_matches, [], []⟩
def n_entries_matches : List Str := ["program", "table", "entry", "values", "row", "item", "key", "value"]
def p_entries_matches : List Str := ["program", "table", "entry", "values"]
abbrev s_entries_prefix_length : Stmt := top 10
def h_entries_prefix_length : He.DefD := ⟨("prefix_length", none), "prefix_length", "prefix_length", L2.defArgs s_entries_prefix_length, L2.defBody s_entries_prefix_length, L2.defScope s_entries_prefix_length, [], []⟩
def n_entries_prefix_length : List Str := ["program", "table", "entry", "row", "total", "item", "key"]
def p_entries_prefix_length : List Str := ["program", "table", "entry"]
abbrev s_entries_choose : Stmt := top 11
def h_entries_choose : He.DefD := ⟨("choose", none), "choose", "choose", L2.defArgs s_entries_choose, L2.defBody s_entries_choose, L2.defScope s_entries_choose, [], []⟩
def n_entries_choose : List Str := ["program", "table", "entries", "values", "best", "rank", "at", "entry", "own"]
def p_entries_choose : List Str := ["program", "table", "entries", "values"]
abbrev s_entries_call_of : Stmt := top 12
def h_entries_call_of : He.DefD := ⟨("call_of", none), "call_of", "call_of", L2.defArgs s_entries_call_of, L2.defBody s_entries_call_of, L2.defScope s_entries_call_of, [], []⟩
def n_entries_call_of : List Str := ["program", "table", "entries", "index", "default"]
def p_entries_call_of : List Str := ["program", "table", "entries", "index"]
abbrev s_L_state : Stmt := top 14
def h_L_state : He.DefD := ⟨("_law_state", none), "_law_state", "_law_state", L2.defArgs s_L_state, L2.defBody s_L_state, L2.defScope s_L_state, [], []⟩
def n_L_state : List Str := ["_law_script", "_law_seed", "_law_cell"]
def p_L_state : List Str := ["_law_script"]
abbrev s_L_draw : Stmt := top 15
def h_L_draw : He.DefD := ⟨("_law_draw", none), "_law_draw", "_law_draw", L2.defArgs s_L_draw, L2.defBody s_L_draw, L2.defScope s_L_draw, [], []⟩
def n_L_draw : List Str := ["_law_state_here", "_law_many", "_law_cells", "_law_value", "_law_mixed"]
def p_L_draw : List Str := ["_law_state_here", "_law_many"]
abbrev s_L_pick : Stmt := top 16
def h_L_pick : He.DefD := ⟨("_law_pick", none), "_law_pick", "_law_pick", L2.defArgs s_L_pick, L2.defBody s_L_pick, L2.defScope s_L_pick, [], []⟩
def n_L_pick : List Str := ["_law_state_here", "_law_row"]
def p_L_pick : List Str := ["_law_state_here", "_law_row"]
abbrev s_L_width : Stmt := top 17
def h_L_width : He.DefD := ⟨("_law_width", none), "_law_width", "_law_width", L2.defArgs s_L_width, L2.defBody s_L_width, L2.defScope s_L_width, [], []⟩
def n_L_width : List Str := ["_law_program", "_law_field", "_law_rows_here", "_law_header", "_law_name", "_law_width_here"]
def p_L_width : List Str := ["_law_program", "_law_field"]
abbrev s_L_item : Stmt := top 18
def h_L_item : He.DefD := ⟨("_law_item", none), "_law_item", "_law_item", L2.defArgs s_L_item, L2.defBody s_L_item, L2.defScope s_L_item, [], []⟩
def n_L_item : List Str := ["_law_state_here", "_law_width_here", "_law_kind", "_law_value", "_law_mask", "_law_size"]
def p_L_item : List Str := ["_law_state_here", "_law_width_here", "_law_kind"]
abbrev s_L_table_program_v2 : Stmt := top 19
def h_L_table_program_v2 : He.DefD := ⟨("_law_table_program", none), "_law_table_program", "_law_table_program", L2.defArgs s_L_table_program_v2, L2.defBody s_L_table_program_v2, L2.defScope s_L_table_program_v2, [], []⟩
def n_L_table_program_v2 : List Str := ["_law_state_here", "_law_headers", "_law_meta", "_law_refs", "_law_actions", "_law_keys", "_law_kinds", "_law_owner", "_law_name", "_law_width_here", "_law_kind", "_law_uses", "_law_default", "_law_table", "_law_states"]
def p_L_table_program_v2 : List Str := ["_law_state_here"]
abbrev s_L_hits : Stmt := top 20
def h_L_hits : He.DefD := ⟨("_law_hits", none), "_law_hits", "_law_hits", L2.defArgs s_L_hits, L2.defBody s_L_hits, L2.defScope s_L_hits, [], []⟩
def n_L_hits : List Str := ["_law_kind", "_law_width_here", "_law_item_here", "_law_value", "_law_k", "_law_here", "_law_wanted", "_law_counts"]
def p_L_hits : List Str := ["_law_kind", "_law_width_here", "_law_item_here", "_law_value"]
abbrev s_L_near : Stmt := top 21
def h_L_near : He.DefD := ⟨("_law_near", none), "_law_near", "_law_near", L2.defArgs s_L_near, L2.defBody s_L_near, L2.defScope s_L_near, [], []⟩
def n_L_near : List Str := ["_law_state_here", "_law_width_here", "_law_kind", "_law_item_here"]
def p_L_near : List Str := ["_law_state_here", "_law_width_here", "_law_kind", "_law_item_here"]
abbrev s_L_rows : Stmt := top 22
def h_L_rows : He.DefD := ⟨("_law_rows", none), "_law_rows", "_law_rows", L2.defArgs s_L_rows, L2.defBody s_L_rows, L2.defScope s_L_rows, [], []⟩
def n_L_rows : List Str := ["_law_state_here", "_law_program", "_law_table", "_law_rows_here", "_law_k", "_law_keys", "_law_key", "_law_priority", "_law_action", "_law_args", "_law_row"]
def p_L_rows : List Str := ["_law_state_here", "_law_program", "_law_table"]
abbrev s_L_rank : Stmt := top 23
def h_L_rank : He.DefD := ⟨("_law_rank", none), "_law_rank", "_law_rank", L2.defArgs s_L_rank, L2.defBody s_L_rank, L2.defScope s_L_rank, [], []⟩
def n_L_rank : List Str := ["_law_table", "_law_row", "_law_size", "_law_k"]
def p_L_rank : List Str := ["_law_table", "_law_row"]
abbrev s_L_main_v9 : Stmt := top 24
def h_L_main_v9 : He.DefD := ⟨("law", none), "law", "law", L2.defArgs s_L_main_v9, L2.defBody s_L_main_v9, L2.defScope s_L_main_v9, [], []⟩
def n_L_main_v9 : List Str := ["_law_script", "_law_state_here", "_law_program", "_law_table", "_law_rows_here", "_law_j", "_law_values", "_law_near_here", "_law_k", "_law_width_here", "_law_best", "_law_at", "_law_right", "_law_told", "_law_due"]
def p_L_main_v9 : List Str := ["_law_script"]
def dfs : List He.DefD := [h_rules_find, h_rules_width_in, h_rules_width_of, h_entries_high_bits, h_entries_key_matches, h_entries_matches, h_entries_prefix_length, h_entries_choose, h_entries_call_of, h_L_state, h_L_draw, h_L_pick, h_L_width, h_L_item, h_L_table_program_v2, h_L_hits, h_L_near, h_L_rows, h_L_rank, h_L_main_v9]
def exs : List (PySem.W.Frag → Bool) := [lt.chk]
def fcs : List He.Fa := []
section
variable {K : PySem.W.Frag} {h : Heap} {mg : Str → Option Value}
theorem sc_rules_find : L2.FnScope n_rules_find p_rules_find (L2.defScope s_rules_find) := ⟨rfl, rfl, rfl, by decide +kernel, rfl, by decide +kernel, by decide +kernel⟩
theorem ch_rules_find : chkSs b_rules_find { lt.ck with sc := L2.defScope s_rules_find, ns := n_rules_find, top := true } (L2.defBody s_rules_find) = true := by kernel_rfl
theorem fx_rules_find (c : He.SaysD fcs dfs K) : ∃ fd, L2.FunD K "find" "find" (L2.defArgs s_rules_find) (L2.defBody s_rules_find) (L2.defScope s_rules_find) [] [] (He.fAd K h_rules_find.at_) fd ∧ FnX (lt.nm K) lt.tb lt.ck F.rules_find (He.fAd K h_rules_find.at_) fd p_rules_find := by
  obtain ⟨fd, FF⟩ := c.def_ 0 (d := h_rules_find) rfl
  have B : L2.Binds K fd p_rules_find [] := L2.FunD.bindsN FF fun _ _ _ _ _ _ us hl => match us, hl with | [_, _], _ => rfl
  refine ⟨fd, FF, ?_⟩
  obtain ⟨oc, od, dV, kV, doc, pm, an, cdv, ct, osl, e, lk, hcd, _, _⟩ := FF.ex
  exact ⟨d_rules_find, oc, od, osl, _, _, _, _, _, dV, kV, doc, pm, an, cdv, ct, n_rules_find, e, (by kernel_rfl : lt.tb.fns F.rules_find = some d_rules_find), congrArg (Option.map fun p => He.fAd K p) (by kernel_rfl : lt.at_.lookup F.rules_find = some h_rules_find.at_), lk, hcd, sc_rules_find, rfl, rfl, ch_rules_find, B⟩
theorem sc_rules_width_in : L2.FnScope n_rules_width_in p_rules_width_in (L2.defScope s_rules_width_in) := ⟨rfl, rfl, rfl, by decide +kernel, rfl, by decide +kernel, by decide +kernel⟩
theorem ch_rules_width_in : chkSs b_rules_width_in { lt.ck with sc := L2.defScope s_rules_width_in, ns := n_rules_width_in, top := true } (L2.defBody s_rules_width_in) = true := by kernel_rfl
theorem fx_rules_width_in (c : He.SaysD fcs dfs K) : ∃ fd, L2.FunD K "width_in" "width_in" (L2.defArgs s_rules_width_in) (L2.defBody s_rules_width_in) (L2.defScope s_rules_width_in) [] [] (He.fAd K h_rules_width_in.at_) fd ∧ FnX (lt.nm K) lt.tb lt.ck F.rules_width_in (He.fAd K h_rules_width_in.at_) fd p_rules_width_in := by
  obtain ⟨fd, FF⟩ := c.def_ 1 (d := h_rules_width_in) rfl
  have B : L2.Binds K fd p_rules_width_in [] := L2.FunD.bindsN FF fun _ _ _ _ _ _ us hl => match us, hl with | [_, _], _ => rfl
  refine ⟨fd, FF, ?_⟩
  obtain ⟨oc, od, dV, kV, doc, pm, an, cdv, ct, osl, e, lk, hcd, _, _⟩ := FF.ex
  exact ⟨d_rules_width_in, oc, od, osl, _, _, _, _, _, dV, kV, doc, pm, an, cdv, ct, n_rules_width_in, e, (by kernel_rfl : lt.tb.fns F.rules_width_in = some d_rules_width_in), congrArg (Option.map fun p => He.fAd K p) (by kernel_rfl : lt.at_.lookup F.rules_width_in = some h_rules_width_in.at_), lk, hcd, sc_rules_width_in, rfl, rfl, ch_rules_width_in, B⟩
theorem sc_rules_width_of : L2.FnScope n_rules_width_of p_rules_width_of (L2.defScope s_rules_width_of) := ⟨rfl, rfl, rfl, by decide +kernel, rfl, by decide +kernel, by decide +kernel⟩
theorem ch_rules_width_of : chkSs b_rules_width_of { lt.ck with sc := L2.defScope s_rules_width_of, ns := n_rules_width_of, top := true } (L2.defBody s_rules_width_of) = true := by kernel_rfl
theorem fx_rules_width_of (c : He.SaysD fcs dfs K) : ∃ fd, L2.FunD K "width_of" "width_of" (L2.defArgs s_rules_width_of) (L2.defBody s_rules_width_of) (L2.defScope s_rules_width_of) [] [] (He.fAd K h_rules_width_of.at_) fd ∧ FnX (lt.nm K) lt.tb lt.ck F.rules_width_of (He.fAd K h_rules_width_of.at_) fd p_rules_width_of := by
  obtain ⟨fd, FF⟩ := c.def_ 2 (d := h_rules_width_of) rfl
  have B : L2.Binds K fd p_rules_width_of [] := L2.FunD.bindsN FF fun _ _ _ _ _ _ us hl => match us, hl with | [_, _], _ => rfl
  refine ⟨fd, FF, ?_⟩
  obtain ⟨oc, od, dV, kV, doc, pm, an, cdv, ct, osl, e, lk, hcd, _, _⟩ := FF.ex
  exact ⟨d_rules_width_of, oc, od, osl, _, _, _, _, _, dV, kV, doc, pm, an, cdv, ct, n_rules_width_of, e, (by kernel_rfl : lt.tb.fns F.rules_width_of = some d_rules_width_of), congrArg (Option.map fun p => He.fAd K p) (by kernel_rfl : lt.at_.lookup F.rules_width_of = some h_rules_width_of.at_), lk, hcd, sc_rules_width_of, rfl, rfl, ch_rules_width_of, B⟩
theorem sc_entries_high_bits : L2.FnScope n_entries_high_bits p_entries_high_bits (L2.defScope s_entries_high_bits) := ⟨rfl, rfl, rfl, by decide +kernel, rfl, by decide +kernel, by decide +kernel⟩
theorem ch_entries_high_bits : chkSs b_entries_high_bits { lt.ck with sc := L2.defScope s_entries_high_bits, ns := n_entries_high_bits, top := true } (L2.defBody s_entries_high_bits) = true := by kernel_rfl
theorem fx_entries_high_bits (c : He.SaysD fcs dfs K) : ∃ fd, L2.FunD K "high_bits" "high_bits" (L2.defArgs s_entries_high_bits) (L2.defBody s_entries_high_bits) (L2.defScope s_entries_high_bits) [] [] (He.fAd K h_entries_high_bits.at_) fd ∧ FnX (lt.nm K) lt.tb lt.ck F.entries_high_bits (He.fAd K h_entries_high_bits.at_) fd p_entries_high_bits := by
  obtain ⟨fd, FF⟩ := c.def_ 3 (d := h_entries_high_bits) rfl
  have B : L2.Binds K fd p_entries_high_bits [] := L2.FunD.bindsN FF fun _ _ _ _ _ _ us hl => match us, hl with | [_, _], _ => rfl
  refine ⟨fd, FF, ?_⟩
  obtain ⟨oc, od, dV, kV, doc, pm, an, cdv, ct, osl, e, lk, hcd, _, _⟩ := FF.ex
  exact ⟨d_entries_high_bits, oc, od, osl, _, _, _, _, _, dV, kV, doc, pm, an, cdv, ct, n_entries_high_bits, e, (by kernel_rfl : lt.tb.fns F.entries_high_bits = some d_entries_high_bits), congrArg (Option.map fun p => He.fAd K p) (by kernel_rfl : lt.at_.lookup F.entries_high_bits = some h_entries_high_bits.at_), lk, hcd, sc_entries_high_bits, rfl, rfl, ch_entries_high_bits, B⟩
theorem sc_entries_key_matches : L2.FnScope n_entries_key_matches p_entries_key_matches (L2.defScope s_entries_key_matches) := ⟨rfl, rfl, rfl, by decide +kernel, rfl, by decide +kernel, by decide +kernel⟩
theorem ch_entries_key_matches : chkSs b_entries_key_matches { lt.ck with sc := L2.defScope s_entries_key_matches, ns := n_entries_key_matches, top := true } (L2.defBody s_entries_key_matches) = true := by kernel_rfl
theorem fx_entries_key_matches (c : He.SaysD fcs dfs K) : ∃ fd, L2.FunD K "key_matches" "key_matches" (L2.defArgs s_entries_key_matches) (L2.defBody s_entries_key_matches) (L2.defScope s_entries_key_matches) [] [] (He.fAd K h_entries_key_matches.at_) fd ∧ FnX (lt.nm K) lt.tb lt.ck F.entries_key_matches (He.fAd K h_entries_key_matches.at_) fd p_entries_key_matches := by
  obtain ⟨fd, FF⟩ := c.def_ 4 (d := h_entries_key_matches) rfl
  have B : L2.Binds K fd p_entries_key_matches [] := L2.FunD.bindsN FF fun _ _ _ _ _ _ us hl => match us, hl with | [_, _, _, _], _ => rfl
  refine ⟨fd, FF, ?_⟩
  obtain ⟨oc, od, dV, kV, doc, pm, an, cdv, ct, osl, e, lk, hcd, _, _⟩ := FF.ex
  exact ⟨d_entries_key_matches, oc, od, osl, _, _, _, _, _, dV, kV, doc, pm, an, cdv, ct, n_entries_key_matches, e, (by kernel_rfl : lt.tb.fns F.entries_key_matches = some d_entries_key_matches), congrArg (Option.map fun p => He.fAd K p) (by kernel_rfl : lt.at_.lookup F.entries_key_matches = some h_entries_key_matches.at_), lk, hcd, sc_entries_key_matches, rfl, rfl, ch_entries_key_matches, B⟩
theorem sc_entries_matches : L2.FnScope n_entries_matches p_entries_matches (L2.defScope s_entries_matches) := ⟨rfl, rfl, rfl, by decide +kernel, rfl, by decide +kernel, by decide +kernel⟩
theorem ch_entries_matches : chkSs b_entries_matches { lt.ck with sc := L2.defScope s_entries_matches, ns := n_entries_matches, top := true } (L2.defBody s_entries_matches) = true := by kernel_rfl
theorem fx_entries_matches (c : He.SaysD fcs dfs K) : ∃ fd, L2.FunD K "matches" "matches" (L2.defArgs s_entries_matches) (L2.defBody s_entries_matches) (L2.defScope s_entries_matches) [] [] (He.fAd K h_entries_matches.at_) fd ∧ FnX (lt.nm K) lt.tb lt.ck F.entries_matches (He.fAd K h_entries_matches.at_) fd p_entries_matches := by
  obtain ⟨fd, FF⟩ := c.def_ 5 (d := h_entries_matches) rfl
  have B : L2.Binds K fd p_entries_matches [] := L2.FunD.bindsN FF fun _ _ _ _ _ _ us hl => match us, hl with | [_, _, _, _], _ => rfl
  refine ⟨fd, FF, ?_⟩
  obtain ⟨oc, od, dV, kV, doc, pm, an, cdv, ct, osl, e, lk, hcd, _, _⟩ := FF.ex
  exact ⟨d_entries_matches, oc, od, osl, _, _, _, _, _, dV, kV, doc, pm, an, cdv, ct, n_entries_matches, e, (by kernel_rfl : lt.tb.fns F.entries_matches = some d_entries_matches), congrArg (Option.map fun p => He.fAd K p) (by kernel_rfl : lt.at_.lookup F.entries_matches = some h_entries_matches.at_), lk, hcd, sc_entries_matches, rfl, rfl, ch_entries_matches, B⟩
theorem sc_entries_prefix_length : L2.FnScope n_entries_prefix_length p_entries_prefix_length (L2.defScope s_entries_prefix_length) := ⟨rfl, rfl, rfl, by decide +kernel, rfl, by decide +kernel, by decide +kernel⟩
theorem ch_entries_prefix_length : chkSs b_entries_prefix_length { lt.ck with sc := L2.defScope s_entries_prefix_length, ns := n_entries_prefix_length, top := true } (L2.defBody s_entries_prefix_length) = true := by kernel_rfl
theorem fx_entries_prefix_length (c : He.SaysD fcs dfs K) : ∃ fd, L2.FunD K "prefix_length" "prefix_length" (L2.defArgs s_entries_prefix_length) (L2.defBody s_entries_prefix_length) (L2.defScope s_entries_prefix_length) [] [] (He.fAd K h_entries_prefix_length.at_) fd ∧ FnX (lt.nm K) lt.tb lt.ck F.entries_prefix_length (He.fAd K h_entries_prefix_length.at_) fd p_entries_prefix_length := by
  obtain ⟨fd, FF⟩ := c.def_ 6 (d := h_entries_prefix_length) rfl
  have B : L2.Binds K fd p_entries_prefix_length [] := L2.FunD.bindsN FF fun _ _ _ _ _ _ us hl => match us, hl with | [_, _, _], _ => rfl
  refine ⟨fd, FF, ?_⟩
  obtain ⟨oc, od, dV, kV, doc, pm, an, cdv, ct, osl, e, lk, hcd, _, _⟩ := FF.ex
  exact ⟨d_entries_prefix_length, oc, od, osl, _, _, _, _, _, dV, kV, doc, pm, an, cdv, ct, n_entries_prefix_length, e, (by kernel_rfl : lt.tb.fns F.entries_prefix_length = some d_entries_prefix_length), congrArg (Option.map fun p => He.fAd K p) (by kernel_rfl : lt.at_.lookup F.entries_prefix_length = some h_entries_prefix_length.at_), lk, hcd, sc_entries_prefix_length, rfl, rfl, ch_entries_prefix_length, B⟩
theorem sc_entries_choose : L2.FnScope n_entries_choose p_entries_choose (L2.defScope s_entries_choose) := ⟨rfl, rfl, rfl, by decide +kernel, rfl, by decide +kernel, by decide +kernel⟩
theorem ch_entries_choose : chkSs b_entries_choose { lt.ck with sc := L2.defScope s_entries_choose, ns := n_entries_choose, top := true } (L2.defBody s_entries_choose) = true := by kernel_rfl
theorem fx_entries_choose (c : He.SaysD fcs dfs K) : ∃ fd, L2.FunD K "choose" "choose" (L2.defArgs s_entries_choose) (L2.defBody s_entries_choose) (L2.defScope s_entries_choose) [] [] (He.fAd K h_entries_choose.at_) fd ∧ FnX (lt.nm K) lt.tb lt.ck F.entries_choose (He.fAd K h_entries_choose.at_) fd p_entries_choose := by
  obtain ⟨fd, FF⟩ := c.def_ 7 (d := h_entries_choose) rfl
  have B : L2.Binds K fd p_entries_choose [] := L2.FunD.bindsN FF fun _ _ _ _ _ _ us hl => match us, hl with | [_, _, _, _], _ => rfl
  refine ⟨fd, FF, ?_⟩
  obtain ⟨oc, od, dV, kV, doc, pm, an, cdv, ct, osl, e, lk, hcd, _, _⟩ := FF.ex
  exact ⟨d_entries_choose, oc, od, osl, _, _, _, _, _, dV, kV, doc, pm, an, cdv, ct, n_entries_choose, e, (by kernel_rfl : lt.tb.fns F.entries_choose = some d_entries_choose), congrArg (Option.map fun p => He.fAd K p) (by kernel_rfl : lt.at_.lookup F.entries_choose = some h_entries_choose.at_), lk, hcd, sc_entries_choose, rfl, rfl, ch_entries_choose, B⟩
theorem sc_entries_call_of : L2.FnScope n_entries_call_of p_entries_call_of (L2.defScope s_entries_call_of) := ⟨rfl, rfl, rfl, by decide +kernel, rfl, by decide +kernel, by decide +kernel⟩
theorem ch_entries_call_of : chkSs b_entries_call_of { lt.ck with sc := L2.defScope s_entries_call_of, ns := n_entries_call_of, top := true } (L2.defBody s_entries_call_of) = true := by kernel_rfl
theorem fx_entries_call_of (c : He.SaysD fcs dfs K) : ∃ fd, L2.FunD K "call_of" "call_of" (L2.defArgs s_entries_call_of) (L2.defBody s_entries_call_of) (L2.defScope s_entries_call_of) [] [] (He.fAd K h_entries_call_of.at_) fd ∧ FnX (lt.nm K) lt.tb lt.ck F.entries_call_of (He.fAd K h_entries_call_of.at_) fd p_entries_call_of := by
  obtain ⟨fd, FF⟩ := c.def_ 8 (d := h_entries_call_of) rfl
  have B : L2.Binds K fd p_entries_call_of [] := L2.FunD.bindsN FF fun _ _ _ _ _ _ us hl => match us, hl with | [_, _, _, _], _ => rfl
  refine ⟨fd, FF, ?_⟩
  obtain ⟨oc, od, dV, kV, doc, pm, an, cdv, ct, osl, e, lk, hcd, _, _⟩ := FF.ex
  exact ⟨d_entries_call_of, oc, od, osl, _, _, _, _, _, dV, kV, doc, pm, an, cdv, ct, n_entries_call_of, e, (by kernel_rfl : lt.tb.fns F.entries_call_of = some d_entries_call_of), congrArg (Option.map fun p => He.fAd K p) (by kernel_rfl : lt.at_.lookup F.entries_call_of = some h_entries_call_of.at_), lk, hcd, sc_entries_call_of, rfl, rfl, ch_entries_call_of, B⟩
theorem sc_L_state : L2.FnScope n_L_state p_L_state (L2.defScope s_L_state) := ⟨rfl, rfl, rfl, by decide +kernel, rfl, by decide +kernel, by decide +kernel⟩
theorem ch_L_state : chkSs b_L_state { lt.ck with sc := L2.defScope s_L_state, ns := n_L_state, top := true } (L2.defBody s_L_state) = true := by kernel_rfl
theorem fx_L_state (c : He.SaysD fcs dfs K) : ∃ fd, L2.FunD K "_law_state" "_law_state" (L2.defArgs s_L_state) (L2.defBody s_L_state) (L2.defScope s_L_state) [] [] (He.fAd K h_L_state.at_) fd ∧ FnX (lt.nm K) lt.tb lt.ck F.L_state (He.fAd K h_L_state.at_) fd p_L_state := by
  obtain ⟨fd, FF⟩ := c.def_ 9 (d := h_L_state) rfl
  have B : L2.Binds K fd p_L_state [] := L2.FunD.bindsN FF fun _ _ _ _ _ _ us hl => match us, hl with | [_], _ => rfl
  refine ⟨fd, FF, ?_⟩
  obtain ⟨oc, od, dV, kV, doc, pm, an, cdv, ct, osl, e, lk, hcd, _, _⟩ := FF.ex
  exact ⟨d_L_state, oc, od, osl, _, _, _, _, _, dV, kV, doc, pm, an, cdv, ct, n_L_state, e, (by kernel_rfl : lt.tb.fns F.L_state = some d_L_state), congrArg (Option.map fun p => He.fAd K p) (by kernel_rfl : lt.at_.lookup F.L_state = some h_L_state.at_), lk, hcd, sc_L_state, rfl, rfl, ch_L_state, B⟩
theorem sc_L_draw : L2.FnScope n_L_draw p_L_draw (L2.defScope s_L_draw) := ⟨rfl, rfl, rfl, by decide +kernel, rfl, by decide +kernel, by decide +kernel⟩
theorem ch_L_draw : chkSs b_L_draw { lt.ck with sc := L2.defScope s_L_draw, ns := n_L_draw, top := true } (L2.defBody s_L_draw) = true := by kernel_rfl
theorem fx_L_draw (c : He.SaysD fcs dfs K) : ∃ fd, L2.FunD K "_law_draw" "_law_draw" (L2.defArgs s_L_draw) (L2.defBody s_L_draw) (L2.defScope s_L_draw) [] [] (He.fAd K h_L_draw.at_) fd ∧ FnX (lt.nm K) lt.tb lt.ck F.L_draw (He.fAd K h_L_draw.at_) fd p_L_draw := by
  obtain ⟨fd, FF⟩ := c.def_ 10 (d := h_L_draw) rfl
  have B : L2.Binds K fd p_L_draw [] := L2.FunD.bindsN FF fun _ _ _ _ _ _ us hl => match us, hl with | [_, _], _ => rfl
  refine ⟨fd, FF, ?_⟩
  obtain ⟨oc, od, dV, kV, doc, pm, an, cdv, ct, osl, e, lk, hcd, _, _⟩ := FF.ex
  exact ⟨d_L_draw, oc, od, osl, _, _, _, _, _, dV, kV, doc, pm, an, cdv, ct, n_L_draw, e, (by kernel_rfl : lt.tb.fns F.L_draw = some d_L_draw), congrArg (Option.map fun p => He.fAd K p) (by kernel_rfl : lt.at_.lookup F.L_draw = some h_L_draw.at_), lk, hcd, sc_L_draw, rfl, rfl, ch_L_draw, B⟩
theorem sc_L_pick : L2.FnScope n_L_pick p_L_pick (L2.defScope s_L_pick) := ⟨rfl, rfl, rfl, by decide +kernel, rfl, by decide +kernel, by decide +kernel⟩
theorem ch_L_pick : chkSs b_L_pick { lt.ck with sc := L2.defScope s_L_pick, ns := n_L_pick, top := true } (L2.defBody s_L_pick) = true := by kernel_rfl
theorem fx_L_pick (c : He.SaysD fcs dfs K) : ∃ fd, L2.FunD K "_law_pick" "_law_pick" (L2.defArgs s_L_pick) (L2.defBody s_L_pick) (L2.defScope s_L_pick) [] [] (He.fAd K h_L_pick.at_) fd ∧ FnX (lt.nm K) lt.tb lt.ck F.L_pick (He.fAd K h_L_pick.at_) fd p_L_pick := by
  obtain ⟨fd, FF⟩ := c.def_ 11 (d := h_L_pick) rfl
  have B : L2.Binds K fd p_L_pick [] := L2.FunD.bindsN FF fun _ _ _ _ _ _ us hl => match us, hl with | [_, _], _ => rfl
  refine ⟨fd, FF, ?_⟩
  obtain ⟨oc, od, dV, kV, doc, pm, an, cdv, ct, osl, e, lk, hcd, _, _⟩ := FF.ex
  exact ⟨d_L_pick, oc, od, osl, _, _, _, _, _, dV, kV, doc, pm, an, cdv, ct, n_L_pick, e, (by kernel_rfl : lt.tb.fns F.L_pick = some d_L_pick), congrArg (Option.map fun p => He.fAd K p) (by kernel_rfl : lt.at_.lookup F.L_pick = some h_L_pick.at_), lk, hcd, sc_L_pick, rfl, rfl, ch_L_pick, B⟩
theorem sc_L_width : L2.FnScope n_L_width p_L_width (L2.defScope s_L_width) := ⟨rfl, rfl, rfl, by decide +kernel, rfl, by decide +kernel, by decide +kernel⟩
theorem ch_L_width : chkSs b_L_width { lt.ck with sc := L2.defScope s_L_width, ns := n_L_width, top := true } (L2.defBody s_L_width) = true := by kernel_rfl
theorem fx_L_width (c : He.SaysD fcs dfs K) : ∃ fd, L2.FunD K "_law_width" "_law_width" (L2.defArgs s_L_width) (L2.defBody s_L_width) (L2.defScope s_L_width) [] [] (He.fAd K h_L_width.at_) fd ∧ FnX (lt.nm K) lt.tb lt.ck F.L_width (He.fAd K h_L_width.at_) fd p_L_width := by
  obtain ⟨fd, FF⟩ := c.def_ 12 (d := h_L_width) rfl
  have B : L2.Binds K fd p_L_width [] := L2.FunD.bindsN FF fun _ _ _ _ _ _ us hl => match us, hl with | [_, _], _ => rfl
  refine ⟨fd, FF, ?_⟩
  obtain ⟨oc, od, dV, kV, doc, pm, an, cdv, ct, osl, e, lk, hcd, _, _⟩ := FF.ex
  exact ⟨d_L_width, oc, od, osl, _, _, _, _, _, dV, kV, doc, pm, an, cdv, ct, n_L_width, e, (by kernel_rfl : lt.tb.fns F.L_width = some d_L_width), congrArg (Option.map fun p => He.fAd K p) (by kernel_rfl : lt.at_.lookup F.L_width = some h_L_width.at_), lk, hcd, sc_L_width, rfl, rfl, ch_L_width, B⟩
theorem sc_L_item : L2.FnScope n_L_item p_L_item (L2.defScope s_L_item) := ⟨rfl, rfl, rfl, by decide +kernel, rfl, by decide +kernel, by decide +kernel⟩
theorem ch_L_item : chkSs b_L_item { lt.ck with sc := L2.defScope s_L_item, ns := n_L_item, top := true } (L2.defBody s_L_item) = true := by kernel_rfl
theorem fx_L_item (c : He.SaysD fcs dfs K) : ∃ fd, L2.FunD K "_law_item" "_law_item" (L2.defArgs s_L_item) (L2.defBody s_L_item) (L2.defScope s_L_item) [] [] (He.fAd K h_L_item.at_) fd ∧ FnX (lt.nm K) lt.tb lt.ck F.L_item (He.fAd K h_L_item.at_) fd p_L_item := by
  obtain ⟨fd, FF⟩ := c.def_ 13 (d := h_L_item) rfl
  have B : L2.Binds K fd p_L_item [] := L2.FunD.bindsN FF fun _ _ _ _ _ _ us hl => match us, hl with | [_, _, _], _ => rfl
  refine ⟨fd, FF, ?_⟩
  obtain ⟨oc, od, dV, kV, doc, pm, an, cdv, ct, osl, e, lk, hcd, _, _⟩ := FF.ex
  exact ⟨d_L_item, oc, od, osl, _, _, _, _, _, dV, kV, doc, pm, an, cdv, ct, n_L_item, e, (by kernel_rfl : lt.tb.fns F.L_item = some d_L_item), congrArg (Option.map fun p => He.fAd K p) (by kernel_rfl : lt.at_.lookup F.L_item = some h_L_item.at_), lk, hcd, sc_L_item, rfl, rfl, ch_L_item, B⟩
theorem sc_L_table_program_v2 : L2.FnScope n_L_table_program_v2 p_L_table_program_v2 (L2.defScope s_L_table_program_v2) := ⟨rfl, rfl, rfl, by decide +kernel, rfl, by decide +kernel, by decide +kernel⟩
theorem ch_L_table_program_v2 : chkSs b_L_table_program_v2 { lt.ck with sc := L2.defScope s_L_table_program_v2, ns := n_L_table_program_v2, top := true } (L2.defBody s_L_table_program_v2) = true := by kernel_rfl
theorem fx_L_table_program_v2 (c : He.SaysD fcs dfs K) : ∃ fd, L2.FunD K "_law_table_program" "_law_table_program" (L2.defArgs s_L_table_program_v2) (L2.defBody s_L_table_program_v2) (L2.defScope s_L_table_program_v2) [] [] (He.fAd K h_L_table_program_v2.at_) fd ∧ FnX (lt.nm K) lt.tb lt.ck F.L_table_program_v2 (He.fAd K h_L_table_program_v2.at_) fd p_L_table_program_v2 := by
  obtain ⟨fd, FF⟩ := c.def_ 14 (d := h_L_table_program_v2) rfl
  have B : L2.Binds K fd p_L_table_program_v2 [] := L2.FunD.bindsN FF fun _ _ _ _ _ _ us hl => match us, hl with | [_], _ => rfl
  refine ⟨fd, FF, ?_⟩
  obtain ⟨oc, od, dV, kV, doc, pm, an, cdv, ct, osl, e, lk, hcd, _, _⟩ := FF.ex
  exact ⟨d_L_table_program_v2, oc, od, osl, _, _, _, _, _, dV, kV, doc, pm, an, cdv, ct, n_L_table_program_v2, e, (by kernel_rfl : lt.tb.fns F.L_table_program_v2 = some d_L_table_program_v2), congrArg (Option.map fun p => He.fAd K p) (by kernel_rfl : lt.at_.lookup F.L_table_program_v2 = some h_L_table_program_v2.at_), lk, hcd, sc_L_table_program_v2, rfl, rfl, ch_L_table_program_v2, B⟩
theorem sc_L_hits : L2.FnScope n_L_hits p_L_hits (L2.defScope s_L_hits) := ⟨rfl, rfl, rfl, by decide +kernel, rfl, by decide +kernel, by decide +kernel⟩
theorem ch_L_hits : chkSs b_L_hits { lt.ck with sc := L2.defScope s_L_hits, ns := n_L_hits, top := true } (L2.defBody s_L_hits) = true := by kernel_rfl
theorem fx_L_hits (c : He.SaysD fcs dfs K) : ∃ fd, L2.FunD K "_law_hits" "_law_hits" (L2.defArgs s_L_hits) (L2.defBody s_L_hits) (L2.defScope s_L_hits) [] [] (He.fAd K h_L_hits.at_) fd ∧ FnX (lt.nm K) lt.tb lt.ck F.L_hits (He.fAd K h_L_hits.at_) fd p_L_hits := by
  obtain ⟨fd, FF⟩ := c.def_ 15 (d := h_L_hits) rfl
  have B : L2.Binds K fd p_L_hits [] := L2.FunD.bindsN FF fun _ _ _ _ _ _ us hl => match us, hl with | [_, _, _, _], _ => rfl
  refine ⟨fd, FF, ?_⟩
  obtain ⟨oc, od, dV, kV, doc, pm, an, cdv, ct, osl, e, lk, hcd, _, _⟩ := FF.ex
  exact ⟨d_L_hits, oc, od, osl, _, _, _, _, _, dV, kV, doc, pm, an, cdv, ct, n_L_hits, e, (by kernel_rfl : lt.tb.fns F.L_hits = some d_L_hits), congrArg (Option.map fun p => He.fAd K p) (by kernel_rfl : lt.at_.lookup F.L_hits = some h_L_hits.at_), lk, hcd, sc_L_hits, rfl, rfl, ch_L_hits, B⟩
theorem sc_L_near : L2.FnScope n_L_near p_L_near (L2.defScope s_L_near) := ⟨rfl, rfl, rfl, by decide +kernel, rfl, by decide +kernel, by decide +kernel⟩
theorem ch_L_near : chkSs b_L_near { lt.ck with sc := L2.defScope s_L_near, ns := n_L_near, top := true } (L2.defBody s_L_near) = true := by kernel_rfl
theorem fx_L_near (c : He.SaysD fcs dfs K) : ∃ fd, L2.FunD K "_law_near" "_law_near" (L2.defArgs s_L_near) (L2.defBody s_L_near) (L2.defScope s_L_near) [] [] (He.fAd K h_L_near.at_) fd ∧ FnX (lt.nm K) lt.tb lt.ck F.L_near (He.fAd K h_L_near.at_) fd p_L_near := by
  obtain ⟨fd, FF⟩ := c.def_ 16 (d := h_L_near) rfl
  have B : L2.Binds K fd p_L_near [] := L2.FunD.bindsN FF fun _ _ _ _ _ _ us hl => match us, hl with | [_, _, _, _], _ => rfl
  refine ⟨fd, FF, ?_⟩
  obtain ⟨oc, od, dV, kV, doc, pm, an, cdv, ct, osl, e, lk, hcd, _, _⟩ := FF.ex
  exact ⟨d_L_near, oc, od, osl, _, _, _, _, _, dV, kV, doc, pm, an, cdv, ct, n_L_near, e, (by kernel_rfl : lt.tb.fns F.L_near = some d_L_near), congrArg (Option.map fun p => He.fAd K p) (by kernel_rfl : lt.at_.lookup F.L_near = some h_L_near.at_), lk, hcd, sc_L_near, rfl, rfl, ch_L_near, B⟩
theorem sc_L_rows : L2.FnScope n_L_rows p_L_rows (L2.defScope s_L_rows) := ⟨rfl, rfl, rfl, by decide +kernel, rfl, by decide +kernel, by decide +kernel⟩
theorem ch_L_rows : chkSs b_L_rows { lt.ck with sc := L2.defScope s_L_rows, ns := n_L_rows, top := true } (L2.defBody s_L_rows) = true := by kernel_rfl
theorem fx_L_rows (c : He.SaysD fcs dfs K) : ∃ fd, L2.FunD K "_law_rows" "_law_rows" (L2.defArgs s_L_rows) (L2.defBody s_L_rows) (L2.defScope s_L_rows) [] [] (He.fAd K h_L_rows.at_) fd ∧ FnX (lt.nm K) lt.tb lt.ck F.L_rows (He.fAd K h_L_rows.at_) fd p_L_rows := by
  obtain ⟨fd, FF⟩ := c.def_ 17 (d := h_L_rows) rfl
  have B : L2.Binds K fd p_L_rows [] := L2.FunD.bindsN FF fun _ _ _ _ _ _ us hl => match us, hl with | [_, _, _], _ => rfl
  refine ⟨fd, FF, ?_⟩
  obtain ⟨oc, od, dV, kV, doc, pm, an, cdv, ct, osl, e, lk, hcd, _, _⟩ := FF.ex
  exact ⟨d_L_rows, oc, od, osl, _, _, _, _, _, dV, kV, doc, pm, an, cdv, ct, n_L_rows, e, (by kernel_rfl : lt.tb.fns F.L_rows = some d_L_rows), congrArg (Option.map fun p => He.fAd K p) (by kernel_rfl : lt.at_.lookup F.L_rows = some h_L_rows.at_), lk, hcd, sc_L_rows, rfl, rfl, ch_L_rows, B⟩
theorem sc_L_rank : L2.FnScope n_L_rank p_L_rank (L2.defScope s_L_rank) := ⟨rfl, rfl, rfl, by decide +kernel, rfl, by decide +kernel, by decide +kernel⟩
theorem ch_L_rank : chkSs b_L_rank { lt.ck with sc := L2.defScope s_L_rank, ns := n_L_rank, top := true } (L2.defBody s_L_rank) = true := by kernel_rfl
theorem fx_L_rank (c : He.SaysD fcs dfs K) : ∃ fd, L2.FunD K "_law_rank" "_law_rank" (L2.defArgs s_L_rank) (L2.defBody s_L_rank) (L2.defScope s_L_rank) [] [] (He.fAd K h_L_rank.at_) fd ∧ FnX (lt.nm K) lt.tb lt.ck F.L_rank (He.fAd K h_L_rank.at_) fd p_L_rank := by
  obtain ⟨fd, FF⟩ := c.def_ 18 (d := h_L_rank) rfl
  have B : L2.Binds K fd p_L_rank [] := L2.FunD.bindsN FF fun _ _ _ _ _ _ us hl => match us, hl with | [_, _], _ => rfl
  refine ⟨fd, FF, ?_⟩
  obtain ⟨oc, od, dV, kV, doc, pm, an, cdv, ct, osl, e, lk, hcd, _, _⟩ := FF.ex
  exact ⟨d_L_rank, oc, od, osl, _, _, _, _, _, dV, kV, doc, pm, an, cdv, ct, n_L_rank, e, (by kernel_rfl : lt.tb.fns F.L_rank = some d_L_rank), congrArg (Option.map fun p => He.fAd K p) (by kernel_rfl : lt.at_.lookup F.L_rank = some h_L_rank.at_), lk, hcd, sc_L_rank, rfl, rfl, ch_L_rank, B⟩
theorem sc_L_main_v9 : L2.FnScope n_L_main_v9 p_L_main_v9 (L2.defScope s_L_main_v9) := ⟨rfl, rfl, rfl, by decide +kernel, rfl, by decide +kernel, by decide +kernel⟩
theorem ch_L_main_v9 : chkSs b_L_main_v9 { lt.ck with sc := L2.defScope s_L_main_v9, ns := n_L_main_v9, top := true } (L2.defBody s_L_main_v9) = true := by kernel_rfl
theorem fx_L_main_v9 (c : He.SaysD fcs dfs K) : ∃ fd, L2.FunD K "law" "law" (L2.defArgs s_L_main_v9) (L2.defBody s_L_main_v9) (L2.defScope s_L_main_v9) [] [] (He.fAd K h_L_main_v9.at_) fd ∧ FnX (lt.nm K) lt.tb lt.ck F.L_main_v9 (He.fAd K h_L_main_v9.at_) fd p_L_main_v9 := by
  obtain ⟨fd, FF⟩ := c.def_ 19 (d := h_L_main_v9) rfl
  have B : L2.Binds K fd p_L_main_v9 [] := L2.FunD.bindsN FF fun _ _ _ _ _ _ us hl => match us, hl with | [_], _ => rfl
  refine ⟨fd, FF, ?_⟩
  obtain ⟨oc, od, dV, kV, doc, pm, an, cdv, ct, osl, e, lk, hcd, _, _⟩ := FF.ex
  exact ⟨d_L_main_v9, oc, od, osl, _, _, _, _, _, dV, kV, doc, pm, an, cdv, ct, n_L_main_v9, e, (by kernel_rfl : lt.tb.fns F.L_main_v9 = some d_L_main_v9), congrArg (Option.map fun p => He.fAd K p) (by kernel_rfl : lt.at_.lookup F.L_main_v9 = some h_L_main_v9.at_), lk, hcd, sc_L_main_v9, rfl, rfl, ch_L_main_v9, B⟩
theorem fds (c : He.SaysD fcs dfs K) : ∀ p ∈ lt.at_, FnD (lt.nm K) lt.tb lt.ck p.1 := by
  intro p hp
  simp only [lt, List.mem_cons, List.not_mem_nil, or_false] at hp
  rcases hp with rfl | rfl | rfl | rfl | rfl | rfl | rfl | rfl | rfl | rfl | rfl | rfl | rfl | rfl | rfl | rfl | rfl | rfl | rfl | rfl
  · exact (let ⟨_, _, x⟩ := fx_rules_find c; ⟨_, _, _, x⟩)
  · exact (let ⟨_, _, x⟩ := fx_rules_width_in c; ⟨_, _, _, x⟩)
  · exact (let ⟨_, _, x⟩ := fx_rules_width_of c; ⟨_, _, _, x⟩)
  · exact (let ⟨_, _, x⟩ := fx_entries_high_bits c; ⟨_, _, _, x⟩)
  · exact (let ⟨_, _, x⟩ := fx_entries_key_matches c; ⟨_, _, _, x⟩)
  · exact (let ⟨_, _, x⟩ := fx_entries_matches c; ⟨_, _, _, x⟩)
  · exact (let ⟨_, _, x⟩ := fx_entries_prefix_length c; ⟨_, _, _, x⟩)
  · exact (let ⟨_, _, x⟩ := fx_entries_choose c; ⟨_, _, _, x⟩)
  · exact (let ⟨_, _, x⟩ := fx_entries_call_of c; ⟨_, _, _, x⟩)
  · exact (let ⟨_, _, x⟩ := fx_L_state c; ⟨_, _, _, x⟩)
  · exact (let ⟨_, _, x⟩ := fx_L_draw c; ⟨_, _, _, x⟩)
  · exact (let ⟨_, _, x⟩ := fx_L_pick c; ⟨_, _, _, x⟩)
  · exact (let ⟨_, _, x⟩ := fx_L_width c; ⟨_, _, _, x⟩)
  · exact (let ⟨_, _, x⟩ := fx_L_item c; ⟨_, _, _, x⟩)
  · exact (let ⟨_, _, x⟩ := fx_L_table_program_v2 c; ⟨_, _, _, x⟩)
  · exact (let ⟨_, _, x⟩ := fx_L_hits c; ⟨_, _, _, x⟩)
  · exact (let ⟨_, _, x⟩ := fx_L_near c; ⟨_, _, _, x⟩)
  · exact (let ⟨_, _, x⟩ := fx_L_rows c; ⟨_, _, _, x⟩)
  · exact (let ⟨_, _, x⟩ := fx_L_rank c; ⟨_, _, _, x⟩)
  · exact (let ⟨_, _, x⟩ := fx_L_main_v9 c; ⟨_, _, _, x⟩)
theorem xini (c : He.SaysD fcs dfs K) (hB : xtB lt.tb "SwitchError" lt.xts K = true) (msw : mg (Str.ofString "SwitchError") = some (.ref (He.ga K "SwitchError"))) : ∀ e ∈ lt.xts, IniOk (lt.nm K) mg e := by
  obtain ⟨hsw, hall⟩ := Bool.and_eq_true_iff.mp hB
  have ox : ∀ e ∈ lt.xts, L2.OexC K (He.ga K e.x) ∧ ∀ f, e.ini = some (some f) → PySem.W.findIn K (.ref (He.ga K e.x)) (Str.ofString f) = some none := fun e he => by
    have q := List.all_eq_true.mp hall e he
    obtain ⟨q1, q2⟩ := Bool.and_eq_true_iff.mp q
    refine ⟨oexB_ok (Bool.and_eq_true_iff.mp q1).1, fun f hf => ?_⟩
    have q3 := (Bool.and_eq_true_iff.mp q2).1
    rw [hf] at q3
    exact He.eqO_ok (Bool.and_eq_true_iff.mp q3).2
  intro e he
  have hx := ox e he
  cases he
end
abbrev R : PySem.W.OpenRow := PySem.W.OpenLaw.row rw_
abbrev hk : PySem.W.Hook := hookP 5 fcs dfs exs
def ob (s : PySem.W.SharedT) : AlP := obsPG 5 fcs dfs exs (HandSHeadRun.getT s)
theorem ob_eq (s : PySem.W.SharedT) : ob s = hk.obs s.abs := obsPG_eq (HandSHeadRun.getT_eq s)
def loose : List Str := List.map Str.ofString ["__name__", "PORT", "find", "width_in", "width_of", "DEFAULT", "high_bits", "key_matches", "matches", "prefix_length", "choose", "call_of", "_law_state", "_law_draw", "_law_pick", "_law_width", "_law_item", "_law_table_program", "_law_hits", "_law_near", "_law_rows", "_law_rank"]
theorem run (w : World) : HandSHeadRun.RunEq R (PySem.W.view R.prog [24]) hk ob 12000 loose w := by
  intro os
  kernel_rfl
end Hd
end Py
open PySem PySem.W PySem.Calls PyProof.Rows
/-- the law, from what the evaluator says -/
theorem py_law (ev : ∀ ns : List Int, ns.length ≤ 63 → ∃ k s, k ≤ 100 ∧ Py.callF Py.tb k Py.F.L_main_v9 [.lst (ns.map .int)] [] = .ok (.bl true) s) : PySem.Challenge.rw_wholepackets_k09_chosen_entries.Holds := by
  w_on; o_law
  refine HandSHeadRun.head_any (r := OpenLaw.row PySem.Challenge.rw_wholepackets_k09_chosen_entries) (q := view (OpenLaw.row PySem.Challenge.rw_wholepackets_k09_chosen_entries).prog [24]) (H := Py.Hd.hk) (ob := Py.Hd.ob) (M := 12000) (loose := Py.Hd.loose) (d := HandSHeadRun.topDef (OpenLaw.row PySem.Challenge.rw_wholepackets_k09_chosen_entries).prog 24) (kwd := []) Py.Hd.ob_eq
    (by kernel_rfl) (fun s => by kernel_rfl) Py.Hd.run (by kernel_rfl) (by kernel_rfl) (by kernel_rfl) (by rfl) (by first | assumption | decide +kernel) (by decide +kernel) ⟨rfl, rfl, rfl, rfl, rfl, by decide +kernel⟩ ?hw ?hc
  case hw => w_witness2
  case hc =>
    refine Py.walk_law (l := PySem.Challenge.rw_wholepackets_k09_chosen_entries) (n := 63) (k := 201) (x := "_law_script") rfl (by decide) (by kernel_rfl) ⟨rfl, by decide, by decide⟩ ?F
    intro w mg fa h Y G hmg0
    obtain ⟨K, KX, cp⟩ := Y
    have c := cp.d
    have hmg : mg (Str.ofString "law") = some (.ref fa) := by
      have e : (HandSHeadRun.topDef (OpenLaw.row PySem.Challenge.rw_wholepackets_k09_chosen_entries).prog 24).name = Str.ofString "law" := by kernel_rfl
      rw [← e]
      exact hmg0
    have L := Py.lnk_of (t := Py.lt) KX G (by kernel_rfl) (cp.extra 0 rfl) (Py.Hd.fds c) (Py.Hd.xini c)
    obtain ⟨fd, F, FX⟩ := Py.Hd.fx_L_main_v9 c
    have efa : fa = He.fAd K (Str.ofString "law", none) := by
      obtain ⟨a, e1, e2, _⟩ := L.fns Py.F.L_main_v9 "law" (by kernel_rfl)
      have e3 : (Py.lt.nm K).fa Py.F.L_main_v9 = some (He.fAd K ((Str.ofString "law"), none)) := congrArg (Option.map fun p => He.fAd K p) (by kernel_rfl : Py.lt.at_.lookup Py.F.L_main_v9 = some ((Str.ofString "law"), (none : Option Str)))
      have e4 := Option.some.inj (e3.symm.trans e2)
      exact (Value.ref.inj (Option.some.inj (hmg.symm.trans e1))).trans e4.symm
    subst efa
    have B := L2.FunD.bindsA (ps := ["_law_script"]) F fun _ _ _ _ _ _ us hl => match us, hl with | [_], _ => rfl
    exact Py.law_end (c0 := Py.lt.ck) (f := Py.F.L_main_v9) L FX B KX ev

theorem PySem.Challenge.cw_wholepackets_k09_chosen_entries_holds : PySem.Challenge.rw_wholepackets_k09_chosen_entries.Holds :=
  py_law Py.law_ev
